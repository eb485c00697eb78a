import PyProof.Rows.All
import Wide.All
import OpenK.AllK
import Wide.FinOn
import HandS.Words
import HandS.HeadHook1
import HandS.HeadHook2
import HandS.HeadHook3
import HandS.HeadEnd
import HandS.Head2
import Wide.Once
import HandS.Base
import HandS.Call
import HandS.List
import HandS.Deep
import HandS.Text
import HandS.WordsExc
import HandS.CallSlots
import HandS.ForMost
import HandS.ForExc
import HandS.TupAny
import HandS.IsInst
import HandS.Style
import HandS.More
import HandS.StrMore
import HandS.Replace
import HandS.Defaults
import HandS.Ends
import HandS.SortKw
import PySem.Challenge.RW_everwalk_k23_pushed_or_not
-- text FzH
set_option Elab.async false
set_option linter.all false
set_option maxRecDepth 100000
set_option maxHeartbeats 2000000
namespace Fz
open PySem L2 PySem.Spec PyProof.Rows
/-! ### a head's facts, by a Bool of one's own -/
abbrev AlC : Type := Bool × He.AlT
def obsC (chk : PySem.W.Frag → Bool) (fn : List He.DefD) (ts : List He.Tab) (K : PySem.W.Frag) : AlC := (chk K, He.obsT [] fn ts K)
def valC (fn : List He.DefD) (ts : List He.Tab) (w : World) : AlC := (true, He.valT fn ts w)
def obsCG (n : Nat) (chk : PySem.W.Frag → Bool) (fn : List He.DefD) (ts : List He.Tab) (g : Addr → Option Obj) : AlC := obsC chk fn ts (He.frG g (He.asD g n))
def SaysC (chk : PySem.W.Frag → Bool) (fn : List He.DefD) (ts : List He.Tab) (w : World) (K : PySem.W.Frag) : Prop := obsC chk fn ts K = valC fn ts w
def hookC (n : Nat) (chk : PySem.W.Frag → Bool) (fn : List He.DefD) (ts : List He.Tab) : PySem.W.Hook where
  α := AlC
  obs := fun s => obsCG n chk fn ts s.heap.get?
  val := fun w => valC fn ts w
  says := fun w h => ∃ K : PySem.W.Frag, K.In h ∧ SaysC chk fn ts w K
  of := fun _ _ e => ⟨_, He.frG_in, e⟩
  keeps := fun _ _ _ ⟨K, hK, c⟩ k => ⟨K, PySem.W.Frag.In.keeps hK k, c⟩
theorem obsCG_eq {n : Nat} {chk : PySem.W.Frag → Bool} {fn : List He.DefD} {ts : List He.Tab} {g : Addr → Option Obj} {s : Shared} (h : ∀ a, g a = s.heap.get? a) : obsCG n chk fn ts g = (hookC n chk fn ts).obs s := by
  have e : g = s.heap.get? := funext h
  rw [e] <;> rfl
section
variable {chk : PySem.W.Frag → Bool} {fn : List He.DefD} {ts : List He.Tab} {w : World} {K : PySem.W.Frag} {h : Heap} {mg : Str → Option Value}
theorem SaysC.b (c : SaysC chk fn ts w K) : chk K = true := congrArg (fun z : AlC => z.1) c
theorem SaysC.t (c : SaysC chk fn ts w K) : He.SaysT [] fn ts w K := congrArg (fun z : AlC => z.2) c
/-- one fact of a list of them -/
theorem fact_at {fs : List (PySem.W.Frag → Bool)} (hc : (fs.all fun f => f K) = true) (i : Nat) {f : PySem.W.Frag → Bool} (h : fs[i]? = some f := by rfl) : f K = true := List.all_eq_true.mp hc f (List.mem_of_getElem? h)
end
def mknB (x : Str) (K : PySem.W.Frag) : Bool := PySem.W.makesIn K (He.ga K x) && (He.eqO (PySem.W.findIn K (.ref (He.ga K x)) "__init__") (some (some (.builtin "object.__init__"))) && PySem.W.keepIn K (.ref (He.ga K x)))
/-- an instance of the class x, a class y: is it one of it -/
def insB (x : Str) (K : PySem.W.Frag) : Bool := He.eqO (PySem.W.findIn K (.ref (He.ga K x)) "__class__") (some (some (.builtin "object.__class__"))) && (PySem.W.mroIn K (He.ga K x) (.type "object") == some true)
def insG (K : PySem.W.Frag) : Bool := He.eqO (PySem.W.specialIn K (.builtin "object.__class__") "__get__") (some (some (.builtin "getset_descriptor.__get__"))) && (PySem.W.takesIn K (.builtin "object.__class__") == some true)
def kitC (x y : Str) (b : Bool) (K : PySem.W.Frag) : Bool := PySem.W.kitOne K (.ref (He.ga K x)) (.ref (He.ga K y)) == some b
/-! ### a head's facts, looked up at told addresses -/
def obsLG (as : List Addr) (chk : PySem.W.Frag → Bool) (fn : List He.DefD) (ts : List He.Tab) (g : Addr → Option Obj) : AlC := obsC chk fn ts (He.frG g as)
def hookL (as : List Addr) (chk : PySem.W.Frag → Bool) (fn : List He.DefD) (ts : List He.Tab) : PySem.W.Hook where
  α := AlC
  obs := fun s => obsLG as chk fn ts s.heap.get?
  val := fun w => valC fn ts w
  says := fun w h => ∃ K : PySem.W.Frag, K.In h ∧ SaysC chk fn ts w K
  of := fun _ _ e => ⟨_, He.frG_in, e⟩
  keeps := fun _ _ _ ⟨K, hK, c⟩ k => ⟨K, PySem.W.Frag.In.keeps hK k, c⟩
theorem obsLG_eq {as : List Addr} {chk : PySem.W.Frag → Bool} {fn : List He.DefD} {ts : List He.Tab} {g : Addr → Option Obj} {s : Shared} (h : ∀ a, g a = s.heap.get? a) : obsLG as chk fn ts g = (hookL as chk fn ts).obs s := by
  have e : g = s.heap.get? := funext h
  rw [e] <;> rfl
/-- three looks at one run -/
theorem map3 {α β γ δ : Type} {o : Option α} {a : α → β} {b : α → γ} {c : α → δ} {x : β} {y : γ} {z : δ} (h1 : o.map a = some x) (h2 : o.map b = some y) (h3 : o.map c = some z) : o.map (fun s => (a s, b s, c s)) = some (x, y, z) := by
  cases o with
  | none => cases h1
  | some s => cases h1; cases h2; cases h3; rfl
end Fz

-- text K23d
set_option Elab.async false
set_option linter.all false
set_option maxRecDepth 100000
set_option maxHeartbeats 0
namespace K23
open PySem PySem.Spec PyProof.Rows L2 Fz
def topS (i : Nat) : Stmt := PySem.Challenge.pw_everwalk_k23_pushed_or_not.main.body.getD i (.Pass ⟨0, 0, 0, 0⟩)
abbrev s_kept_words : Stmt := topS 8
abbrev s_is_mark : Stmt := topS 9
abbrev s_Statement_word : Stmt := inClass (topS 13) 0
abbrev s_Statement_inner : Stmt := inClass (topS 13) 1
abbrev s_Again_word : Stmt := inClass (topS 27) 0
abbrev s_Before_word : Stmt := inClass (topS 21) 0
abbrev s_Both_word : Stmt := inClass (topS 29) 0
abbrev s_Early_word : Stmt := inClass (topS 22) 0
abbrev s_Either_word : Stmt := inClass (topS 30) 0
abbrev s_Ever_word : Stmt := inClass (topS 24) 0
abbrev s_Frees_word : Stmt := inClass (topS 34) 0
abbrev s_Held_word : Stmt := inClass (topS 35) 0
abbrev s_Next_word : Stmt := inClass (topS 20) 0
abbrev s_No_word : Stmt := inClass (topS 15) 0
abbrev s_Not_word : Stmt := inClass (topS 19) 0
abbrev s_Now_tree : Stmt := inClass (topS 16) 2
abbrev s_Now_word : Stmt := inClass (topS 16) 1
abbrev s_OfOne_inner : Stmt := inClass (topS 17) 1
abbrev s_OfTwo_inner : Stmt := inClass (topS 18) 1
abbrev s_Once_word : Stmt := inClass (topS 25) 0
abbrev s_Settles_word : Stmt := inClass (topS 28) 0
abbrev s_Since_word : Stmt := inClass (topS 33) 0
abbrev s_Sofar_word : Stmt := inClass (topS 26) 0
abbrev s_Soon_word : Stmt := inClass (topS 23) 0
abbrev s_Then_word : Stmt := inClass (topS 31) 0
abbrev s_Until_word : Stmt := inClass (topS 32) 0
abbrev s_Yes_word : Stmt := inClass (topS 14) 0
abbrev s_Statement_tree : Stmt := inClass (topS 13) 2
abbrev s_Now___init__ : Stmt := inClass (topS 16) 0
abbrev s_OfOne___init__ : Stmt := inClass (topS 17) 0
abbrev s_OfTwo___init__ : Stmt := inClass (topS 18) 0
abbrev s_of_one : Stmt := topS 36
abbrev s_of_two : Stmt := topS 37
abbrev s_is_form : Stmt := topS 38
abbrev s_need_tree : Stmt := topS 39
abbrev s_built : Stmt := topS 40
abbrev s_statement_of : Stmt := topS 41
abbrev s_soon_of : Stmt := topS 44
abbrev s_ever_of : Stmt := topS 45
abbrev s_plain_of : Stmt := topS 46
abbrev s_pushed_of : Stmt := topS 47
abbrev s_pushed : Stmt := topS 48
abbrev s_is_pushed : Stmt := topS 49
abbrev s__law_begin : Stmt := topS 51
abbrev s__law_next : Stmt := topS 52
abbrev s__law_mark_of : Stmt := topS 53
abbrev s__law_marks : Stmt := topS 54
abbrev s__law_leaf : Stmt := topS 55
abbrev s__law_tree : Stmt := topS 56
abbrev s__law_spoilt : Stmt := topS 58
abbrev s__law_is_pushed : Stmt := topS 59
abbrev s_law : Stmt := topS 60
/-! ### the head: facts by names, the run -/
def kvs_DUALS : List (Str × Str) := [("yes", "no"), ("no", "yes"), ("and", "or"), ("or", "and"), ("next", "next"), ("before", "early"), ("early", "before"), ("until", "frees"), ("frees", "until"), ("since", "held"), ("held", "since")]
def fns_0 : He.DefD := ⟨("kept_words", none), "kept_words", "kept_words", defArgs s_kept_words, defBody s_kept_words, defScope s_kept_words, [], []⟩
def fns_1 : He.DefD := ⟨("is_mark", none), "is_mark", "is_mark", defArgs s_is_mark, defBody s_is_mark, defScope s_is_mark, [], []⟩
def fns_2 : He.DefD := ⟨("of_one", none), "of_one", "of_one", defArgs s_of_one, defBody s_of_one, defScope s_of_one, [], []⟩
def fns_3 : He.DefD := ⟨("of_two", none), "of_two", "of_two", defArgs s_of_two, defBody s_of_two, defScope s_of_two, [], []⟩
def fns_4 : He.DefD := ⟨("is_form", none), "is_form", "is_form", defArgs s_is_form, defBody s_is_form, defScope s_is_form, [], []⟩
def fns_5 : He.DefD := ⟨("need_tree", none), "need_tree", "need_tree", defArgs s_need_tree, defBody s_need_tree, defScope s_need_tree, [], []⟩
def fns_6 : He.DefD := ⟨("built", none), "built", "built", defArgs s_built, defBody s_built, defScope s_built, [], []⟩
def fns_7 : He.DefD := ⟨("statement_of", none), "statement_of", "statement_of", defArgs s_statement_of, defBody s_statement_of, defScope s_statement_of, [], []⟩
def fns_8 : He.DefD := ⟨("soon_of", none), "soon_of", "soon_of", defArgs s_soon_of, defBody s_soon_of, defScope s_soon_of, [], []⟩
def fns_9 : He.DefD := ⟨("ever_of", none), "ever_of", "ever_of", defArgs s_ever_of, defBody s_ever_of, defScope s_ever_of, [], []⟩
def fns_10 : He.DefD := ⟨("plain_of", none), "plain_of", "plain_of", defArgs s_plain_of, defBody s_plain_of, defScope s_plain_of, [], []⟩
def fns_11 : He.DefD := ⟨("pushed_of", none), "pushed_of", "pushed_of", defArgs s_pushed_of, defBody s_pushed_of, defScope s_pushed_of, [], []⟩
def fns_12 : He.DefD := ⟨("pushed", none), "pushed", "pushed", defArgs s_pushed, defBody s_pushed, defScope s_pushed, [], []⟩
def fns_13 : He.DefD := ⟨("is_pushed", none), "is_pushed", "is_pushed", defArgs s_is_pushed, defBody s_is_pushed, defScope s_is_pushed, [], []⟩
def fns_14 : He.DefD := ⟨("_law_begin", none), "_law_begin", "_law_begin", defArgs s__law_begin, defBody s__law_begin, defScope s__law_begin, [], []⟩
def fns_15 : He.DefD := ⟨("_law_next", none), "_law_next", "_law_next", defArgs s__law_next, defBody s__law_next, defScope s__law_next, [], []⟩
def fns_16 : He.DefD := ⟨("_law_mark_of", none), "_law_mark_of", "_law_mark_of", defArgs s__law_mark_of, defBody s__law_mark_of, defScope s__law_mark_of, [], []⟩
def fns_17 : He.DefD := ⟨("_law_marks", none), "_law_marks", "_law_marks", defArgs s__law_marks, defBody s__law_marks, defScope s__law_marks, [], []⟩
def fns_18 : He.DefD := ⟨("_law_leaf", none), "_law_leaf", "_law_leaf", defArgs s__law_leaf, defBody s__law_leaf, defScope s__law_leaf, [], []⟩
def fns_19 : He.DefD := ⟨("_law_tree", none), "_law_tree", "_law_tree", defArgs s__law_tree, defBody s__law_tree, defScope s__law_tree, [], []⟩
def fns_20 : He.DefD := ⟨("_law_spoilt", none), "_law_spoilt", "_law_spoilt", defArgs s__law_spoilt, defBody s__law_spoilt, defScope s__law_spoilt, [], []⟩
def fns_21 : He.DefD := ⟨("_law_is_pushed", none), "_law_is_pushed", "_law_is_pushed", defArgs s__law_is_pushed, defBody s__law_is_pushed, defScope s__law_is_pushed, [], []⟩
def fns_22 : He.DefD := ⟨("law", none), "law", "law", defArgs s_law, defBody s_law, defScope s_law, [], []⟩
def fns_23 : He.DefD := ⟨("Statement", some "inner"), "inner", "Statement.inner", defArgs s_Statement_inner, defBody s_Statement_inner, defScope s_Statement_inner, [], []⟩
def fns_24 : He.DefD := ⟨("Yes", some "inner"), "inner", "Statement.inner", defArgs s_Statement_inner, defBody s_Statement_inner, defScope s_Statement_inner, [], []⟩
def fns_25 : He.DefD := ⟨("No", some "inner"), "inner", "Statement.inner", defArgs s_Statement_inner, defBody s_Statement_inner, defScope s_Statement_inner, [], []⟩
def fns_26 : He.DefD := ⟨("Now", some "inner"), "inner", "Statement.inner", defArgs s_Statement_inner, defBody s_Statement_inner, defScope s_Statement_inner, [], []⟩
def fns_27 : He.DefD := ⟨("OfOne", some "inner"), "inner", "OfOne.inner", defArgs s_OfOne_inner, defBody s_OfOne_inner, defScope s_OfOne_inner, [], []⟩
def fns_28 : He.DefD := ⟨("OfTwo", some "inner"), "inner", "OfTwo.inner", defArgs s_OfTwo_inner, defBody s_OfTwo_inner, defScope s_OfTwo_inner, [], []⟩
def fns_29 : He.DefD := ⟨("Not", some "inner"), "inner", "OfOne.inner", defArgs s_OfOne_inner, defBody s_OfOne_inner, defScope s_OfOne_inner, [], []⟩
def fns_30 : He.DefD := ⟨("Next", some "inner"), "inner", "OfOne.inner", defArgs s_OfOne_inner, defBody s_OfOne_inner, defScope s_OfOne_inner, [], []⟩
def fns_31 : He.DefD := ⟨("Before", some "inner"), "inner", "OfOne.inner", defArgs s_OfOne_inner, defBody s_OfOne_inner, defScope s_OfOne_inner, [], []⟩
def fns_32 : He.DefD := ⟨("Early", some "inner"), "inner", "OfOne.inner", defArgs s_OfOne_inner, defBody s_OfOne_inner, defScope s_OfOne_inner, [], []⟩
def fns_33 : He.DefD := ⟨("Soon", some "inner"), "inner", "OfOne.inner", defArgs s_OfOne_inner, defBody s_OfOne_inner, defScope s_OfOne_inner, [], []⟩
def fns_34 : He.DefD := ⟨("Ever", some "inner"), "inner", "OfOne.inner", defArgs s_OfOne_inner, defBody s_OfOne_inner, defScope s_OfOne_inner, [], []⟩
def fns_35 : He.DefD := ⟨("Once", some "inner"), "inner", "OfOne.inner", defArgs s_OfOne_inner, defBody s_OfOne_inner, defScope s_OfOne_inner, [], []⟩
def fns_36 : He.DefD := ⟨("Sofar", some "inner"), "inner", "OfOne.inner", defArgs s_OfOne_inner, defBody s_OfOne_inner, defScope s_OfOne_inner, [], []⟩
def fns_37 : He.DefD := ⟨("Again", some "inner"), "inner", "OfOne.inner", defArgs s_OfOne_inner, defBody s_OfOne_inner, defScope s_OfOne_inner, [], []⟩
def fns_38 : He.DefD := ⟨("Settles", some "inner"), "inner", "OfOne.inner", defArgs s_OfOne_inner, defBody s_OfOne_inner, defScope s_OfOne_inner, [], []⟩
def fns_39 : He.DefD := ⟨("Both", some "inner"), "inner", "OfTwo.inner", defArgs s_OfTwo_inner, defBody s_OfTwo_inner, defScope s_OfTwo_inner, [], []⟩
def fns_40 : He.DefD := ⟨("Either", some "inner"), "inner", "OfTwo.inner", defArgs s_OfTwo_inner, defBody s_OfTwo_inner, defScope s_OfTwo_inner, [], []⟩
def fns_41 : He.DefD := ⟨("Then", some "inner"), "inner", "OfTwo.inner", defArgs s_OfTwo_inner, defBody s_OfTwo_inner, defScope s_OfTwo_inner, [], []⟩
def fns_42 : He.DefD := ⟨("Until", some "inner"), "inner", "OfTwo.inner", defArgs s_OfTwo_inner, defBody s_OfTwo_inner, defScope s_OfTwo_inner, [], []⟩
def fns_43 : He.DefD := ⟨("Since", some "inner"), "inner", "OfTwo.inner", defArgs s_OfTwo_inner, defBody s_OfTwo_inner, defScope s_OfTwo_inner, [], []⟩
def fns_44 : He.DefD := ⟨("Frees", some "inner"), "inner", "OfTwo.inner", defArgs s_OfTwo_inner, defBody s_OfTwo_inner, defScope s_OfTwo_inner, [], []⟩
def fns_45 : He.DefD := ⟨("Held", some "inner"), "inner", "OfTwo.inner", defArgs s_OfTwo_inner, defBody s_OfTwo_inner, defScope s_OfTwo_inner, [], []⟩
def fns_46 : He.DefD := ⟨("Statement", some "tree"), "tree", "Statement.tree", defArgs s_Statement_tree, defBody s_Statement_tree, defScope s_Statement_tree, [], []⟩
def fns_47 : He.DefD := ⟨("Yes", some "tree"), "tree", "Statement.tree", defArgs s_Statement_tree, defBody s_Statement_tree, defScope s_Statement_tree, [], []⟩
def fns_48 : He.DefD := ⟨("No", some "tree"), "tree", "Statement.tree", defArgs s_Statement_tree, defBody s_Statement_tree, defScope s_Statement_tree, [], []⟩
def fns_49 : He.DefD := ⟨("Now", some "tree"), "tree", "Now.tree", defArgs s_Now_tree, defBody s_Now_tree, defScope s_Now_tree, [], []⟩
def fns_50 : He.DefD := ⟨("OfOne", some "tree"), "tree", "Statement.tree", defArgs s_Statement_tree, defBody s_Statement_tree, defScope s_Statement_tree, [], []⟩
def fns_51 : He.DefD := ⟨("OfTwo", some "tree"), "tree", "Statement.tree", defArgs s_Statement_tree, defBody s_Statement_tree, defScope s_Statement_tree, [], []⟩
def fns_52 : He.DefD := ⟨("Not", some "tree"), "tree", "Statement.tree", defArgs s_Statement_tree, defBody s_Statement_tree, defScope s_Statement_tree, [], []⟩
def fns_53 : He.DefD := ⟨("Next", some "tree"), "tree", "Statement.tree", defArgs s_Statement_tree, defBody s_Statement_tree, defScope s_Statement_tree, [], []⟩
def fns_54 : He.DefD := ⟨("Before", some "tree"), "tree", "Statement.tree", defArgs s_Statement_tree, defBody s_Statement_tree, defScope s_Statement_tree, [], []⟩
def fns_55 : He.DefD := ⟨("Early", some "tree"), "tree", "Statement.tree", defArgs s_Statement_tree, defBody s_Statement_tree, defScope s_Statement_tree, [], []⟩
def fns_56 : He.DefD := ⟨("Soon", some "tree"), "tree", "Statement.tree", defArgs s_Statement_tree, defBody s_Statement_tree, defScope s_Statement_tree, [], []⟩
def fns_57 : He.DefD := ⟨("Ever", some "tree"), "tree", "Statement.tree", defArgs s_Statement_tree, defBody s_Statement_tree, defScope s_Statement_tree, [], []⟩
def fns_58 : He.DefD := ⟨("Once", some "tree"), "tree", "Statement.tree", defArgs s_Statement_tree, defBody s_Statement_tree, defScope s_Statement_tree, [], []⟩
def fns_59 : He.DefD := ⟨("Sofar", some "tree"), "tree", "Statement.tree", defArgs s_Statement_tree, defBody s_Statement_tree, defScope s_Statement_tree, [], []⟩
def fns_60 : He.DefD := ⟨("Again", some "tree"), "tree", "Statement.tree", defArgs s_Statement_tree, defBody s_Statement_tree, defScope s_Statement_tree, [], []⟩
def fns_61 : He.DefD := ⟨("Settles", some "tree"), "tree", "Statement.tree", defArgs s_Statement_tree, defBody s_Statement_tree, defScope s_Statement_tree, [], []⟩
def fns_62 : He.DefD := ⟨("Both", some "tree"), "tree", "Statement.tree", defArgs s_Statement_tree, defBody s_Statement_tree, defScope s_Statement_tree, [], []⟩
def fns_63 : He.DefD := ⟨("Either", some "tree"), "tree", "Statement.tree", defArgs s_Statement_tree, defBody s_Statement_tree, defScope s_Statement_tree, [], []⟩
def fns_64 : He.DefD := ⟨("Then", some "tree"), "tree", "Statement.tree", defArgs s_Statement_tree, defBody s_Statement_tree, defScope s_Statement_tree, [], []⟩
def fns_65 : He.DefD := ⟨("Until", some "tree"), "tree", "Statement.tree", defArgs s_Statement_tree, defBody s_Statement_tree, defScope s_Statement_tree, [], []⟩
def fns_66 : He.DefD := ⟨("Since", some "tree"), "tree", "Statement.tree", defArgs s_Statement_tree, defBody s_Statement_tree, defScope s_Statement_tree, [], []⟩
def fns_67 : He.DefD := ⟨("Frees", some "tree"), "tree", "Statement.tree", defArgs s_Statement_tree, defBody s_Statement_tree, defScope s_Statement_tree, [], []⟩
def fns_68 : He.DefD := ⟨("Held", some "tree"), "tree", "Statement.tree", defArgs s_Statement_tree, defBody s_Statement_tree, defScope s_Statement_tree, [], []⟩
def fns_69 : He.DefD := ⟨("Statement", some "word"), "word", "Statement.word", defArgs s_Statement_word, defBody s_Statement_word, defScope s_Statement_word, [], []⟩
def fns_70 : He.DefD := ⟨("Yes", some "word"), "word", "Yes.word", defArgs s_Yes_word, defBody s_Yes_word, defScope s_Yes_word, [], []⟩
def fns_71 : He.DefD := ⟨("No", some "word"), "word", "No.word", defArgs s_No_word, defBody s_No_word, defScope s_No_word, [], []⟩
def fns_72 : He.DefD := ⟨("Now", some "word"), "word", "Now.word", defArgs s_Now_word, defBody s_Now_word, defScope s_Now_word, [], []⟩
def fns_73 : He.DefD := ⟨("OfOne", some "word"), "word", "Statement.word", defArgs s_Statement_word, defBody s_Statement_word, defScope s_Statement_word, [], []⟩
def fns_74 : He.DefD := ⟨("OfTwo", some "word"), "word", "Statement.word", defArgs s_Statement_word, defBody s_Statement_word, defScope s_Statement_word, [], []⟩
def fns_75 : He.DefD := ⟨("Not", some "word"), "word", "Not.word", defArgs s_Not_word, defBody s_Not_word, defScope s_Not_word, [], []⟩
def fns_76 : He.DefD := ⟨("Next", some "word"), "word", "Next.word", defArgs s_Next_word, defBody s_Next_word, defScope s_Next_word, [], []⟩
def fns_77 : He.DefD := ⟨("Before", some "word"), "word", "Before.word", defArgs s_Before_word, defBody s_Before_word, defScope s_Before_word, [], []⟩
def fns_78 : He.DefD := ⟨("Early", some "word"), "word", "Early.word", defArgs s_Early_word, defBody s_Early_word, defScope s_Early_word, [], []⟩
def fns_79 : He.DefD := ⟨("Soon", some "word"), "word", "Soon.word", defArgs s_Soon_word, defBody s_Soon_word, defScope s_Soon_word, [], []⟩
def fns_80 : He.DefD := ⟨("Ever", some "word"), "word", "Ever.word", defArgs s_Ever_word, defBody s_Ever_word, defScope s_Ever_word, [], []⟩
def fns_81 : He.DefD := ⟨("Once", some "word"), "word", "Once.word", defArgs s_Once_word, defBody s_Once_word, defScope s_Once_word, [], []⟩
def fns_82 : He.DefD := ⟨("Sofar", some "word"), "word", "Sofar.word", defArgs s_Sofar_word, defBody s_Sofar_word, defScope s_Sofar_word, [], []⟩
def fns_83 : He.DefD := ⟨("Again", some "word"), "word", "Again.word", defArgs s_Again_word, defBody s_Again_word, defScope s_Again_word, [], []⟩
def fns_84 : He.DefD := ⟨("Settles", some "word"), "word", "Settles.word", defArgs s_Settles_word, defBody s_Settles_word, defScope s_Settles_word, [], []⟩
def fns_85 : He.DefD := ⟨("Both", some "word"), "word", "Both.word", defArgs s_Both_word, defBody s_Both_word, defScope s_Both_word, [], []⟩
def fns_86 : He.DefD := ⟨("Either", some "word"), "word", "Either.word", defArgs s_Either_word, defBody s_Either_word, defScope s_Either_word, [], []⟩
def fns_87 : He.DefD := ⟨("Then", some "word"), "word", "Then.word", defArgs s_Then_word, defBody s_Then_word, defScope s_Then_word, [], []⟩
def fns_88 : He.DefD := ⟨("Until", some "word"), "word", "Until.word", defArgs s_Until_word, defBody s_Until_word, defScope s_Until_word, [], []⟩
def fns_89 : He.DefD := ⟨("Since", some "word"), "word", "Since.word", defArgs s_Since_word, defBody s_Since_word, defScope s_Since_word, [], []⟩
def fns_90 : He.DefD := ⟨("Frees", some "word"), "word", "Frees.word", defArgs s_Frees_word, defBody s_Frees_word, defScope s_Frees_word, [], []⟩
def fns_91 : He.DefD := ⟨("Held", some "word"), "word", "Held.word", defArgs s_Held_word, defBody s_Held_word, defScope s_Held_word, [], []⟩
def fns_92 : He.DefD := ⟨("Now", some "__init__"), "__init__", "Now.__init__", defArgs s_Now___init__, defBody s_Now___init__, defScope s_Now___init__, [], []⟩
def fns_93 : He.DefD := ⟨("Not", some "__init__"), "__init__", "OfOne.__init__", defArgs s_OfOne___init__, defBody s_OfOne___init__, defScope s_OfOne___init__, [], []⟩
def fns_94 : He.DefD := ⟨("Next", some "__init__"), "__init__", "OfOne.__init__", defArgs s_OfOne___init__, defBody s_OfOne___init__, defScope s_OfOne___init__, [], []⟩
def fns_95 : He.DefD := ⟨("Before", some "__init__"), "__init__", "OfOne.__init__", defArgs s_OfOne___init__, defBody s_OfOne___init__, defScope s_OfOne___init__, [], []⟩
def fns_96 : He.DefD := ⟨("Early", some "__init__"), "__init__", "OfOne.__init__", defArgs s_OfOne___init__, defBody s_OfOne___init__, defScope s_OfOne___init__, [], []⟩
def fns_97 : He.DefD := ⟨("Soon", some "__init__"), "__init__", "OfOne.__init__", defArgs s_OfOne___init__, defBody s_OfOne___init__, defScope s_OfOne___init__, [], []⟩
def fns_98 : He.DefD := ⟨("Ever", some "__init__"), "__init__", "OfOne.__init__", defArgs s_OfOne___init__, defBody s_OfOne___init__, defScope s_OfOne___init__, [], []⟩
def fns_99 : He.DefD := ⟨("Once", some "__init__"), "__init__", "OfOne.__init__", defArgs s_OfOne___init__, defBody s_OfOne___init__, defScope s_OfOne___init__, [], []⟩
def fns_100 : He.DefD := ⟨("Sofar", some "__init__"), "__init__", "OfOne.__init__", defArgs s_OfOne___init__, defBody s_OfOne___init__, defScope s_OfOne___init__, [], []⟩
def fns_101 : He.DefD := ⟨("Again", some "__init__"), "__init__", "OfOne.__init__", defArgs s_OfOne___init__, defBody s_OfOne___init__, defScope s_OfOne___init__, [], []⟩
def fns_102 : He.DefD := ⟨("Settles", some "__init__"), "__init__", "OfOne.__init__", defArgs s_OfOne___init__, defBody s_OfOne___init__, defScope s_OfOne___init__, [], []⟩
def fns_103 : He.DefD := ⟨("Both", some "__init__"), "__init__", "OfTwo.__init__", defArgs s_OfTwo___init__, defBody s_OfTwo___init__, defScope s_OfTwo___init__, [], []⟩
def fns_104 : He.DefD := ⟨("Either", some "__init__"), "__init__", "OfTwo.__init__", defArgs s_OfTwo___init__, defBody s_OfTwo___init__, defScope s_OfTwo___init__, [], []⟩
def fns_105 : He.DefD := ⟨("Then", some "__init__"), "__init__", "OfTwo.__init__", defArgs s_OfTwo___init__, defBody s_OfTwo___init__, defScope s_OfTwo___init__, [], []⟩
def fns_106 : He.DefD := ⟨("Until", some "__init__"), "__init__", "OfTwo.__init__", defArgs s_OfTwo___init__, defBody s_OfTwo___init__, defScope s_OfTwo___init__, [], []⟩
def fns_107 : He.DefD := ⟨("Since", some "__init__"), "__init__", "OfTwo.__init__", defArgs s_OfTwo___init__, defBody s_OfTwo___init__, defScope s_OfTwo___init__, [], []⟩
def fns_108 : He.DefD := ⟨("Frees", some "__init__"), "__init__", "OfTwo.__init__", defArgs s_OfTwo___init__, defBody s_OfTwo___init__, defScope s_OfTwo___init__, [], []⟩
def fns_109 : He.DefD := ⟨("Held", some "__init__"), "__init__", "OfTwo.__init__", defArgs s_OfTwo___init__, defBody s_OfTwo___init__, defScope s_OfTwo___init__, [], []⟩
def fns0 : List He.DefD := [fns_0, fns_1, fns_2, fns_3, fns_4, fns_5, fns_6, fns_7, fns_8, fns_9, fns_10, fns_11, fns_12, fns_13, fns_14, fns_15, fns_16, fns_17, fns_18, fns_19]
def fns1 : List He.DefD := [fns_20, fns_21, fns_22, fns_23, fns_24, fns_25, fns_26, fns_27, fns_28, fns_29, fns_30, fns_31, fns_32, fns_33, fns_34, fns_35, fns_36, fns_37, fns_38, fns_39]
def fns2 : List He.DefD := [fns_40, fns_41, fns_42, fns_43, fns_44, fns_45, fns_46, fns_47, fns_48, fns_49, fns_50, fns_51, fns_52, fns_53, fns_54, fns_55, fns_56, fns_57, fns_58, fns_59]
def fns3 : List He.DefD := [fns_60, fns_61, fns_62, fns_63, fns_64, fns_65, fns_66, fns_67, fns_68, fns_69, fns_70, fns_71, fns_72, fns_73, fns_74, fns_75, fns_76, fns_77, fns_78, fns_79]
def fns4 : List He.DefD := [fns_80, fns_81, fns_82, fns_83, fns_84, fns_85, fns_86, fns_87, fns_88, fns_89, fns_90, fns_91, fns_92, fns_93, fns_94, fns_95, fns_96, fns_97, fns_98, fns_99]
def fns5 : List He.DefD := [fns_100, fns_101, fns_102, fns_103, fns_104, fns_105, fns_106, fns_107, fns_108, fns_109]
def fns : List He.DefD := fns0 ++ fns1 ++ fns2 ++ fns3 ++ fns4 ++ fns5
def fas_0 : PySem.W.Frag → Bool := (fun K => (He.Fa.glo "kept_words").ok K)
def fas_1 : PySem.W.Frag → Bool := (fun K => (He.Fa.glo "is_mark").ok K)
def fas_2 : PySem.W.Frag → Bool := (fun K => (He.Fa.glo "of_one").ok K)
def fas_3 : PySem.W.Frag → Bool := (fun K => (He.Fa.glo "of_two").ok K)
def fas_4 : PySem.W.Frag → Bool := (fun K => (He.Fa.glo "is_form").ok K)
def fas_5 : PySem.W.Frag → Bool := (fun K => (He.Fa.glo "need_tree").ok K)
def fas_6 : PySem.W.Frag → Bool := (fun K => (He.Fa.glo "built").ok K)
def fas_7 : PySem.W.Frag → Bool := (fun K => (He.Fa.glo "statement_of").ok K)
def fas_8 : PySem.W.Frag → Bool := (fun K => (He.Fa.glo "soon_of").ok K)
def fas_9 : PySem.W.Frag → Bool := (fun K => (He.Fa.glo "ever_of").ok K)
def fas_10 : PySem.W.Frag → Bool := (fun K => (He.Fa.glo "plain_of").ok K)
def fas_11 : PySem.W.Frag → Bool := (fun K => (He.Fa.glo "pushed_of").ok K)
def fas_12 : PySem.W.Frag → Bool := (fun K => (He.Fa.glo "pushed").ok K)
def fas_13 : PySem.W.Frag → Bool := (fun K => (He.Fa.glo "is_pushed").ok K)
def fas_14 : PySem.W.Frag → Bool := (fun K => (He.Fa.glo "_law_begin").ok K)
def fas_15 : PySem.W.Frag → Bool := (fun K => (He.Fa.glo "_law_next").ok K)
def fas_16 : PySem.W.Frag → Bool := (fun K => (He.Fa.glo "_law_mark_of").ok K)
def fas_17 : PySem.W.Frag → Bool := (fun K => (He.Fa.glo "_law_marks").ok K)
def fas_18 : PySem.W.Frag → Bool := (fun K => (He.Fa.glo "_law_leaf").ok K)
def fas_19 : PySem.W.Frag → Bool := (fun K => (He.Fa.glo "_law_tree").ok K)
def fas_20 : PySem.W.Frag → Bool := (fun K => (He.Fa.glo "_law_spoilt").ok K)
def fas_21 : PySem.W.Frag → Bool := (fun K => (He.Fa.glo "_law_is_pushed").ok K)
def fas_22 : PySem.W.Frag → Bool := (fun K => (He.Fa.glo "law").ok K)
def fas_23 : PySem.W.Frag → Bool := (fun K => (He.Fa.glo "Statement").ok K)
def fas_24 : PySem.W.Frag → Bool := (fun K => (He.Fa.cls "Statement").ok K)
def fas_25 : PySem.W.Frag → Bool := (fun K => (He.Fa.glo "Yes").ok K)
def fas_26 : PySem.W.Frag → Bool := (fun K => (He.Fa.cls "Yes").ok K)
def fas_27 : PySem.W.Frag → Bool := (fun K => (He.Fa.glo "No").ok K)
def fas_28 : PySem.W.Frag → Bool := (fun K => (He.Fa.cls "No").ok K)
def fas_29 : PySem.W.Frag → Bool := (fun K => (He.Fa.glo "Now").ok K)
def fas_30 : PySem.W.Frag → Bool := (fun K => (He.Fa.cls "Now").ok K)
def fas_31 : PySem.W.Frag → Bool := (fun K => (He.Fa.noat "Now" "mark").ok K)
def fas_32 : PySem.W.Frag → Bool := (fun K => (He.Fa.glo "OfOne").ok K)
def fas_33 : PySem.W.Frag → Bool := (fun K => (He.Fa.cls "OfOne").ok K)
def fas_34 : PySem.W.Frag → Bool := (fun K => (He.Fa.noat "OfOne" "one").ok K)
def fas_35 : PySem.W.Frag → Bool := (fun K => (He.Fa.glo "OfTwo").ok K)
def fas_36 : PySem.W.Frag → Bool := (fun K => (He.Fa.cls "OfTwo").ok K)
def fas_37 : PySem.W.Frag → Bool := (fun K => (He.Fa.noat "OfTwo" "one").ok K)
def fas_38 : PySem.W.Frag → Bool := (fun K => (He.Fa.noat "OfTwo" "other").ok K)
def fas_39 : PySem.W.Frag → Bool := (fun K => (He.Fa.glo "Not").ok K)
def fas_40 : PySem.W.Frag → Bool := (fun K => (He.Fa.cls "Not").ok K)
def fas_41 : PySem.W.Frag → Bool := (fun K => (He.Fa.noat "Not" "one").ok K)
def fas_42 : PySem.W.Frag → Bool := (fun K => (He.Fa.glo "Next").ok K)
def fas_43 : PySem.W.Frag → Bool := (fun K => (He.Fa.cls "Next").ok K)
def fas_44 : PySem.W.Frag → Bool := (fun K => (He.Fa.noat "Next" "one").ok K)
def fas_45 : PySem.W.Frag → Bool := (fun K => (He.Fa.glo "Before").ok K)
def fas_46 : PySem.W.Frag → Bool := (fun K => (He.Fa.cls "Before").ok K)
def fas_47 : PySem.W.Frag → Bool := (fun K => (He.Fa.noat "Before" "one").ok K)
def fas_48 : PySem.W.Frag → Bool := (fun K => (He.Fa.glo "Early").ok K)
def fas_49 : PySem.W.Frag → Bool := (fun K => (He.Fa.cls "Early").ok K)
def fas_50 : PySem.W.Frag → Bool := (fun K => (He.Fa.noat "Early" "one").ok K)
def fas_51 : PySem.W.Frag → Bool := (fun K => (He.Fa.glo "Soon").ok K)
def fas_52 : PySem.W.Frag → Bool := (fun K => (He.Fa.cls "Soon").ok K)
def fas_53 : PySem.W.Frag → Bool := (fun K => (He.Fa.noat "Soon" "one").ok K)
def fas_54 : PySem.W.Frag → Bool := (fun K => (He.Fa.glo "Ever").ok K)
def fas_55 : PySem.W.Frag → Bool := (fun K => (He.Fa.cls "Ever").ok K)
def fas_56 : PySem.W.Frag → Bool := (fun K => (He.Fa.noat "Ever" "one").ok K)
def fas_57 : PySem.W.Frag → Bool := (fun K => (He.Fa.glo "Once").ok K)
def fas_58 : PySem.W.Frag → Bool := (fun K => (He.Fa.cls "Once").ok K)
def fas_59 : PySem.W.Frag → Bool := (fun K => (He.Fa.noat "Once" "one").ok K)
def fas_60 : PySem.W.Frag → Bool := (fun K => (He.Fa.glo "Sofar").ok K)
def fas_61 : PySem.W.Frag → Bool := (fun K => (He.Fa.cls "Sofar").ok K)
def fas_62 : PySem.W.Frag → Bool := (fun K => (He.Fa.noat "Sofar" "one").ok K)
def fas_63 : PySem.W.Frag → Bool := (fun K => (He.Fa.glo "Again").ok K)
def fas_64 : PySem.W.Frag → Bool := (fun K => (He.Fa.cls "Again").ok K)
def fas_65 : PySem.W.Frag → Bool := (fun K => (He.Fa.noat "Again" "one").ok K)
def fas_66 : PySem.W.Frag → Bool := (fun K => (He.Fa.glo "Settles").ok K)
def fas_67 : PySem.W.Frag → Bool := (fun K => (He.Fa.cls "Settles").ok K)
def fas_68 : PySem.W.Frag → Bool := (fun K => (He.Fa.noat "Settles" "one").ok K)
def fas_69 : PySem.W.Frag → Bool := (fun K => (He.Fa.glo "Both").ok K)
def fas_70 : PySem.W.Frag → Bool := (fun K => (He.Fa.cls "Both").ok K)
def fas_71 : PySem.W.Frag → Bool := (fun K => (He.Fa.noat "Both" "one").ok K)
def fas_72 : PySem.W.Frag → Bool := (fun K => (He.Fa.noat "Both" "other").ok K)
def fas_73 : PySem.W.Frag → Bool := (fun K => (He.Fa.glo "Either").ok K)
def fas_74 : PySem.W.Frag → Bool := (fun K => (He.Fa.cls "Either").ok K)
def fas_75 : PySem.W.Frag → Bool := (fun K => (He.Fa.noat "Either" "one").ok K)
def fas_76 : PySem.W.Frag → Bool := (fun K => (He.Fa.noat "Either" "other").ok K)
def fas_77 : PySem.W.Frag → Bool := (fun K => (He.Fa.glo "Then").ok K)
def fas_78 : PySem.W.Frag → Bool := (fun K => (He.Fa.cls "Then").ok K)
def fas_79 : PySem.W.Frag → Bool := (fun K => (He.Fa.noat "Then" "one").ok K)
def fas_80 : PySem.W.Frag → Bool := (fun K => (He.Fa.noat "Then" "other").ok K)
def fas_81 : PySem.W.Frag → Bool := (fun K => (He.Fa.glo "Until").ok K)
def fas_82 : PySem.W.Frag → Bool := (fun K => (He.Fa.cls "Until").ok K)
def fas_83 : PySem.W.Frag → Bool := (fun K => (He.Fa.noat "Until" "one").ok K)
def fas_84 : PySem.W.Frag → Bool := (fun K => (He.Fa.noat "Until" "other").ok K)
def fas_85 : PySem.W.Frag → Bool := (fun K => (He.Fa.glo "Since").ok K)
def fas_86 : PySem.W.Frag → Bool := (fun K => (He.Fa.cls "Since").ok K)
def fas_87 : PySem.W.Frag → Bool := (fun K => (He.Fa.noat "Since" "one").ok K)
def fas_88 : PySem.W.Frag → Bool := (fun K => (He.Fa.noat "Since" "other").ok K)
def fas_89 : PySem.W.Frag → Bool := (fun K => (He.Fa.glo "Frees").ok K)
def fas_90 : PySem.W.Frag → Bool := (fun K => (He.Fa.cls "Frees").ok K)
def fas_91 : PySem.W.Frag → Bool := (fun K => (He.Fa.noat "Frees" "one").ok K)
def fas_92 : PySem.W.Frag → Bool := (fun K => (He.Fa.noat "Frees" "other").ok K)
def fas_93 : PySem.W.Frag → Bool := (fun K => (He.Fa.glo "Held").ok K)
def fas_94 : PySem.W.Frag → Bool := (fun K => (He.Fa.cls "Held").ok K)
def fas_95 : PySem.W.Frag → Bool := (fun K => (He.Fa.noat "Held" "one").ok K)
def fas_96 : PySem.W.Frag → Bool := (fun K => (He.Fa.noat "Held" "other").ok K)
def fas_97 : PySem.W.Frag → Bool := (fun K => (He.Fa.meth "Statement" "inner").ok K)
def fas_98 : PySem.W.Frag → Bool := (fun K => (He.Fa.meth "Yes" "inner").ok K)
def fas_99 : PySem.W.Frag → Bool := (fun K => (He.Fa.meth "No" "inner").ok K)
def fas_100 : PySem.W.Frag → Bool := (fun K => (He.Fa.meth "Now" "inner").ok K)
def fas_101 : PySem.W.Frag → Bool := (fun K => (He.Fa.meth "OfOne" "inner").ok K)
def fas_102 : PySem.W.Frag → Bool := (fun K => (He.Fa.meth "OfTwo" "inner").ok K)
def fas_103 : PySem.W.Frag → Bool := (fun K => (He.Fa.meth "Not" "inner").ok K)
def fas_104 : PySem.W.Frag → Bool := (fun K => (He.Fa.meth "Next" "inner").ok K)
def fas_105 : PySem.W.Frag → Bool := (fun K => (He.Fa.meth "Before" "inner").ok K)
def fas_106 : PySem.W.Frag → Bool := (fun K => (He.Fa.meth "Early" "inner").ok K)
def fas_107 : PySem.W.Frag → Bool := (fun K => (He.Fa.meth "Soon" "inner").ok K)
def fas_108 : PySem.W.Frag → Bool := (fun K => (He.Fa.meth "Ever" "inner").ok K)
def fas_109 : PySem.W.Frag → Bool := (fun K => (He.Fa.meth "Once" "inner").ok K)
def fas_110 : PySem.W.Frag → Bool := (fun K => (He.Fa.meth "Sofar" "inner").ok K)
def fas_111 : PySem.W.Frag → Bool := (fun K => (He.Fa.meth "Again" "inner").ok K)
def fas_112 : PySem.W.Frag → Bool := (fun K => (He.Fa.meth "Settles" "inner").ok K)
def fas_113 : PySem.W.Frag → Bool := (fun K => (He.Fa.meth "Both" "inner").ok K)
def fas_114 : PySem.W.Frag → Bool := (fun K => (He.Fa.meth "Either" "inner").ok K)
def fas_115 : PySem.W.Frag → Bool := (fun K => (He.Fa.meth "Then" "inner").ok K)
def fas_116 : PySem.W.Frag → Bool := (fun K => (He.Fa.meth "Until" "inner").ok K)
def fas_117 : PySem.W.Frag → Bool := (fun K => (He.Fa.meth "Since" "inner").ok K)
def fas_118 : PySem.W.Frag → Bool := (fun K => (He.Fa.meth "Frees" "inner").ok K)
def fas_119 : PySem.W.Frag → Bool := (fun K => (He.Fa.meth "Held" "inner").ok K)
def fas_120 : PySem.W.Frag → Bool := (fun K => (He.Fa.meth "Statement" "tree").ok K)
def fas_121 : PySem.W.Frag → Bool := (fun K => (He.Fa.meth "Yes" "tree").ok K)
def fas_122 : PySem.W.Frag → Bool := (fun K => (He.Fa.meth "No" "tree").ok K)
def fas_123 : PySem.W.Frag → Bool := (fun K => (He.Fa.meth "Now" "tree").ok K)
def fas_124 : PySem.W.Frag → Bool := (fun K => (He.Fa.meth "OfOne" "tree").ok K)
def fas_125 : PySem.W.Frag → Bool := (fun K => (He.Fa.meth "OfTwo" "tree").ok K)
def fas_126 : PySem.W.Frag → Bool := (fun K => (He.Fa.meth "Not" "tree").ok K)
def fas_127 : PySem.W.Frag → Bool := (fun K => (He.Fa.meth "Next" "tree").ok K)
def fas_128 : PySem.W.Frag → Bool := (fun K => (He.Fa.meth "Before" "tree").ok K)
def fas_129 : PySem.W.Frag → Bool := (fun K => (He.Fa.meth "Early" "tree").ok K)
def fas_130 : PySem.W.Frag → Bool := (fun K => (He.Fa.meth "Soon" "tree").ok K)
def fas_131 : PySem.W.Frag → Bool := (fun K => (He.Fa.meth "Ever" "tree").ok K)
def fas_132 : PySem.W.Frag → Bool := (fun K => (He.Fa.meth "Once" "tree").ok K)
def fas_133 : PySem.W.Frag → Bool := (fun K => (He.Fa.meth "Sofar" "tree").ok K)
def fas_134 : PySem.W.Frag → Bool := (fun K => (He.Fa.meth "Again" "tree").ok K)
def fas_135 : PySem.W.Frag → Bool := (fun K => (He.Fa.meth "Settles" "tree").ok K)
def fas_136 : PySem.W.Frag → Bool := (fun K => (He.Fa.meth "Both" "tree").ok K)
def fas_137 : PySem.W.Frag → Bool := (fun K => (He.Fa.meth "Either" "tree").ok K)
def fas_138 : PySem.W.Frag → Bool := (fun K => (He.Fa.meth "Then" "tree").ok K)
def fas_139 : PySem.W.Frag → Bool := (fun K => (He.Fa.meth "Until" "tree").ok K)
def fas_140 : PySem.W.Frag → Bool := (fun K => (He.Fa.meth "Since" "tree").ok K)
def fas_141 : PySem.W.Frag → Bool := (fun K => (He.Fa.meth "Frees" "tree").ok K)
def fas_142 : PySem.W.Frag → Bool := (fun K => (He.Fa.meth "Held" "tree").ok K)
def fas_143 : PySem.W.Frag → Bool := (fun K => (He.Fa.meth "Statement" "word").ok K)
def fas_144 : PySem.W.Frag → Bool := (fun K => (He.Fa.meth "Yes" "word").ok K)
def fas_145 : PySem.W.Frag → Bool := (fun K => (He.Fa.meth "No" "word").ok K)
def fas_146 : PySem.W.Frag → Bool := (fun K => (He.Fa.meth "Now" "word").ok K)
def fas_147 : PySem.W.Frag → Bool := (fun K => (He.Fa.meth "OfOne" "word").ok K)
def fas_148 : PySem.W.Frag → Bool := (fun K => (He.Fa.meth "OfTwo" "word").ok K)
def fas_149 : PySem.W.Frag → Bool := (fun K => (He.Fa.meth "Not" "word").ok K)
def fas_150 : PySem.W.Frag → Bool := (fun K => (He.Fa.meth "Next" "word").ok K)
def fas_151 : PySem.W.Frag → Bool := (fun K => (He.Fa.meth "Before" "word").ok K)
def fas_152 : PySem.W.Frag → Bool := (fun K => (He.Fa.meth "Early" "word").ok K)
def fas_153 : PySem.W.Frag → Bool := (fun K => (He.Fa.meth "Soon" "word").ok K)
def fas_154 : PySem.W.Frag → Bool := (fun K => (He.Fa.meth "Ever" "word").ok K)
def fas_155 : PySem.W.Frag → Bool := (fun K => (He.Fa.meth "Once" "word").ok K)
def fas_156 : PySem.W.Frag → Bool := (fun K => (He.Fa.meth "Sofar" "word").ok K)
def fas_157 : PySem.W.Frag → Bool := (fun K => (He.Fa.meth "Again" "word").ok K)
def fas_158 : PySem.W.Frag → Bool := (fun K => (He.Fa.meth "Settles" "word").ok K)
def fas_159 : PySem.W.Frag → Bool := (fun K => (He.Fa.meth "Both" "word").ok K)
def fas_160 : PySem.W.Frag → Bool := (fun K => (He.Fa.meth "Either" "word").ok K)
def fas_161 : PySem.W.Frag → Bool := (fun K => (He.Fa.meth "Then" "word").ok K)
def fas_162 : PySem.W.Frag → Bool := (fun K => (He.Fa.meth "Until" "word").ok K)
def fas_163 : PySem.W.Frag → Bool := (fun K => (He.Fa.meth "Since" "word").ok K)
def fas_164 : PySem.W.Frag → Bool := (fun K => (He.Fa.meth "Frees" "word").ok K)
def fas_165 : PySem.W.Frag → Bool := (fun K => (He.Fa.meth "Held" "word").ok K)
def fas_166 : PySem.W.Frag → Bool := mknB "Yes"
def fas_167 : PySem.W.Frag → Bool := mknB "No"
def fas_168 : PySem.W.Frag → Bool := (fun K => (He.Fa.mkr "Now").ok K)
def fas_169 : PySem.W.Frag → Bool := (fun K => (He.Fa.mkr "Not").ok K)
def fas_170 : PySem.W.Frag → Bool := (fun K => (He.Fa.mkr "Next").ok K)
def fas_171 : PySem.W.Frag → Bool := (fun K => (He.Fa.mkr "Before").ok K)
def fas_172 : PySem.W.Frag → Bool := (fun K => (He.Fa.mkr "Early").ok K)
def fas_173 : PySem.W.Frag → Bool := (fun K => (He.Fa.mkr "Soon").ok K)
def fas_174 : PySem.W.Frag → Bool := (fun K => (He.Fa.mkr "Ever").ok K)
def fas_175 : PySem.W.Frag → Bool := (fun K => (He.Fa.mkr "Once").ok K)
def fas_176 : PySem.W.Frag → Bool := (fun K => (He.Fa.mkr "Sofar").ok K)
def fas_177 : PySem.W.Frag → Bool := (fun K => (He.Fa.mkr "Again").ok K)
def fas_178 : PySem.W.Frag → Bool := (fun K => (He.Fa.mkr "Settles").ok K)
def fas_179 : PySem.W.Frag → Bool := (fun K => (He.Fa.mkr "Both").ok K)
def fas_180 : PySem.W.Frag → Bool := (fun K => (He.Fa.mkr "Either").ok K)
def fas_181 : PySem.W.Frag → Bool := (fun K => (He.Fa.mkr "Then").ok K)
def fas_182 : PySem.W.Frag → Bool := (fun K => (He.Fa.mkr "Until").ok K)
def fas_183 : PySem.W.Frag → Bool := (fun K => (He.Fa.mkr "Since").ok K)
def fas_184 : PySem.W.Frag → Bool := (fun K => (He.Fa.mkr "Frees").ok K)
def fas_185 : PySem.W.Frag → Bool := (fun K => (He.Fa.mkr "Held").ok K)
def fas_186 : PySem.W.Frag → Bool := (fun K => (He.Fa.free "all").ok K)
def fas_187 : PySem.W.Frag → Bool := (fun K => (He.Fa.free "bool").ok K)
def fas_188 : PySem.W.Frag → Bool := (fun K => (He.Fa.free "isinstance").ok K)
def fas_189 : PySem.W.Frag → Bool := (fun K => (He.Fa.free "len").ok K)
def fas_190 : PySem.W.Frag → Bool := (fun K => (He.Fa.free "range").ok K)
def fas_191 : PySem.W.Frag → Bool := (fun K => (He.Fa.free "str").ok K)
def fas_192 : PySem.W.Frag → Bool := (fun K => (He.Fa.free "tuple").ok K)
def fas_193 : PySem.W.Frag → Bool := (fun K => (He.Fa.glo "DUALS").ok K)
def fas_194 : PySem.W.Frag → Bool := (fun K => He.valsB K (He.ga K "DUALS") (kvs_DUALS.map fun p => (p.1, He.Dv.str p.2)))
def fas_195 : PySem.W.Frag → Bool := (fun K => (He.Fa.str "FIGURES" "0123456789").ok K)
def fas_196 : PySem.W.Frag → Bool := (fun K => (He.Fa.int "MOST_SIGNS" 8).ok K)
def fas_197 : PySem.W.Frag → Bool := (fun K => (He.Fa.glo "OF_ONE").ok K)
def fas_198 : PySem.W.Frag → Bool := (fun K => He.tupB K "OF_ONE" ((["not", "next", "before", "early", "soon", "ever", "once", "sofar", "again", "settles"] : List Str).map He.Dv.str))
def fas_199 : PySem.W.Frag → Bool := (fun K => (He.Fa.glo "OF_TWO").ok K)
def fas_200 : PySem.W.Frag → Bool := (fun K => He.tupB K "OF_TWO" ((["and", "or", "then", "until", "since", "frees", "held"] : List Str).map He.Dv.str))
def fas_201 : PySem.W.Frag → Bool := (fun K => (He.Fa.str "SMALL" "abcdefghijklmnopqrstuvwxyz").ok K)
def fas0 : List (PySem.W.Frag → Bool) := [fas_0, fas_1, fas_2, fas_3, fas_4, fas_5, fas_6, fas_7, fas_8, fas_9, fas_10, fas_11, fas_12, fas_13, fas_14, fas_15, fas_16, fas_17, fas_18, fas_19]
def fas1 : List (PySem.W.Frag → Bool) := [fas_20, fas_21, fas_22, fas_23, fas_24, fas_25, fas_26, fas_27, fas_28, fas_29, fas_30, fas_31, fas_32, fas_33, fas_34, fas_35, fas_36, fas_37, fas_38, fas_39]
def fas2 : List (PySem.W.Frag → Bool) := [fas_40, fas_41, fas_42, fas_43, fas_44, fas_45, fas_46, fas_47, fas_48, fas_49, fas_50, fas_51, fas_52, fas_53, fas_54, fas_55, fas_56, fas_57, fas_58, fas_59]
def fas3 : List (PySem.W.Frag → Bool) := [fas_60, fas_61, fas_62, fas_63, fas_64, fas_65, fas_66, fas_67, fas_68, fas_69, fas_70, fas_71, fas_72, fas_73, fas_74, fas_75, fas_76, fas_77, fas_78, fas_79]
def fas4 : List (PySem.W.Frag → Bool) := [fas_80, fas_81, fas_82, fas_83, fas_84, fas_85, fas_86, fas_87, fas_88, fas_89, fas_90, fas_91, fas_92, fas_93, fas_94, fas_95, fas_96, fas_97, fas_98, fas_99]
def fas5 : List (PySem.W.Frag → Bool) := [fas_100, fas_101, fas_102, fas_103, fas_104, fas_105, fas_106, fas_107, fas_108, fas_109, fas_110, fas_111, fas_112, fas_113, fas_114, fas_115, fas_116, fas_117, fas_118, fas_119]
def fas6 : List (PySem.W.Frag → Bool) := [fas_120, fas_121, fas_122, fas_123, fas_124, fas_125, fas_126, fas_127, fas_128, fas_129, fas_130, fas_131, fas_132, fas_133, fas_134, fas_135, fas_136, fas_137, fas_138, fas_139]
def fas7 : List (PySem.W.Frag → Bool) := [fas_140, fas_141, fas_142, fas_143, fas_144, fas_145, fas_146, fas_147, fas_148, fas_149, fas_150, fas_151, fas_152, fas_153, fas_154, fas_155, fas_156, fas_157, fas_158, fas_159]
def fas8 : List (PySem.W.Frag → Bool) := [fas_160, fas_161, fas_162, fas_163, fas_164, fas_165, fas_166, fas_167, fas_168, fas_169, fas_170, fas_171, fas_172, fas_173, fas_174, fas_175, fas_176, fas_177, fas_178, fas_179]
def fas9 : List (PySem.W.Frag → Bool) := [fas_180, fas_181, fas_182, fas_183, fas_184, fas_185, fas_186, fas_187, fas_188, fas_189, fas_190, fas_191, fas_192, fas_193, fas_194, fas_195, fas_196, fas_197, fas_198, fas_199]
def fas10 : List (PySem.W.Frag → Bool) := [fas_200, fas_201]
def fas : List (PySem.W.Frag → Bool) := fas0 ++ fas1 ++ fas2 ++ fas3 ++ fas4 ++ fas5 ++ fas6 ++ fas7 ++ fas8 ++ fas9 ++ fas10
def chk (K : PySem.W.Frag) : Bool := fas.all fun f => f K
def tss_0 : He.Tab := ((fun K => He.ga K "DUALS"), ["yes", "no", "and", "or", "next", "before", "early", "until", "frees", "since", "held"])
def tss : List He.Tab := [tss_0]
def nms0 : List PySem.Str := ["_wall", "EverError", "NoStatement", "SMALL", "FIGURES", "MOST_SIGNS", "kept_words", "is_mark", "OF_ONE", "OF_TWO", "Statement", "Yes", "No", "Now", "OfOne", "OfTwo", "Not", "Next", "Before", "Early"]
def nms1 : List PySem.Str := ["Soon", "Ever", "Once", "Sofar", "Again", "Settles", "Both", "Either", "Then", "Until", "Since", "Frees", "Held", "of_one", "of_two", "is_form", "need_tree", "built", "statement_of", "DUALS"]
def nms2 : List PySem.Str := ["soon_of", "ever_of", "plain_of", "pushed_of", "pushed", "is_pushed", "_law_begin", "_law_next", "_law_mark_of", "_law_marks", "_law_leaf", "_law_tree", "_law_drawn", "_law_spoilt", "_law_is_pushed"]
def nms : List PySem.Str := nms0 ++ nms1 ++ nms2
abbrev Rw : PySem.W.OpenRow := PySem.W.OpenLaw.row PySem.Challenge.rw_everwalk_k23_pushed_or_not
def asL : List Addr := [3, 53, 58, 59, 60, 96, 117, 136, 176, 209, 242, 261, 280, 299, 318, 337, 356, 375, 394, 413, 432, 451, 470, 489, 508, 527, 546, 565, 574, 581] ++ [588, 593, 598, 605, 606, 613, 620, 625, 630, 637, 644, 651, 658, 665, 670, 677, 684, 698, 703, 710, 52, 57, 95, 116, 135, 175, 208, 241, 260, 279] ++ [298, 317, 336, 355, 374, 393, 412, 431, 450, 469, 488, 507, 526, 545, 564, 573, 580, 587, 592, 597, 604, 612, 619, 624, 629, 636, 643, 650, 657, 664] ++ [669, 676, 683, 697, 702, 709, 74, 81, 86, 114, 133, 152, 159, 166, 192, 199, 225, 232, 258, 277, 296, 315, 334, 353, 372, 391, 410, 429, 448, 467] ++ [486, 505, 524, 543, 562, 73, 80, 85, 113, 132, 151, 158, 165, 191, 198, 224, 231, 257, 276, 295, 314, 333, 352, 371, 390, 409, 428, 447, 466, 485] ++ [504, 523, 542, 561]
abbrev hk : PySem.W.Hook := hookL asL chk fns tss
def obH (s : PySem.W.SharedT) : AlC := obsLG asL chk fns tss (HandSHeadRun.getT s)
theorem obH_eq (s : PySem.W.SharedT) : obH s = hk.obs s.abs := obsLG_eq (HandSHeadRun.getT_eq s)
noncomputable abbrev endH (w : World) (os : OsState) : Option PySem.W.SharedT := HandSHeadRun.endF (HandSHeadRun.stepQ (HandSHeadRun.denQ HandSHeadRun.tabQ) Rw.prog w) 30000 Rw.prog w os
theorem runH1 (w : World) : ∀ os : OsState, (endH w os).map (fun s => HandSHeadRun.looksF Rw.prog (PySem.W.boot_heap w.params) s.abs) = some true := by
  refine PySem.W.byRow2 "special-get-raises" (P := fun w => ∀ os : OsState, (endH w os).map (fun s => HandSHeadRun.looksF Rw.prog (PySem.W.boot_heap w.params) s.abs) = some true) (fun w os => ?_) (fun w os => ?_) w
  · kernel_rfl
  · kernel_rfl
theorem runH2 (w : World) : ∀ os : OsState, (endH w os).map (fun s => HandSHeadRun.seenQ (PySem.W.view Rw.prog [60]) nms (importedModules Rw.prog.main.body) (fun s => PySem.W.xlAt (PySem.W.view Rw.prog [60]) [] s && PySem.W.recOk Rw.toRowW.records s) s.abs) = some (PySem.W.openGood (PySem.W.view Rw.prog [60]) nms) := by
  refine PySem.W.byRow2 "special-get-raises" (P := fun w => ∀ os : OsState, (endH w os).map (fun s => HandSHeadRun.seenQ (PySem.W.view Rw.prog [60]) nms (importedModules Rw.prog.main.body) (fun s => PySem.W.xlAt (PySem.W.view Rw.prog [60]) [] s && PySem.W.recOk Rw.toRowW.records s) s.abs) = some (PySem.W.openGood (PySem.W.view Rw.prog [60]) nms)) (fun w os => ?_) (fun w os => ?_) w
  · kernel_rfl
  · kernel_rfl
theorem runH3 (w : World) : ∀ os : OsState, (endH w os).map obH = some (hk.val w) := by
  refine PySem.W.byRow2 "special-get-raises" (P := fun w => ∀ os : OsState, (endH w os).map obH = some (hk.val w)) (fun w os => ?_) (fun w os => ?_) w
  · kernel_rfl
  · kernel_rfl
theorem runH (w : World) : HandSHeadRun.RunEq Rw (PySem.W.view Rw.prog [60]) hk obH 30000 nms w := fun os => Fz.map3 (runH1 w os) (runH2 w os) (runH3 w os)
end K23

-- text Fz1
set_option Elab.async false
set_option linter.all false
set_option maxRecDepth 100000
set_option maxHeartbeats 2000000
/-! Fz: data, what holds them, and what a def does with them as a plain function. -/
namespace Fz
open PySem L2

/-! ### data -/
inductive D where
  | non | bl (b : Bool) | int (i : Int) | str (s : Str) | tup (ds : List D) | lst (ds : List D) | obj (c : Nat) (fs : List D) | dct (ks vs : List D)
/-- what is the same throughout: the written part, the classes and their attributes -/
structure Tab where
  K : PySem.W.Frag
  cls : Nat → Addr
  flds : Nat → List Str

def Tu (T : Tab) (B : Hp) (a : Addr) (xs : List V) : Prop := B a = some (.tup xs) ∨ ∃ (o : Obj) (its : Array Value) (n : Nat), T.K.lookup a = some o ∧ o.cls = .type "tuple" ∧ o.data = .seq its n ∧ its.size ≤ sizeLine ∧ Vals xs its.toList
theorem Tu.sq {T : Tab} {B : Hp} {a : Addr} {xs : List V} (h : Tu T B a xs) : SqT T.K B a xs := h.elim (fun h => .inl (.inl h)) .inr
/-- a key -/
def DKey : D → Key → Prop
  | .int i, k => k = .inl i
  | .str s, k => k = .inr s
  | _, _ => False
def DKeys : List D → List Key → Prop
  | [], ks => ks = []
  | d :: ds, ks => ∃ k r, ks = k :: r ∧ DKey d k ∧ DKeys ds r
mutual
def Rep (T : Tab) (B : Hp) : D → V → Prop
  | .non, v => v = .non
  | .bl b, v => v = .bl b
  | .int i, v => v = .int i
  | .str s, v => v = .str s ∧ PyData.strOk s = true
  | .tup ds, v => ∃ a xs, v = .ref a ∧ Tu T B a xs ∧ Reps T B ds xs
  | .lst ds, v => ∃ a xs, v = .ref a ∧ SqL T.K B a xs ∧ Reps T B ds xs
  | .obj c fs, v => ∃ a dx fvs, v = .ref a ∧ B a = some (.ins (T.cls c) dx fvs) ∧ fvs.map (·.1) = T.flds c ∧ Reps T B fs (fvs.map (·.2))
  | .dct ks vs, v => ∃ a kvs, v = .ref a ∧ B a = some (.dK kvs) ∧ DKeys ks (kvs.map (·.1)) ∧ Reps T B vs (kvs.map (·.2))
def Reps (T : Tab) (B : Hp) : List D → List V → Prop
  | [], xs => xs = []
  | d :: ds, xs => ∃ v r, xs = v :: r ∧ Rep T B d v ∧ Reps T B ds r
end
def Ex (H H' : Hp) : Prop := ∀ a o, H a = some o → H' a = some o
theorem Ex.refl (H : Hp) : Ex H H := fun _ _ h => h
theorem Ex.trans {H H1 H2 : Hp} (a : Ex H H1) (b : Ex H1 H2) : Ex H H2 := fun x o h => b x o (a x o h)
theorem Ex.free {H H' : Hp} (e : Ex H H') {l : Addr} (h : H' l = none) : H l = none := by
  cases q : H l with
  | none => rfl
  | some o => rw [e l o q] at h; cases h
theorem Ex.new {H : Hp} {p : Addr} {o : HO} (h : H p = none) : Ex H (upd H p o) := fun a u e => by
  rw [upd_ne (ne_of_none e h)]; exact e
theorem Ex.rd {H H' : Hp} {a : Addr} {u : HO} (e : Ex H H') (h : Rd H a u) : Rd H' a u := h.elim (fun h => .inl (e a _ h)) fun ⟨o, h⟩ => .inr ⟨o, e a _ h⟩
theorem Ex.sqL {K : PySem.W.Frag} {H H' : Hp} {a : Addr} {xs : List V} (e : Ex H H') (h : SqL K H a xs) : SqL K H' a xs := h.elim (fun h => .inl (e.rd h)) .inr
theorem Ex.sqT {K : PySem.W.Frag} {H H' : Hp} {a : Addr} {xs : List V} (e : Ex H H') (h : SqT K H a xs) : SqT K H' a xs := h.elim (fun h => .inl (e.rd h)) .inr
theorem Ex.tu {T : Tab} {H H' : Hp} {a : Addr} {xs : List V} (e : Ex H H') (h : Tu T H a xs) : Tu T H' a xs := h.elim (fun h => .inl (e a _ h)) .inr
mutual
theorem Rep.mono {T : Tab} {B B' : Hp} (e : Ex B B') : ∀ (d : D) {v : V}, Rep T B d v → Rep T B' d v
  | .non, _, h => h
  | .bl _, _, h => h
  | .int _, _, h => h
  | .str _, _, h => h
  | .tup ds, v, h => by
    unfold Rep at h ⊢
    obtain ⟨a, xs, h1, h2, h3⟩ := h
    exact ⟨a, xs, h1, e.tu h2, Reps.mono e ds h3⟩
  | .lst ds, v, h => by
    unfold Rep at h ⊢
    obtain ⟨a, xs, h1, h2, h3⟩ := h
    exact ⟨a, xs, h1, e.sqL h2, Reps.mono e ds h3⟩
  | .obj c fs, v, h => by
    unfold Rep at h ⊢
    obtain ⟨a, dx, fvs, h1, h2, h3, h4⟩ := h
    exact ⟨a, dx, fvs, h1, e a _ h2, h3, Reps.mono e fs h4⟩
  | .dct ks vs, v, h => by
    unfold Rep at h ⊢
    obtain ⟨a, kvs, h1, h2, h3, h4⟩ := h
    exact ⟨a, kvs, h1, e a _ h2, h3, Reps.mono e vs h4⟩
theorem Reps.mono {T : Tab} {B B' : Hp} (e : Ex B B') : ∀ (ds : List D) {xs : List V}, Reps T B ds xs → Reps T B' ds xs
  | [], _, h => h
  | d :: ds, xs, h => by
    unfold Reps at h ⊢
    obtain ⟨v, r, h1, h2, h3⟩ := h
    exact ⟨v, r, h1, Rep.mono e d h2, Reps.mono e ds h3⟩
end
theorem Reps.length {T : Tab} {B : Hp} : ∀ {ds : List D} {xs : List V}, Reps T B ds xs → ds.length = xs.length
  | [], _, h => by unfold Reps at h; subst h; rfl
  | d :: ds, xs, h => by
    unfold Reps at h
    obtain ⟨v, r, rfl, _, h3⟩ := h
    simp [Reps.length h3]
theorem Reps.get {T : Tab} {B : Hp} : ∀ {ds : List D} {xs : List V} {i : Nat} {d : D}, Reps T B ds xs → ds[i]? = some d → ∃ v, xs[i]? = some v ∧ Rep T B d v
  | [], _, _, _, _, e => by simp at e
  | d :: ds, xs, i, d', h, e => by
    unfold Reps at h
    obtain ⟨v, r, rfl, h2, h3⟩ := h
    cases i with
    | zero => simp at e; subst e; exact ⟨v, rfl, h2⟩
    | succ i =>
      obtain ⟨u, a, b⟩ := Reps.get (i := i) h3 (by simpa using e)
      exact ⟨u, by simpa using a, b⟩
theorem Reps.append {T : Tab} {B : Hp} : ∀ {ds es : List D} {xs ys : List V}, Reps T B ds xs → Reps T B es ys → Reps T B (ds ++ es) (xs ++ ys)
  | [], _, _, _, h, g => by unfold Reps at h; subst h; exact g
  | d :: ds, es, xs, ys, h, g => by
    unfold Reps at h
    obtain ⟨v, r, rfl, h2, h3⟩ := h
    show Reps T B (d :: (ds ++ es)) (v :: (r ++ ys))
    unfold Reps
    exact ⟨v, _, rfl, h2, Reps.append h3 g⟩
theorem Reps.set {T : Tab} {B : Hp} : ∀ {ds : List D} {xs : List V} {i : Nat} {d : D} {v : V}, Reps T B ds xs → Rep T B d v → Reps T B (ds.set i d) (xs.set i v)
  | [], _, _, _, _, h, _ => by unfold Reps at h; subst h; unfold Reps; rfl
  | e :: ds, xs, i, d, v, h, g => by
    unfold Reps at h
    obtain ⟨u, r, rfl, h2, h3⟩ := h
    cases i with
    | zero => show Reps T B (d :: ds) (v :: r); unfold Reps; exact ⟨v, r, rfl, g, h3⟩
    | succ i => show Reps T B (e :: ds.set i d) (u :: r.set i v); unfold Reps; exact ⟨u, _, rfl, h2, Reps.set h3 g⟩
theorem reps_nil {T : Tab} {B : Hp} : Reps T B [] [] := by unfold Reps; rfl
theorem reps_cons {T : Tab} {B : Hp} {d : D} {ds : List D} {v : V} {xs : List V} (h : Rep T B d v) (g : Reps T B ds xs) : Reps T B (d :: ds) (v :: xs) := by unfold Reps; exact ⟨v, xs, rfl, h, g⟩

mutual
def imm : D → Bool
  | .lst _ => false
  | .obj _ _ => false
  | .dct _ _ => false
  | .tup ds => imms ds
  | _ => true
def imms : List D → Bool
  | [] => true
  | d :: ds => imm d && imms ds
end
/-- what holds no list stands where the tuples stand -/
theorem imm_rep {T : Tab} {B B' : Hp} (e : ∀ a xs, B a = some (.tup xs) → B' a = some (.tup xs)) : ∀ (d : D) {v : V}, imm d = true → Rep T B d v → Rep T B' d v := by
  intro d
  refine D.rec (motive_1 := fun d => ∀ {v : V}, imm d = true → Rep T B d v → Rep T B' d v) (motive_2 := fun ds => ∀ {xs : List V}, imms ds = true → Reps T B ds xs → Reps T B' ds xs) ?_ ?_ ?_ ?_ ?_ ?_ ?_ ?_ ?_ ?_ d
  · exact fun _ h => h
  · exact fun _ _ _ h => h
  · exact fun _ _ _ h => h
  · exact fun _ _ _ h => h
  · intro ds ih v i h
    unfold Rep at h ⊢
    unfold imm at i
    obtain ⟨a, xs, h1, h2, h3⟩ := h
    exact ⟨a, xs, h1, h2.elim (fun h => .inl (e a _ h)) .inr, ih i h3⟩
  · intro ds _ v i; simp [imm] at i
  · intro c ds _ v i; simp [imm] at i
  · intro c ds _ _ v i; simp [imm] at i
  · exact fun _ h => h
  · intro d ds h1 h2 xs i h
    unfold Reps at h ⊢
    unfold imms at i
    obtain ⟨v, r, e1, e2, e3⟩ := h
    have i' := (Bool.and_eq_true _ _).mp i
    exact ⟨v, r, e1, h1 i'.1 e2, h2 i'.2 e3⟩

/-! ### values of names: frozen, or owned -/
inductive R where
  | d (x : D) | ol (xs : List D) | oi (c : Nat) (fs : List D) | od (ks vs : List D)
def RelR (T : Tab) (B H : Hp) : R → V → Prop
  | .d x, v => Rep T B x v
  | .ol xs, v => ∃ a ys, v = .ref a ∧ H a = some (.lst ys) ∧ Reps T B xs ys
  | .oi c fs, v => ∃ a dx fvs, v = .ref a ∧ H a = some (.ins (T.cls c) dx fvs) ∧ fvs.map (·.1) = (T.flds c).take fs.length ∧ Reps T B fs (fvs.map (·.2))
  | .od ks vs, v => ∃ a kvs, v = .ref a ∧ H a = some (.dK kvs) ∧ DKeys ks (kvs.map (·.1)) ∧ Reps T B vs (kvs.map (·.2))
/-- the address that a value owns -/
def Ow : R → V → Addr → Prop
  | .d _, _, _ => False
  | _, v, a => v = .ref a
abbrev Sl := List (Option R)
structure Sim (T : Tab) (st : Sl) (σ : St) (B F H : Hp) : Prop where
  exB : Ex B H
  exF : Ex F H
  dis : ∀ a o, F a = some o → B a = none
  tup : ∀ a xs, H a = some (.tup xs) → B a = some (.tup xs)
  len : st.length = σ.length
  rel : ∀ (i : Nat) r, st[i]? = some (some r) → ∃ v, σ[i]? = some (some v) ∧ RelR T B H r v
  own : ∀ (i : Nat) r v a, st[i]? = some (some r) → σ[i]? = some (some v) → Ow r v a → B a = none ∧ F a = none
  sep : ∀ (i j : Nat) r q v u a, i ≠ j → st[i]? = some (some r) → σ[i]? = some (some v) → st[j]? = some (some q) → σ[j]? = some (some u) → Ow r v a → Ow q u a → False
theorem RelR.ow {T : Tab} {B H : Hp} {r : R} {v : V} {a : Addr} (h : RelR T B H r v) (o : Ow r v a) : v = .ref a ∧ (∃ o, H a = some o) ∧ ∀ xs, H a ≠ some (.tup xs) := by
  cases r with
  | d x => exact o.elim
  | ol xs => obtain ⟨b, ys, h1, h2, _⟩ := h; have e : v = .ref a := o; rw [e] at h1; cases h1; exact ⟨e, ⟨_, h2⟩, fun xs z => by rw [h2] at z; cases z⟩
  | oi c fs => obtain ⟨b, dx, fvs, h1, h2, _⟩ := h; have e : v = .ref a := o; rw [e] at h1; cases h1; exact ⟨e, ⟨_, h2⟩, fun xs z => by rw [h2] at z; cases z⟩
  | od ks vs => obtain ⟨b, kvs, h1, h2, _⟩ := h; have e : v = .ref a := o; rw [e] at h1; cases h1; exact ⟨e, ⟨_, h2⟩, fun xs z => by rw [h2] at z; cases z⟩
theorem RelR.keep {T : Tab} {B B' H H' : Hp} {r : R} {v : V} (h : RelR T B H r v) (e : Ex B B') (k : ∀ a o, Ow r v a → H a = some o → H' a = some o) : RelR T B' H' r v := by
  cases r with
  | d x => exact Rep.mono e x h
  | ol xs => obtain ⟨b, ys, h1, h2, h3⟩ := h; exact ⟨b, ys, h1, k b _ h1 h2, Reps.mono e _ h3⟩
  | oi c fs => obtain ⟨b, dx, fvs, h1, h2, h3, h4⟩ := h; exact ⟨b, dx, fvs, h1, k b _ h1 h2, h3, Reps.mono e _ h4⟩
  | od ks vs => obtain ⟨b, kvs, h1, h2, h3, h4⟩ := h; exact ⟨b, kvs, h1, k b _ h1 h2, h3, Reps.mono e _ h4⟩

/-- what grows while an expression is read -/
structure Ext (B H B' H' : Hp) : Prop where
  b : Ex B B'
  h : Ex H H'
  bh : Ex B' H'
  new : ∀ a o, B' a = some o → B a = some o ∨ H a = none
  tup : ∀ a xs, H' a = some (.tup xs) → H a = some (.tup xs) ∨ B' a = some (.tup xs)
theorem Ext.refl {B H : Hp} (e : Ex B H) : Ext B H B H := ⟨.refl _, .refl _, e, fun _ _ h => .inl h, fun _ _ h => .inl h⟩
theorem Sim.ext {T : Tab} {st : Sl} {σ : St} {B F H B' H' : Hp} (S : Sim T st σ B F H) (e : Ext B H B' H') : Sim T st σ B' F H' where
  exB := e.bh
  exF := S.exF.trans e.h
  dis := fun a o h => by
    cases q : B' a with
    | none => rfl
    | some u =>
      rcases e.new a u q with z | z
      · rw [S.dis a o h] at z; cases z
      · rw [S.exF a o h] at z; cases z
  tup := fun a xs h => by
    rcases e.tup a xs h with z | z
    · exact e.b a _ (S.tup a xs z)
    · exact z
  len := S.len
  rel := fun i r h => by
    obtain ⟨v, h1, h2⟩ := S.rel i r h
    exact ⟨v, h1, h2.keep e.b fun a o _ z => e.h a o z⟩
  own := fun i r v a h1 h2 h3 => by
    obtain ⟨z1, z2⟩ := S.own i r v a h1 h2 h3
    refine ⟨?_, z2⟩
    obtain ⟨v', h4, h5⟩ := S.rel i r h1
    rw [h2] at h4; cases h4
    obtain ⟨_, ⟨o, h6⟩, _⟩ := h5.ow h3
    cases q : B' a with
    | none => rfl
    | some u =>
      rcases e.new a u q with z | z
      · rw [z1] at z; cases z
      · rw [h6] at z; cases z
  sep := S.sep
/-- a new tuple -/
theorem Ext.newT {B H : Hp} {p : Addr} {o : HO} (e : Ex B H) (h : H p = none) : Ext B H (upd B p o) (upd H p o) := by
  refine ⟨.new (e.free h), .new h, fun a u q => ?_, fun a u q => ?_, fun a xs q => ?_⟩
  · by_cases z : a = p
    · subst z; rw [upd_same] at q ⊢; exact q
    · rw [upd_ne z] at q ⊢; exact e a u q
  · by_cases z : a = p
    · subst z; exact .inr h
    · rw [upd_ne z] at q; exact .inl q
  · by_cases z : a = p
    · subst z; rw [upd_same] at q ⊢; exact .inr q
    · rw [upd_ne z] at q; exact .inl q
end Fz

-- text Fz2
set_option Elab.async false
set_option linter.all false
set_option maxRecDepth 100000
set_option maxHeartbeats 2000000
namespace Fz
open PySem L2
/-! ### what is reckoned: an answer or a raise, and the names behind it -/
inductive Oc (α : Type) where
  | v (a : α) | x (c : Nat)
abbrev M (α : Type) := Sl → Option (Oc α × Sl)
def ret {α : Type} (a : α) : M α := fun st => some (.v a, st)
def bnd {α β : Type} (m : M α) (k : α → M β) : M β := fun st => match m st with
  | none => none
  | some (.x c, s) => some (.x c, s)
  | some (.v a, s) => k a s
def opt {α : Type} (o : Option α) : M α := fun st => match o with
  | none => none
  | some a => some (.v a, st)

variable (T : Tab)
section
variable (E : XK)
def Okx {α : Type} (o : Oc α) (st : Sl) (σ : St) (B F : Hp) (Q : α → Hp → Hp → Prop) : Prop := match o with
  | .v a => ∀ B' H', Ex B B' → Sim T st σ B' F H' → Q a B' H'
  | .x c => ∀ d B' H', Ex B B' → Sim T st σ B' F H' → E (.ref (T.cls c)) d H'
/-- a value that may be owned -/
def Okr (o : Oc R) (st : Sl) (σ : St) (B F : Hp) (Q : V → Hp → Hp → Prop) : Prop := match o with
  | .v r => ∀ v B' H', Ex B B' → Sim T (some r :: st) (some v :: σ) B' F H' → Q v B' H'
  | .x c => ∀ d B' H', Ex B B' → Sim T st σ B' F H' → E (.ref (T.cls c)) d H'
end
variable (E : L2.St → XK)
def SemE (te : TE) (f : M D) : Prop := ∀ st σ B F H, Sim T st σ B F H → ∀ o s, f st = some (o, s) → ∀ Q : VK, Okx T (E σ) o s σ B F (fun x B' H' => ∀ v, Rep T B' x v → Q v H') → te σ H Q
def SemT (tt : TT) (f : M Bool) : Prop := ∀ st σ B F H, Sim T st σ B F H → ∀ o s, f st = some (o, s) → ∀ Q : Bool → Hp → Prop, Okx T (E σ) o s σ B F (fun b _ H' => Q b H') → tt σ H Q
def SemA (ta : TA) (f : M (List D)) : Prop := ∀ st σ B F H, Sim T st σ B F H → ∀ o s, f st = some (o, s) → ∀ Q : List V → Hp → Prop, Okx T (E σ) o s σ B F (fun xs B' H' => ∀ vs, Reps T B' xs vs → Q vs H') → ta σ H Q
def SemR (te : TE) (f : M R) : Prop := ∀ st σ B F H, Sim T st σ B F H → ∀ o s, f st = some (o, s) → ∀ Q : VK, Okr T (E σ) o s σ B F (fun v _ H' => Q v H') → te σ H Q

section
variable {T : Tab} {E : XK} {st : Sl} {σ : St} {B F H B' H' : Hp}
theorem Sim.push (S : Sim T st σ B F H) {x : D} {v : V} (r : Rep T B x v) : Sim T (some (.d x) :: st) (some v :: σ) B F H where
  exB := S.exB
  exF := S.exF
  dis := S.dis
  tup := S.tup
  len := by simp [S.len]
  rel := fun i q h => by
    cases i with
    | zero => simp at h; subst h; exact ⟨v, rfl, r⟩
    | succ i => obtain ⟨u, a, b⟩ := S.rel i q (by simpa using h); exact ⟨u, by simpa using a, b⟩
  own := fun i q u a h1 h2 h3 => by
    cases i with
    | zero => simp at h1; subst h1; exact h3.elim
    | succ i => exact S.own i q u a (by simpa using h1) (by simpa using h2) h3
  sep := fun i j q p u w a n h1 h2 h3 h4 h5 h6 => by
    cases i with
    | zero => simp at h1; subst h1; exact h5.elim
    | succ i =>
      cases j with
      | zero => simp at h3; subst h3; exact h6.elim
      | succ j => exact S.sep i j q p u w a (by omega) (by simpa using h1) (by simpa using h2) (by simpa using h3) (by simpa using h4) h5 h6
theorem Sim.pop {s : Option R} {v : Option V} (S : Sim T (s :: st) (v :: σ) B F H) : Sim T st σ B F H where
  exB := S.exB
  exF := S.exF
  dis := S.dis
  tup := S.tup
  len := by have := S.len; simpa using this
  rel := fun i q h => by obtain ⟨u, a, b⟩ := S.rel (i + 1) q (by simpa using h); exact ⟨u, by simpa using a, b⟩
  own := fun i q u a h1 h2 h3 => S.own (i + 1) q u a (by simpa using h1) (by simpa using h2) h3
  sep := fun i j q p u w a n h1 h2 h3 h4 h5 h6 => S.sep (i + 1) (j + 1) q p u w a (by omega) (by simpa using h1) (by simpa using h2) (by simpa using h3) (by simpa using h4) h5 h6
theorem Sim.top {r : R} {v : V} (S : Sim T (some r :: st) (some v :: σ) B F H) : RelR T B H r v := by
  obtain ⟨u, a, b⟩ := S.rel 0 r rfl
  cases a; exact b
/-- forgetting -/
theorem Sim.forget (S : Sim T st σ B F H) (i : Nat) : Sim T (st.set i none) σ B F H where
  exB := S.exB
  exF := S.exF
  dis := S.dis
  tup := S.tup
  len := by simp [S.len]
  rel := fun j q h => by
    rw [List.getElem?_set] at h
    split at h
    · split at h <;> simp at h
    · exact S.rel j q h
  own := fun j q u a h1 h2 h3 => by
    rw [List.getElem?_set] at h1
    split at h1
    · split at h1 <;> simp at h1
    · exact S.own j q u a h1 h2 h3
  sep := fun j k q p u w a n h1 h2 h3 h4 h5 h6 => by
    rw [List.getElem?_set] at h1 h3
    split at h1
    · split at h1 <;> simp at h1
    · split at h3
      · split at h3 <;> simp at h3
      · exact S.sep j k q p u w a n h1 h2 h3 h4 h5 h6
/-- a name takes the top value -/
theorem Sim.store {r : R} {v : V} (S : Sim T (some r :: st) (some v :: σ) B F H) (i : Nat) : Sim T (st.set i (some r)) (σ.set i (some v)) B F H := by
  have S' := S.pop
  have ln := S'.len
  refine ⟨S.exB, S.exF, S.dis, S.tup, by simp [ln], fun j q h => ?_, fun j q u a h1 h2 h3 => ?_, fun j k q p u w a n h1 h2 h3 h4 h5 h6 => ?_⟩
  · rw [List.getElem?_set] at h
    by_cases e : i = j
    · subst e
      rw [if_pos rfl] at h
      split at h
      · cases h
        refine ⟨v, ?_, S.top⟩
        rw [List.getElem?_set_self (by omega)]
      · cases h
    · rw [if_neg e] at h
      obtain ⟨u, a, b⟩ := S'.rel j q h
      exact ⟨u, by rw [List.getElem?_set_ne e]; exact a, b⟩
  · rw [List.getElem?_set] at h1 h2
    by_cases e : i = j
    · subst e
      rw [if_pos rfl] at h1 h2
      split at h1
      · cases h1
        rw [if_pos (by omega)] at h2
        cases h2
        exact S.own 0 r v a rfl rfl h3
      · cases h1
    · rw [if_neg e] at h1 h2
      exact S'.own j q u a h1 h2 h3
  · rw [List.getElem?_set] at h1 h2 h3 h4
    by_cases e : i = j
    · subst e
      rw [if_pos rfl] at h1 h2
      rw [if_neg n] at h3 h4
      split at h1
      · cases h1
        rw [if_pos (by omega)] at h2
        cases h2
        exact S.sep 0 (k + 1) r p v w a (by omega) rfl rfl (by simpa using h3) (by simpa using h4) h5 h6
      · cases h1
    · rw [if_neg e] at h1 h2
      by_cases e' : i = k
      · subst e'
        rw [if_pos rfl] at h3 h4
        split at h3
        · cases h3
          rw [if_pos (by omega)] at h4
          cases h4
          exact S.sep (j + 1) 0 q r u v a (by omega) (by simpa using h1) (by simpa using h2) rfl rfl h5 h6
        · cases h3
      · rw [if_neg e'] at h3 h4
        exact S'.sep j k q p u w a n h1 h2 h3 h4 h5 h6

/-! ### freezing what is owned -/
def vw : R → D
  | .d x => x
  | .ol xs => .lst xs
  | .oi c fs => .obj c fs
  | .od ks vs => .dct ks vs
/-- may be frozen: an instance has all its attributes -/
def whole (T : Tab) : R → Prop
  | .oi c fs => fs.length = (T.flds c).length
  | _ => True
/-- the heap of what is frozen, with what stands at a -/
def add (B H : Hp) (a : Addr) : Hp := fun b => if b = a then H a else B b
theorem add_ex (S : Sim T st σ B F H) (a : Addr) (hb : B a = none) : Ex B (add B H a) := fun b o h => by
  unfold add
  split
  · rename_i e; subst e; rw [hb] at h; cases h
  · exact h
theorem add_same (B H : Hp) (a : Addr) : add B H a a = H a := by unfold add; rw [if_pos rfl]
theorem relR_vw {a : Addr} {r : R} {v : V} (h : RelR T B H r v) (w : whole T r) (o : Ow r v a) (e : Ex B (add B H a)) : Rep T (add B H a) (vw r) v := by
  cases r with
  | d x => exact o.elim
  | ol xs =>
    obtain ⟨b, ys, h1, h2, h3⟩ := h
    have z : v = .ref a := o
    rw [z] at h1; cases h1
    show Rep T _ (.lst xs) v
    unfold Rep
    exact ⟨a, ys, z, .inl (.inl (by rw [add_same]; exact h2)), Reps.mono e _ h3⟩
  | oi c fs =>
    obtain ⟨b, dx, fvs, h1, h2, h3, h4⟩ := h
    have z : v = .ref a := o
    rw [z] at h1; cases h1
    show Rep T _ (.obj c fs) v
    unfold Rep
    have w' : fs.length = (T.flds c).length := w
    exact ⟨a, dx, fvs, z, by rw [add_same]; exact h2, by rw [h3, w', List.take_length], Reps.mono e _ h4⟩
  | od ks vs =>
    obtain ⟨b, kvs, h1, h2, h3, h4⟩ := h
    have z : v = .ref a := o
    rw [z] at h1; cases h1
    show Rep T _ (.dct ks vs) v
    unfold Rep
    exact ⟨a, kvs, z, by rw [add_same]; exact h2, h3, Reps.mono e _ h4⟩
/-- the i-th is frozen -/
theorem Sim.freeze (S : Sim T st σ B F H) {i : Nat} {r : R} (h : st[i]? = some (some r)) (w : whole T r) :
    ∃ B', Ex B B' ∧ Sim T (st.set i (some (.d (vw r)))) σ B' F H ∧ ∀ v, σ[i]? = some (some v) → Rep T B' (vw r) v := by
  obtain ⟨v, hv, rel⟩ := S.rel i r h
  by_cases ho : ∃ a, Ow r v a
  · obtain ⟨a, ho⟩ := ho
    obtain ⟨ba, fa⟩ := S.own i r v a h hv ho
    obtain ⟨ev, ⟨oh, hh⟩, hnt⟩ := rel.ow ho
    have e : Ex B (add B H a) := add_ex S a ba
    have rp := relR_vw rel w ho e
    refine ⟨add B H a, e, ⟨fun b o q => ?_, S.exF, fun b o q => ?_, fun b xs q => ?_, by simp [S.len], fun j q hj => ?_, fun j q u b h1 h2 h3 => ?_, fun j k q p u w' b n h1 h2 h3 h4 h5 h6 => ?_⟩, fun v' hv' => ?_⟩
    · unfold add at q
      split at q
      · rename_i z; subst z; exact q
      · exact S.exB b o q
    · unfold add
      split
      · rename_i z; subst z; rw [fa] at q; cases q
      · exact S.dis b o q
    · exact e b _ (S.tup b xs q)
    · rw [List.getElem?_set] at hj
      by_cases z : i = j
      · subst z
        rw [if_pos rfl] at hj
        split at hj
        · cases hj; exact ⟨v, hv, rp⟩
        · cases hj
      · rw [if_neg z] at hj
        obtain ⟨u, h1, h2⟩ := S.rel j q hj
        exact ⟨u, h1, h2.keep e fun _ _ _ q => q⟩
    · rw [List.getElem?_set] at h1
      by_cases z : i = j
      · subst z
        rw [if_pos rfl] at h1
        split at h1
        · cases h1; exact h3.elim
        · cases h1
      · rw [if_neg z] at h1
        obtain ⟨y1, y2⟩ := S.own j q u b h1 h2 h3
        refine ⟨?_, y2⟩
        unfold add
        split
        · rename_i y; subst y; exact (S.sep i j r q v u b z h hv h1 h2 ho h3).elim
        · exact y1
    · rw [List.getElem?_set] at h1 h3
      by_cases z : i = j
      · subst z
        rw [if_pos rfl] at h1
        split at h1
        · cases h1; exact h5.elim
        · cases h1
      · rw [if_neg z] at h1
        by_cases z' : i = k
        · subst z'
          rw [if_pos rfl] at h3
          split at h3
          · cases h3; exact h6.elim
          · cases h3
        · rw [if_neg z'] at h3
          exact S.sep j k q p u w' b n h1 h2 h3 h4 h5 h6
    · rw [hv] at hv'; cases hv'; exact rp
  · cases r with
    | d x =>
      refine ⟨B, .refl B, ?_, fun v' hv' => by rw [hv] at hv'; cases hv'; exact rel⟩
      have e : st.set i (some (.d (vw (.d x)))) = st := by
        apply List.ext_getElem?
        intro j
        rw [List.getElem?_set]
        split
        · rename_i z; subst z; split
          · exact h.symm
          · rename_i y; rw [List.getElem?_eq_none (by omega)]
        · rfl
      rw [e]; exact S
    | ol xs => obtain ⟨a, _, e, _⟩ := rel; exact (ho ⟨a, e⟩).elim
    | oi c fs => obtain ⟨a, _, _, e, _⟩ := rel; exact (ho ⟨a, e⟩).elim
    | od ks vs => obtain ⟨a, _, e, _⟩ := rel; exact (ho ⟨a, e⟩).elim
theorem Sim.freezeTop {r : R} {v : V} (S : Sim T (some r :: st) (some v :: σ) B F H) (w : whole T r) : ∃ B', Ex B B' ∧ Sim T st σ B' F H ∧ Rep T B' (vw r) v := by
  obtain ⟨B', e, S', h⟩ := S.freeze (i := 0) rfl w
  exact ⟨B', e, Sim.pop (show Sim T (some (.d (vw r)) :: st) (some v :: σ) B' F H from S'), h v rfl⟩
/-- a new object, owned -/
theorem Sim.alloc (S : Sim T st σ B F H) {p : Addr} {o : HO} {r : R} (hp : H p = none) (nt : ∀ xs, o ≠ .tup xs) (hr : RelR T B (upd H p o) r (.ref p)) : Sim T (some r :: st) (some (.ref p) :: σ) B F (upd H p o) where
  exB := S.exB.trans (.new hp)
  exF := S.exF.trans (.new hp)
  dis := S.dis
  tup := fun a xs q => by
    by_cases z : a = p
    · subst z; rw [upd_same] at q; cases q; exact (nt xs rfl).elim
    · rw [upd_ne z] at q; exact S.tup a xs q
  len := by simp [S.len]
  rel := fun i q h => by
    cases i with
    | zero => simp at h; subst h; exact ⟨_, rfl, hr⟩
    | succ i =>
      obtain ⟨u, a, b⟩ := S.rel i q (by simpa using h)
      exact ⟨u, by simpa using a, b.keep (.refl B) fun a o _ z => (Ex.new hp) a o z⟩
  own := fun i q u a h1 h2 h3 => by
    cases i with
    | zero =>
      simp at h1 h2; subst h1; subst h2
      have e := (hr.ow h3).1
      cases e
      refine ⟨S.exB.free hp, S.exF.free hp⟩
    | succ i => exact S.own i q u a (by simpa using h1) (by simpa using h2) h3
  sep := fun i j q t u w a n h1 h2 h3 h4 h5 h6 => by
    have no : ∀ (k : Nat) y x, st[k]? = some (some y) → σ[k]? = some (some x) → Ow y x p → False := fun k y x g1 g2 g3 => by
      obtain ⟨u', a', b'⟩ := S.rel k y g1
      rw [g2] at a'; cases a'
      obtain ⟨_, ⟨o', h'⟩, _⟩ := b'.ow g3
      rw [hp] at h'; cases h'
    cases i with
    | zero =>
      simp at h1 h2; subst h1; subst h2
      have e := (hr.ow h5).1
      cases e
      cases j with
      | zero => exact n rfl
      | succ j => exact no j t w (by simpa using h3) (by simpa using h4) h6
    | succ i =>
      cases j with
      | zero =>
        simp at h3 h4; subst h3; subst h4
        have e := (hr.ow h6).1
        cases e
        exact no i q u (by simpa using h1) (by simpa using h2) h5
      | succ j => exact S.sep i j q t u w a (by omega) (by simpa using h1) (by simpa using h2) (by simpa using h3) (by simpa using h4) h5 h6
/-- what a name owns is changed -/
theorem Sim.change (S : Sim T st σ B F H) {i : Nat} {r r' : R} {v : V} {a : Addr} {o : HO} (h : st[i]? = some (some r)) (hv : σ[i]? = some (some v)) (ho : Ow r v a) (nt : ∀ xs, o ≠ .tup xs)
    (hr : RelR T B (upd H a o) r' v) : Sim T (st.set i (some r')) σ B F (upd H a o) := by
  obtain ⟨ba, fa⟩ := S.own i r v a h hv ho
  obtain ⟨v', hv', rel⟩ := S.rel i r h
  rw [hv] at hv'; cases hv'
  obtain ⟨ev, ⟨oh, hh⟩, hnt⟩ := rel.ow ho
  have other : ∀ j q u, i ≠ j → st[j]? = some (some q) → σ[j]? = some (some u) → ∀ b, Ow q u b → b ≠ a := fun j q u n g1 g2 b g3 e => by
    subst e; exact S.sep i j r q v u b n h hv g1 g2 ho g3
  have ln := S.len
  refine ⟨fun b u q => ?_, fun b u q => ?_, S.dis, fun b xs q => ?_, by simp [ln], fun j q hj => ?_, fun j q u b h1 h2 h3 => ?_, fun j k q p u w b n h1 h2 h3 h4 h5 h6 => ?_⟩
  · rw [upd_ne (by intro e; subst e; rw [ba] at q; cases q)]; exact S.exB b u q
  · rw [upd_ne (by intro e; subst e; rw [fa] at q; cases q)]; exact S.exF b u q
  · by_cases z : b = a
    · subst z; rw [upd_same] at q; cases q; exact (nt xs rfl).elim
    · rw [upd_ne z] at q; exact S.tup b xs q
  · rw [List.getElem?_set] at hj
    by_cases z : i = j
    · subst z
      rw [if_pos rfl] at hj
      split at hj
      · cases hj; exact ⟨v, hv, hr⟩
      · cases hj
    · rw [if_neg z] at hj
      obtain ⟨u, h1, h2⟩ := S.rel j q hj
      exact ⟨u, h1, h2.keep (.refl B) fun b ob g1 g2 => by rw [upd_ne (other j q u z hj h1 b g1)]; exact g2⟩
  · rw [List.getElem?_set] at h1
    by_cases z : i = j
    · subst z
      rw [if_pos rfl] at h1
      split at h1
      · cases h1
        rw [hv] at h2; cases h2
        have e := (hr.ow h3).1
        rw [ev] at e; cases e
        exact ⟨ba, fa⟩
      · cases h1
    · rw [if_neg z] at h1
      exact S.own j q u b h1 h2 h3
  · rw [List.getElem?_set] at h1 h3
    by_cases z : i = j
    · subst z
      rw [if_pos rfl] at h1
      rw [if_neg n] at h3
      split at h1
      · cases h1
        rw [hv] at h2; cases h2
        have e := (hr.ow h5).1
        rw [ev] at e; cases e
        exact S.sep i k r p v w a n h hv h3 h4 ho h6
      · cases h1
    · rw [if_neg z] at h1
      by_cases z' : i = k
      · subst z'
        rw [if_pos rfl] at h3
        split at h3
        · cases h3
          rw [hv] at h4; cases h4
          have e := (hr.ow h6).1
          rw [ev] at e; cases e
          exact S.sep i j r q v u a z h hv h1 h2 ho h5
        · cases h3
      · rw [if_neg z'] at h3
        exact S.sep j k q p u w b n h1 h2 h3 h4 h5 h6
end
end Fz

-- text Fz3
set_option Elab.async false
set_option linter.all false
set_option maxRecDepth 100000
set_option maxHeartbeats 2000000
namespace Fz
open PySem L2
/-! ### how the steps are put together -/
theorem bnd_some {α β : Type} {m : M α} {k : α → M β} {st : Sl} {o : Oc β} {s : Sl} (h : bnd m k st = some (o, s)) :
    (∃ c, m st = some (.x c, s) ∧ o = .x c) ∨ ∃ a s1, m st = some (.v a, s1) ∧ k a s1 = some (o, s) := by
  unfold bnd at h
  split at h
  · cases h
  · rename_i c s' e; cases h; exact .inl ⟨c, e, rfl⟩
  · rename_i a s' e; exact .inr ⟨a, s', e, h⟩
theorem opt_some {α : Type} {q : Option α} {st : Sl} {o : Oc α} {s : Sl} (h : opt q st = some (o, s)) : ∃ a, q = some a ∧ o = .v a ∧ s = st := by
  unfold opt at h
  split at h
  · cases h
  · cases h; exact ⟨_, rfl, rfl, rfl⟩
section
variable {T : Tab} {E : XK} {st : Sl} {σ : St} {B F H B' H' : Hp}
theorem Okx.weak {α : Type} {o : Oc α} {s : Sl} {Q Q' : α → Hp → Hp → Prop} (h : Okx T E o s σ B F Q) (e : Ex B B') (k : ∀ a B1 H1, Ex B' B1 → Sim T s σ B1 F H1 → Q a B1 H1 → Q' a B1 H1) : Okx T E o s σ B' F Q' := by
  cases o with
  | v a => exact fun B1 H1 e1 S => k a B1 H1 e1 S (h B1 H1 (e.trans e1) S)
  | x c => exact fun d B1 H1 e1 S => h d B1 H1 (e.trans e1) S
/-- a step, then what follows -/
theorem okx_bnd {α β : Type} {m : M α} {k : α → M β} {o : Oc β} {s : Sl} (h : bnd m k st = some (o, s)) {Q : β → Hp → Hp → Prop} (hQ : Okx T E o s σ B F Q) {R : α → Hp → Hp → Prop} {P : Prop}
    (run : ∀ o1 s1, m st = some (o1, s1) → Okx T E o1 s1 σ B F R → P)
    (next : ∀ a s1 B1 H1, m st = some (.v a, s1) → k a s1 = some (o, s) → Ex B B1 → Sim T s1 σ B1 F H1 → Okx T E o s σ B1 F Q → R a B1 H1) : P := by
  rcases bnd_some h with ⟨c, e1, rfl⟩ | ⟨a, s1, e1, e2⟩
  · exact run _ _ e1 fun d B1 H1 e S => hQ d B1 H1 e S
  · exact run _ _ e1 fun B1 H1 e S => next a s1 B1 H1 e1 e2 e S (hQ.weak e fun _ _ _ _ _ q => q)
end

/-! ### operators by values -/
def Prim1 (T : Tab) (r : V → Hp → VK → Prop) (g : D → Option D) : Prop := ∀ x z vx B H (Q : VK), Ex B H → Rep T B x vx → g x = some z → (∀ v B' H', Ext B H B' H' → Rep T B' z v → Q v H') → r vx H Q
def Prim2 (T : Tab) (r : R2) (g : D → D → Option D) : Prop := ∀ x y z vx vy B H (Q : VK), Ex B H → Rep T B x vx → Rep T B y vy → g x y = some z → (∀ v B' H', Ext B H B' H' → Rep T B' z v → Q v H') → r vx vy H Q
def PrimN (T : Tab) (r : List V → Hp → VK → Prop) (g : List D → Option D) : Prop := ∀ xs z vs B H (Q : VK), Ex B H → Reps T B xs vs → g xs = some z → (∀ v B' H', Ext B H B' H' → Rep T B' z v → Q v H') → r vs H Q
/-- .. that make a new list -/
def PrimL (T : Tab) (r : List V → Hp → VK → Prop) (g : List D → Option (List D)) : Prop := ∀ xs zs vs B H (Q : VK), Ex B H → Reps T B xs vs → g xs = some zs →
  (∀ p ys B1 H1, Ext B H B1 H1 → H1 p = none → Reps T B1 zs ys → Q (.ref p) (upd H1 p (.lst ys))) → r vs H Q
def eUn (g : D → Option D) (fa : M D) : M D := bnd fa fun x => opt (g x)
def eBin (g : D → D → Option D) (fa fb : M D) : M D := bnd fa fun x => bnd fb fun y => opt (g x y)
def eCons (fa : M D) (fr : M (List D)) : M (List D) := bnd fa fun x => bnd fr fun xs => ret (x :: xs)
def eNil : M (List D) := ret []
def eOp (g : List D → Option D) (fa : M (List D)) : M D := bnd fa fun xs => opt (g xs)
def eTup (fa : M (List D)) : M D := bnd fa fun xs => opt (if xs.length ≤ sizeLine then some (.tup xs) else none)
/-- frozen results as values -/
def rD (fa : M D) : M R := bnd fa fun x => ret (.d x)
def rOp (g : List D → Option (List D)) (fa : M (List D)) : M R := bnd fa fun xs => opt ((g xs).map .ol)
def rLst (fa : M (List D)) : M R := bnd fa fun xs => opt (if xs.length ≤ sizeLine then some (.ol xs) else none)
def wholeB (n : Nat → Nat) : R → Bool
  | .oi c fs => fs.length == n c
  | _ => true
/-- an owned result frozen (n: how many attributes a class has) -/
def eFz (n : Nat → Nat) (fr : M R) : M D := bnd fr fun r => opt (if wholeB n r then some (vw r) else none)
section
variable {T : Tab} {E : L2.St → XK} {ta tb te : TE} {fa fb : M D}
theorem semE_un {r : V → Hp → VK → Prop} {g : D → Option D} (hr : Prim1 T r g) (ha : SemE T E ta fa) : SemE T E (tUn r ta) (eUn g fa) := by
  intro st σ B F H S o s h Q hQ
  refine okx_bnd h hQ (fun o1 s1 e1 q => ha st σ B F H S o1 s1 e1 _ q) fun a s1 B1 H1 _ h2 e1 S1 hQ1 v hv => ?_
  obtain ⟨z, hz, rfl, rfl⟩ := opt_some h2
  exact hr a z v B1 H1 Q S1.exB hv hz fun u B2 H2 e2 hu => hQ1 B2 H2 e2.b (S1.ext e2) u hu
theorem semE_op {r : R2} {g : D → D → Option D} (hr : Prim2 T r g) (ha : SemE T E ta fa) (hb : SemE T E tb fb) : SemE T E (tOp r ta tb) (eBin g fa fb) := by
  intro st σ B F H S o s h Q hQ
  refine okx_bnd h hQ (fun o1 s1 e1 q => ha st σ B F H S o1 s1 e1 _ q) fun a s1 B1 H1 _ h2 e1 S1 hQ1 v hv => ?_
  refine okx_bnd h2 hQ1 (fun o1 s2 e2 q => hb s1 σ B1 F H1 S1 o1 s2 e2 _ q) fun b s2 B2 H2 _ h3 e2 S2 hQ2 u hu => ?_
  obtain ⟨z, hz, rfl, rfl⟩ := opt_some h3
  exact hr a b z v u B2 H2 Q S2.exB (Rep.mono e2 a hv) hu hz fun u B3 H3 e3 hu => hQ2 B3 H3 e3.b (S2.ext e3) u hu
theorem semA_nil : SemA T E tNil eNil := by
  intro st σ B F H S o s h Q hQ
  have e : eNil st = some (.v [], st) := rfl
  rw [e] at h; cases h
  exact hQ B H (.refl B) S [] reps_nil
theorem semA_cons {t : TA} {fr : M (List D)} (ha : SemE T E ta fa) (hr : SemA T E t fr) : SemA T E (tCons ta t) (eCons fa fr) := by
  intro st σ B F H S o s h Q hQ
  refine okx_bnd h hQ (fun o1 s1 e1 q => ha st σ B F H S o1 s1 e1 _ q) fun a s1 B1 H1 _ h2 e1 S1 hQ1 v hv => ?_
  refine okx_bnd h2 hQ1 (fun o1 s2 e2 q => hr s1 σ B1 F H1 S1 o1 s2 e2 _ q) fun b s2 B2 H2 _ h3 e2 S2 hQ2 us hus => ?_
  cases h3
  exact hQ2 B2 H2 (.refl _) S2 (v :: us) (reps_cons (Rep.mono e2 a hv) hus)
theorem semE_callN {r : List V → Hp → VK → Prop} {g : List D → Option D} {t : TA} {f : M (List D)} (hr : PrimN T r g) (ha : SemA T E t f) : SemE T E (tCB r t) (eOp g f) := by
  intro st σ B F H S o s h Q hQ
  refine okx_bnd h hQ (fun o1 s1 e1 q => ha st σ B F H S o1 s1 e1 _ q) fun a s1 B1 H1 _ h2 e1 S1 hQ1 v hv => ?_
  obtain ⟨z, hz, rfl, rfl⟩ := opt_some h2
  exact hr a z v B1 H1 Q S1.exB hv hz fun u B2 H2 e2 hu => hQ1 B2 H2 e2.b (S1.ext e2) u hu
theorem relR_ol {B H : Hp} {p : Addr} {ys : List V} {xs : List D} (h : H p = some (.lst ys)) (r : Reps T B xs ys) : RelR T B H (.ol xs) (.ref p) := ⟨p, ys, rfl, h, r⟩
theorem semR_callL {r : List V → Hp → VK → Prop} {g : List D → Option (List D)} {t : TA} {f : M (List D)} (hr : PrimL T r g) (ha : SemA T E t f) : SemR T E (tCB r t) (rOp g f) := by
  intro st σ B F H S o s h Q hQ
  rcases bnd_some h with ⟨c, e1, rfl⟩ | ⟨a, s1, e1, e2⟩
  · exact ha st σ B F H S _ _ e1 _ hQ
  · obtain ⟨z, hz, rfl, rfl⟩ := opt_some e2
    cases hg : g a with
    | none => rw [hg] at hz; cases hz
    | some zs =>
      rw [hg] at hz; cases hz
      refine ha st σ B F H S _ _ e1 _ fun B1 H1 x1 S1 vs hvs => ?_
      refine hr a zs vs B1 H1 Q S1.exB hvs hg fun p ys B2 H2 x2 hp hy => ?_
      have S2 := S1.ext x2
      exact hQ _ B2 _ (x1.trans x2.b) (S2.alloc hp (fun _ z => nomatch z) (relR_ol upd_same hy))
theorem rep_tup {B : Hp} {p : Addr} {xs : List D} {vs : List V} (h : B p = some (.tup vs)) (r : Reps T B xs vs) : Rep T B (.tup xs) (.ref p) := by
  unfold Rep; exact ⟨p, vs, rfl, .inl h, r⟩
theorem semE_tup {t : TA} {f : M (List D)} (ha : SemA T E t f) : SemE T E (tTup t) (eTup f) := by
  intro st σ B F H S o s h Q hQ
  refine okx_bnd h hQ (fun o1 s1 e1 q => ha st σ B F H S o1 s1 e1 _ q) fun a s1 B1 H1 _ h2 e1 S1 hQ1 v hv => ?_
  obtain ⟨z, hz, rfl, rfl⟩ := opt_some h2
  split at hz
  · rename_i hl
    cases hz
    refine ⟨by rw [← hv.length]; exact hl, fun p hp => ?_⟩
    have x := Ext.newT (o := .tup v) S1.exB hp
    exact hQ1 _ _ x.b (S1.ext x) _ (rep_tup upd_same (Reps.mono x.b _ hv))
  · cases hz
theorem semR_lst {t : TA} {f : M (List D)} (ha : SemA T E t f) : SemR T E (tLst t) (rLst f) := by
  intro st σ B F H S o s h Q hQ
  rcases bnd_some h with ⟨c, e1, rfl⟩ | ⟨a, s1, e1, e2⟩
  · exact ha st σ B F H S _ _ e1 _ hQ
  · obtain ⟨z, hz, rfl, rfl⟩ := opt_some e2
    split at hz
    · rename_i hl
      cases hz
      refine ha st σ B F H S _ _ e1 _ fun B1 H1 x1 S1 vs hvs => ?_
      exact ⟨by rw [← hvs.length]; exact hl, fun p hp => hQ _ B1 _ x1 (S1.alloc hp (fun _ z => nomatch z) (relR_ol upd_same hvs))⟩
    · cases hz
theorem semR_d (ha : SemE T E ta fa) : SemR T E ta (rD fa) := by
  intro st σ B F H S o s h Q hQ
  rcases bnd_some h with ⟨c, e1, rfl⟩ | ⟨a, s1, e1, e2⟩
  · exact ha st σ B F H S _ _ e1 _ hQ
  · cases e2
    exact ha st σ B F H S _ _ e1 _ fun B1 H1 x1 S1 v hv => hQ v B1 H1 x1 (S1.push hv)
theorem whole_of {r : R} (h : wholeB (fun c => (T.flds c).length) r = true) : whole T r := by
  cases r <;> first | trivial | exact beq_iff_eq.mp h
theorem semE_fz {fr : M R} (ha : SemR T E ta fr) : SemE T E ta (eFz (fun c => (T.flds c).length) fr) := by
  intro st σ B F H S o s h Q hQ
  rcases bnd_some h with ⟨c, e1, rfl⟩ | ⟨a, s1, e1, e2⟩
  · exact ha st σ B F H S _ _ e1 _ hQ
  · obtain ⟨z, hz, rfl, rfl⟩ := opt_some e2
    split at hz
    · rename_i hw
      cases hz
      refine ha st σ B F H S _ _ e1 _ fun v B1 H1 x1 S1 => ?_
      obtain ⟨B2, x2, S2, hv⟩ := S1.freezeTop (whole_of hw)
      exact hQ B2 H1 (x1.trans x2) S2 v hv
    · cases hz
/-- names and constants -/
def eVar (i : Nat) : M D := fun st => match st[i]? with
  | some (some (.d x)) => some (.v x, st)
  | some (some (.ol xs)) => some (.v (.lst xs), st.set i (some (.d (.lst xs))))
  | some (some (.od ks vs)) => some (.v (.dct ks vs), st.set i (some (.d (.dct ks vs))))
  | _ => none
theorem semE_var {i : Nat} : SemE T E (tVar i) (eVar i) := by
  intro st σ B F H S o s h Q hQ
  unfold eVar at h
  split at h
  · rename_i x hi
    cases h
    obtain ⟨v, hv, r⟩ := S.rel i _ hi
    exact ⟨v, hv, hQ B H (.refl B) S v r⟩
  · rename_i x hi
    cases h
    obtain ⟨v, hv, r⟩ := S.rel i _ hi
    obtain ⟨B1, e1, S1, hr⟩ := S.freeze hi trivial
    exact ⟨v, hv, hQ B1 H e1 S1 v (hr v hv)⟩
  · rename_i ks vs hi
    cases h
    obtain ⟨v, hv, r⟩ := S.rel i _ hi
    obtain ⟨B1, e1, S1, hr⟩ := S.freeze hi trivial
    exact ⟨v, hv, hQ B1 H e1 S1 v (hr v hv)⟩
  · cases h
theorem semE_c {x : D} {v : V} (hr : ∀ B, Rep T B x v) : SemE T E (tC v) (ret x) := by
  intro st σ B F H S o s h Q hQ
  cases h
  exact hQ B H (.refl B) S v (hr B)
end
/-! ### reading all names, the owned ones too -/
def vwS (st : Sl) : Sl := st.map (Option.map fun r => .d (vw r))
def wholeS (n : Nat → Nat) (st : Sl) : Bool := st.all fun s => match s with
  | some r => wholeB n r
  | none => true
/-- only what is whole is seen -/
def vwN (n : Nat → Nat) (st : Sl) : Sl := st.map fun s => match s with
  | some r => if wholeB n r then some (.d (vw r)) else none
  | none => none
section
variable {T : Tab} {E : L2.St → XK} {st : Sl} {σ : St} {B F H B' H' : Hp}
theorem relR_full (S : Sim T st σ B F H) {r : R} {v : V} (h : RelR T B H r v) (w : whole T r) : Rep T H (vw r) v := by
  cases r with
  | d x => exact Rep.mono S.exB x h
  | ol xs =>
    obtain ⟨b, ys, h1, h2, h3⟩ := h
    show Rep T _ (.lst xs) v
    unfold Rep
    exact ⟨b, ys, h1, .inl (.inl h2), Reps.mono S.exB _ h3⟩
  | oi c fs =>
    obtain ⟨b, dx, fvs, h1, h2, h3, h4⟩ := h
    show Rep T _ (.obj c fs) v
    unfold Rep
    have w' : fs.length = (T.flds c).length := w
    exact ⟨b, dx, fvs, h1, h2, by rw [h3, w', List.take_length], Reps.mono S.exB _ h4⟩
  | od ks vs =>
    obtain ⟨b, kvs, h1, h2, h3, h4⟩ := h
    show Rep T _ (.dct ks vs) v
    unfold Rep
    exact ⟨b, kvs, h1, h2, h3, Reps.mono S.exB _ h4⟩
theorem Sim.full (S : Sim T st σ B F H) : Sim T (vwN (fun c => (T.flds c).length) st) σ H (fun _ => none) H := by
  have inv : ∀ {i : Nat} {r : R}, (vwN (fun c => (T.flds c).length) st)[i]? = some (some r) → ∃ q, st[i]? = some (some q) ∧ whole T q ∧ r = .d (vw q) := fun {i r} h => by
    unfold vwN at h
    rw [List.getElem?_map] at h
    cases e : st[i]? with
    | none => rw [e] at h; cases h
    | some s =>
      rw [e] at h
      cases s with
      | none => cases h
      | some q =>
        by_cases hw : wholeB (fun c => (T.flds c).length) q = true
        · simp only [Option.map_some, hw, if_true] at h
          cases h
          exact ⟨q, rfl, whole_of hw, rfl⟩
        · simp only [Option.map_some, hw, if_false] at h
          cases h
  refine ⟨Ex.refl H, fun _ _ h => (nomatch h), fun _ _ h => (nomatch h), fun _ _ h => h, by unfold vwN; rw [List.length_map]; exact S.len, fun i r h => ?_, fun i r v a h1 h2 h3 => ?_, fun i j r q v u a n h1 h2 h3 h4 h5 h6 => ?_⟩
  · obtain ⟨q, h1, w, rfl⟩ := inv h
    obtain ⟨v, hv, rel⟩ := S.rel i q h1
    exact ⟨v, hv, relR_full S rel w⟩
  · obtain ⟨q, _, _, rfl⟩ := inv h1
    exact h3.elim
  · obtain ⟨q', _, _, rfl⟩ := inv h1
    exact h5.elim
open Classical in
/-- the frozen part with all tuples -/
noncomputable def tups (B H : Hp) : Hp := fun a => if (∃ xs, H a = some (.tup xs)) then H a else B a
/-- behind a reading of everything -/
theorem Sim.back (S : Sim T st σ B F H) (e : Ex H H') : Ex B (tups B H') ∧ Sim T st σ (tups B H') F H' ∧ ∀ a xs, H' a = some (.tup xs) → tups B H' a = some (.tup xs) := by
  have e1 : Ex B (tups B H') := fun a o h => by
    unfold tups
    split
    · exact e a o (S.exB a o h)
    · exact h
  have tp : ∀ a xs, H' a = some (.tup xs) → tups B H' a = some (.tup xs) := fun a xs h => by
    unfold tups
    rw [if_pos ⟨xs, h⟩]; exact h
  refine ⟨e1, ⟨fun a o h => ?_, S.exF.trans e, fun a o h => ?_, tp, S.len, fun i r h => ?_, fun i r v a h1 h2 h3 => ?_, S.sep⟩, tp⟩
  · unfold tups at h
    split at h
    · exact h
    · exact e a o (S.exB a o h)
  · unfold tups
    split
    · rename_i z
      obtain ⟨xs, z⟩ := z
      have q := e a o (S.exF a o h)
      rw [z] at q
      cases q
      have := S.tup a xs (S.exF a _ h)
      rw [S.dis a _ h] at this; cases this
    · exact S.dis a o h
  · obtain ⟨v, h1, h2⟩ := S.rel i r h
    exact ⟨v, h1, h2.keep e1 fun a o _ z => e a o z⟩
  · obtain ⟨z1, z2⟩ := S.own i r v a h1 h2 h3
    refine ⟨?_, z2⟩
    obtain ⟨v', h4, h5⟩ := S.rel i r h1
    rw [h2] at h4; cases h4
    obtain ⟨_, ⟨o, h6⟩, nt⟩ := h5.ow h3
    unfold tups
    split
    · rename_i z
      obtain ⟨xs, z⟩ := z
      rw [e a o h6] at z
      cases z
      exact (nt xs h6).elim
    · exact z1
/-- an expression that only reads, all names told as they are; what it gives holds no list -/
def eFull (n : Nat → Nat) (f : M D) : M D := fun st => match f (vwN n st) with
  | some (.v x, _) => if imm x then some (.v x, st) else none
  | some (.x c, _) => some (.x c, st)
  | none => none
theorem semE_all {te : TE} {f : M D} (h : SemE T E te f) : SemE T E te (eFull (fun c => (T.flds c).length) f) := by
  intro st σ B F H S o s hf Q hQ
  unfold eFull at hf
  split at hf
  · rename_i x s1 e1
    split at hf
    · rename_i hi
      cases hf
      refine h _ σ H _ H S.full _ _ e1 Q fun B1 H1 x1 S1 v hv => ?_
      obtain ⟨b1, b2, b3⟩ := S.back (x1.trans S1.exB)
      exact hQ _ H1 b1 b2 v (imm_rep (fun a xs z => b3 a xs (S1.exB a _ z)) x hi hv)
    · cases hf
  · rename_i c s1 e1
    cases hf
    refine h _ σ H _ H S.full _ _ e1 Q fun d B1 H1 x1 S1 => ?_
    obtain ⟨b1, b2, b3⟩ := S.back (x1.trans S1.exB)
    exact hQ d _ H1 b1 b2
  · cases hf
theorem imms_rep {T : Tab} {B B' : Hp} (e : ∀ a xs, B a = some (.tup xs) → B' a = some (.tup xs)) : ∀ (ds : List D) {xs : List V}, imms ds = true → Reps T B ds xs → Reps T B' ds xs
  | [], _, _, h => h
  | d :: ds, xs, i, h => by
    unfold Reps at h
    unfold imms at i
    obtain ⟨v, r, e1, e2, e3⟩ := h
    have i' := (Bool.and_eq_true _ _).mp i
    unfold Reps
    exact ⟨v, r, e1, imm_rep e d i'.1 e2, imms_rep e ds i'.2 e3⟩
/-- .. that gives a new list of what holds no list -/
def rFull (n : Nat → Nat) (f : M R) : M R := fun st => match f (vwN n st) with
  | some (.v (.ol xs), _) => if imms xs then some (.v (.ol xs), st) else none
  | some (.v (.d x), _) => if imm x then some (.v (.d x), st) else none
  | some (.x c, _) => some (.x c, st)
  | _ => none
theorem semR_all {te : TE} {f : M R} (h : SemR T E te f) : SemR T E te (rFull (fun c => (T.flds c).length) f) := by
  intro st σ B F H S o s hf Q hQ
  unfold rFull at hf
  split at hf
  · rename_i xs s1 e1
    split at hf
    · rename_i hi
      cases hf
      refine h _ σ H _ H S.full _ _ e1 Q fun v B1 H1 x1 S1 => ?_
      obtain ⟨b1, b2, b3⟩ := S.back (x1.trans S1.exB)
      obtain ⟨p, ys, ev, hp, hr⟩ := S1.top
      subst ev
      have hn : B1 p = none := (S1.own 0 _ _ p rfl rfl rfl).1
      have hH : H p = none := x1.free hn
      refine hQ _ _ H1 b1 ⟨b2.exB, b2.exF, b2.dis, b2.tup, by simp [b2.len], fun i r q => ?_, fun i r v a h1 h2 h3 => ?_, fun i j r q v u a n h1 h2 h3 h4 h5 h6 => ?_⟩
      · cases i with
        | zero => simp at q; subst q; exact ⟨_, rfl, p, ys, rfl, hp, imms_rep (fun a xs z => b3 a xs (S1.exB a _ z)) _ hi hr⟩
        | succ i => obtain ⟨u, a, b⟩ := b2.rel i r (by simpa using q); exact ⟨u, by simpa using a, b⟩
      · cases i with
        | zero =>
          simp at h1 h2; subst h1; subst h2
          have e : p = a := by cases h3; rfl
          subst e
          refine ⟨?_, S.exF.free hH⟩
          unfold tups
          rw [if_neg (by rintro ⟨xs, z⟩; rw [hp] at z; cases z)]
          exact S.exB.free hH
        | succ i => exact b2.own i r v a (by simpa using h1) (by simpa using h2) h3
      · have no : ∀ (k : Nat) y x, st[k]? = some (some y) → σ[k]? = some (some x) → Ow y x p → False := fun k y x g1 g2 g3 => by
          obtain ⟨u', a', b'⟩ := S.rel k y g1
          rw [g2] at a'; cases a'
          obtain ⟨_, ⟨o', h'⟩, _⟩ := b'.ow g3
          rw [hH] at h'; cases h'
        cases i with
        | zero =>
          simp at h1 h2; subst h1; subst h2
          have e : p = a := by cases h5; rfl
          subst e
          cases j with
          | zero => exact n rfl
          | succ j => exact no j q u (by simpa using h3) (by simpa using h4) h6
        | succ i =>
          cases j with
          | zero =>
            simp at h3 h4; subst h3; subst h4
            have e : p = a := by cases h6; rfl
            subst e
            exact no i r v (by simpa using h1) (by simpa using h2) h5
          | succ j => exact b2.sep i j r q v u a (by omega) (by simpa using h1) (by simpa using h2) (by simpa using h3) (by simpa using h4) h5 h6
    · cases hf
  · rename_i x s1 e1
    split at hf
    · rename_i hi
      cases hf
      refine h _ σ H _ H S.full _ _ e1 Q fun v B1 H1 x1 S1 => ?_
      obtain ⟨b1, b2, b3⟩ := S.back (x1.trans S1.exB)
      exact hQ _ _ H1 b1 (b2.push (imm_rep (fun a xs z => b3 a xs (S1.exB a _ z)) x hi S1.top))
    · cases hf
  · rename_i c s1 e1
    cases hf
    refine h _ σ H _ H S.full _ _ e1 Q fun d B1 H1 x1 S1 => ?_
    obtain ⟨b1, b2, b3⟩ := S.back (x1.trans S1.exB)
    exact hQ d _ H1 b1 b2
  · cases hf
end
end Fz

-- text Fz4
set_option Elab.async false
set_option linter.all false
set_option maxRecDepth 100000
set_option maxHeartbeats 2000000
namespace Fz
open PySem L2
/-! ### statements -/
inductive Fl where
  | nx | rt (r : R) | bk | ct | x (c : Nat)
abbrev MS := Sl → Option (Fl × Sl)
def Kp (kp : Nat → Bool) (σ σ' : St) : Prop := ∀ i, kp i = true → σ'[i]? = σ[i]?
theorem Kp.refl (kp : Nat → Bool) (σ : St) : Kp kp σ σ := fun _ _ => rfl
theorem Kp.trans {kp : Nat → Bool} {a b c : St} (h : Kp kp a b) (g : Kp kp b c) : Kp kp a c := fun i e => (g i e).trans (h i e)
theorem Kp.set {kp : Nat → Bool} {σ : St} {i : Nat} {v : Option V} (h : kp i = false) : Kp kp σ (σ.set i v) := fun j e => by
  rw [List.getElem?_set_ne]
  rintro rfl
  rw [h] at e; cases e
def OkS (T : Tab) (E : L2.St → XK) (kp : Nat → Bool) (fl : Fl) (st : Sl) (σ : St) (B F : Hp) (D : Ends) : Prop := match fl with
  | .nx => ∀ σ' B' H', Ex B B' → Kp kp σ σ' → Sim T st σ' B' F H' → D.nx σ' H'
  | .bk => ∀ σ' B' H', Ex B B' → Kp kp σ σ' → Sim T st σ' B' F H' → D.bk σ' H'
  | .ct => ∀ σ' B' H', Ex B B' → Kp kp σ σ' → Sim T st σ' B' F H' → D.ct σ' H'
  | .rt r => ∀ v σ' B' H', Ex B B' → Kp kp σ σ' → Sim T (some r :: st) (some v :: σ') B' F H' → D.rt v H'
  | .x c => ∀ d σ' B' H', Ex B B' → Kp kp σ σ' → Sim T st σ' B' F H' → E σ' (.ref (T.cls c)) d H'
def SemS (T : Tab) (E : L2.St → XK) (kp : Nat → Bool) (ts : TS) (f : MS) : Prop := ∀ st σ B F H, Sim T st σ B F H → ∀ fl s, f st = some (fl, s) → ∀ D : Ends, OkS T E kp fl s σ B F D → ts D σ H
/-- a target -/
def SemG (T : Tab) (kp : Nat → Bool) (g : TG) (gf : D → Sl → Option Sl) : Prop := ∀ st σ B F H, Sim T st σ B F H → ∀ d v s, Rep T B d v → gf d st = some s → ∀ Q : St → Hp → Prop, (∀ σ', Kp kp σ σ' → Sim T s σ' B F H → Q σ' H) → g v σ H Q
def SemGs (T : Tab) (kp : Nat → Bool) (g : TGs) (gf : List D → Sl → Option Sl) : Prop := ∀ st σ B F H, Sim T st σ B F H → ∀ ds vs s, Reps T B ds vs → gf ds st = some s → ∀ Q : St → Hp → Prop, (∀ σ', Kp kp σ σ' → Sim T s σ' B F H → Q σ' H) → g vs σ H Q
/-- what a for walks -/
structure Steps (T : Tab) (J : It) (ds : List D) (B : Hp) : Prop where
  go : ∀ i H, i < ds.length → Ex B H → J.go i H
  stop : ∀ H, Ex B H → J.stop ds.length H
  yld : ∀ i d H x H' B1, ds[i]? = some d → Ex B B1 → Ex B1 H → J.yld i H x H' → ∃ B2, Ext B1 H B2 H' ∧ Rep T B2 d x
def SemI (T : Tab) (E : L2.St → XK) (wi : TI) (f : M (List D)) : Prop := ∀ st σ B F H, Sim T st σ B F H → ∀ o s, f st = some (o, s) → ∀ R : It → Hp → Prop, Okx T (E σ) o s σ B F (fun ds B' H' => ∀ J, Steps T J ds B' → R J H') → wi σ H R
def gN (i : Nat) : D → Sl → Option Sl := fun d st => some (st.set i (some (.d d)))
def gsN : List D → Sl → Option Sl := fun ds st => match ds with
  | [] => some st
  | _ => none
def gsC (f : D → Sl → Option Sl) (g : List D → Sl → Option Sl) : List D → Sl → Option Sl := fun ds st => match ds with
  | d :: r => (f d st).bind (g r)
  | [] => none
def gT (n : Nat) (g : List D → Sl → Option Sl) : D → Sl → Option Sl := fun d st => match d with
  | .tup ds => if ds.length = n then g ds st else none
  | _ => none
section
variable {T : Tab} {E : L2.St → XK} {kp : Nat → Bool} {st : Sl} {σ σ' : St} {B F H B' H' : Hp}
theorem OkS.weak {fl : Fl} {s : Sl} {D D' : Ends} (h : OkS T E kp fl s σ B F D) (e : Ex B B') (k : Kp kp σ σ') (hn : fl = .nx → ∀ a b, D.nx a b → D'.nx a b) (hb : fl = .bk → ∀ a b, D.bk a b → D'.bk a b) (hc : fl = .ct → ∀ a b, D.ct a b → D'.ct a b) (hr : ∀ a b, D.rt a b → D'.rt a b) : OkS T E kp fl s σ' B' F D' := by
  cases fl with
  | nx => exact fun σ1 B1 H1 e1 k1 S => hn rfl _ _ (h σ1 B1 H1 (e.trans e1) (k.trans k1) S)
  | bk => exact fun σ1 B1 H1 e1 k1 S => hb rfl _ _ (h σ1 B1 H1 (e.trans e1) (k.trans k1) S)
  | ct => exact fun σ1 B1 H1 e1 k1 S => hc rfl _ _ (h σ1 B1 H1 (e.trans e1) (k.trans k1) S)
  | rt r => exact fun v σ1 B1 H1 e1 k1 S => hr _ _ (h v σ1 B1 H1 (e.trans e1) (k.trans k1) S)
  | x c => exact fun d σ1 B1 H1 e1 k1 S => h d σ1 B1 H1 (e.trans e1) (k.trans k1) S
theorem OkS.same {fl : Fl} {s : Sl} {D : Ends} (h : OkS T E kp fl s σ B F D) (e : Ex B B') (k : Kp kp σ σ') : OkS T E kp fl s σ' B' F D :=
  h.weak e k (fun _ _ _ z => z) (fun _ _ _ z => z) (fun _ _ _ z => z) fun _ _ z => z
theorem semG_name {i : Nat} (hk : kp i = false) : SemG T kp (gName i) (gN i) := by
  intro st σ B F H S d v s r h Q q
  cases h
  exact q _ (Kp.set hk) (Sim.store (S.push r) i)
theorem semGs_nil : SemGs T kp gNil gsN := by
  intro st σ B F H S ds vs s r h Q q
  cases ds with
  | nil =>
    unfold Reps at r
    cases h
    exact ⟨r, q _ (Kp.refl _ _) S⟩
  | cons d ds => cases h
theorem semGs_cons {g : TG} {gs : TGs} {f : D → Sl → Option Sl} {fs : List D → Sl → Option Sl} (h1 : SemG T kp g f) (h2 : SemGs T kp gs fs) : SemGs T kp (gCons g gs) (gsC f fs) := by
  intro st σ B F H S ds vs s r h Q q
  cases ds with
  | nil => cases h
  | cons d ds =>
    unfold Reps at r
    obtain ⟨v, r', rfl, rd, rr⟩ := r
    have h : (f d st).bind (fs ds) = some s := h
    cases e : f d st with
    | none => rw [e] at h; cases h
    | some s1 =>
      rw [e] at h
      exact ⟨v, r', rfl, h1 st σ B F H S d v s1 rd e _ fun σ1 k1 S1 => h2 s1 σ1 B F H S1 ds r' s rr h _ fun σ2 k2 S2 => q σ2 (k1.trans k2) S2⟩
theorem semG_tup {n : Nat} {gs : TGs} {fs : List D → Sl → Option Sl} (h1 : SemGs T kp gs fs) : SemG T kp (gTup T.K n gs) (gT n fs) := by
  intro st σ B F H S d v s r h Q q
  unfold gT at h
  split at h
  · rename_i ds
    split at h
    · rename_i hl
      unfold Rep at r
      obtain ⟨a, xs, rfl, ht, hr⟩ := r
      exact ⟨a, xs, rfl, (S.exB.tu ht).sq, by rw [← hr.length]; exact hl, h1 st σ B F H S ds xs s hr h Q q⟩
    · cases h
  · cases h

/-! ### the small ones -/
def sNext : MS := fun st => some (.nx, st)
def sSeq (f g : MS) : MS := fun st => match f st with
  | some (.nx, s) => g s
  | r => r
theorem semS_next : SemS T E kp tNext sNext := by
  intro st σ B F H S fl s h D hD
  cases h
  exact hD σ B H (Ex.refl _) (Kp.refl _ _) S
theorem semS_seq {t u : TS} {f g : MS} (h1 : SemS T E kp t f) (h2 : SemS T E kp u g) : SemS T E kp (tSeq t u) (sSeq f g) := by
  intro st σ B F H S fl s h D hD
  unfold sSeq at h
  split at h
  · rename_i s1 e
    exact h1 st σ B F H S _ _ e _ fun σ1 B1 H1 e1 k1 S1 => h2 s1 σ1 B1 F H1 S1 fl s h D (hD.same e1 k1)
  · rename_i r hn
    refine h1 st σ B F H S fl s h _ (hD.weak (Ex.refl _) (Kp.refl _ _) (fun e => ?_) (fun _ _ _ z => z) (fun _ _ _ z => z) fun _ _ z => z)
    subst e
    exact (hn s h).elim
def sSet (i : Nat) (m : M R) : MS := fun st => match m st with
  | some (.v r, s) => some (.nx, s.set i (some r))
  | some (.x c, s) => some (.x c, s)
  | none => none
theorem semS_set {te : TE} {m : M R} {i : Nat} (hk : kp i = false) (h : SemR T E te m) : SemS T E kp (tAsg te (gName i)) (sSet i m) := by
  intro st σ B F H S fl s hf D hD
  unfold sSet at hf
  split at hf
  · rename_i r s1 e
    cases hf
    exact h st σ B F H S _ _ e _ fun v B1 H1 e1 S1 => hD _ B1 H1 e1 (Kp.set hk) (S1.store i)
  · rename_i c s1 e
    cases hf
    exact h st σ B F H S _ _ e _ fun d B1 H1 e1 S1 => hD d σ B1 H1 e1 (Kp.refl _ _) S1
  · cases hf
def sAsg (m : M D) (g : D → Sl → Option Sl) : MS := fun st => match m st with
  | some (.v r, s) => (g r s).map fun s => (.nx, s)
  | some (.x c, s) => some (.x c, s)
  | none => none
theorem semS_asg {te : TE} {m : M D} {g : TG} {gf : D → Sl → Option Sl} (h : SemE T E te m) (hg : SemG T kp g gf) : SemS T E kp (tAsg te g) (sAsg m gf) := by
  intro st σ B F H S fl s hf D hD
  unfold sAsg at hf
  split at hf
  · rename_i r s1 e
    cases q : gf r s1 with
    | none => rw [q] at hf; cases hf
    | some s2 =>
      rw [q] at hf; cases hf
      exact h st σ B F H S _ _ e _ fun B1 H1 e1 S1 v hv => hg s1 σ B1 F H1 S1 r v _ hv q _ fun σ2 k2 S2 => hD σ2 B1 H1 e1 k2 S2
  · rename_i c s1 e
    cases hf
    exact h st σ B F H S _ _ e _ fun d B1 H1 e1 S1 => hD d σ B1 H1 e1 (Kp.refl _ _) S1
  · cases hf
def sIf (c : M Bool) (f g : MS) : MS := fun st => match c st with
  | some (.v b, s) => if b = true then f s else g s
  | some (.x c, s) => some (.x c, s)
  | none => none
theorem semS_if {tc : TT} {c : M Bool} {t u : TS} {f g : MS} (hc : SemT T E tc c) (h1 : SemS T E kp t f) (h2 : SemS T E kp u g) : SemS T E kp (tIfS tc t u) (sIf c f g) := by
  intro st σ B F H S fl s hf D hD
  unfold sIf at hf
  split at hf
  · rename_i b s1 e
    refine hc st σ B F H S _ _ e _ fun B1 H1 e1 S1 => ?_
    cases b with
    | true => exact h1 s1 σ B1 F H1 S1 fl s hf D (hD.same e1 (Kp.refl _ _))
    | false => exact h2 s1 σ B1 F H1 S1 fl s hf D (hD.same e1 (Kp.refl _ _))
  · rename_i c s1 e
    cases hf
    exact hc st σ B F H S _ _ e _ fun d B1 H1 e1 S1 => hD d σ B1 H1 e1 (Kp.refl _ _) S1
  · cases hf
def sRet (m : M R) : MS := fun st => match m st with
  | some (.v r, s) => some (.rt r, s)
  | some (.x c, s) => some (.x c, s)
  | none => none
theorem semS_ret {te : TE} {m : M R} (h : SemR T E te m) : SemS T E kp (tRet te) (sRet m) := by
  intro st σ B F H S fl s hf D hD
  unfold sRet at hf
  split at hf
  · rename_i r s1 e
    cases hf
    exact h st σ B F H S _ _ e _ fun v B1 H1 e1 S1 => hD v σ B1 H1 e1 (Kp.refl _ _) S1
  · rename_i c s1 e
    cases hf
    exact h st σ B F H S _ _ e _ fun d B1 H1 e1 S1 => hD d σ B1 H1 e1 (Kp.refl _ _) S1
  · cases hf
def sRetN : MS := fun st => some (.rt (.d .non), st)
theorem semS_retN : SemS T E kp tRetN sRetN := by
  intro st σ B F H S fl s hf D hD
  cases hf
  exact hD .non σ B H (Ex.refl _) (Kp.refl _ _) (S.push rfl)
def sBrk : MS := fun st => some (.bk, st)
def sCt : MS := fun st => some (.ct, st)
theorem semS_brk : SemS T E kp tBreak sBrk := by
  intro st σ B F H S fl s hf D hD
  cases hf
  exact hD σ B H (Ex.refl _) (Kp.refl _ _) S
theorem semS_ct : SemS T E kp tCont sCt := by
  intro st σ B F H S fl s hf D hD
  cases hf
  exact hD σ B H (Ex.refl _) (Kp.refl _ _) S
def sDrop (m : M R) : MS := fun st => match m st with
  | some (.v _, s) => some (.nx, s)
  | some (.x c, s) => some (.x c, s)
  | none => none
theorem semS_drop {te : TE} {m : M R} (h : SemR T E te m) : SemS T E kp (tDrop te) (sDrop m) := by
  intro st σ B F H S fl s hf D hD
  unfold sDrop at hf
  split at hf
  · rename_i r s1 e
    cases hf
    exact h st σ B F H S _ _ e _ fun v B1 H1 e1 S1 => hD σ B1 H1 e1 (Kp.refl _ _) S1.pop
  · rename_i c s1 e
    cases hf
    exact h st σ B F H S _ _ e _ fun d B1 H1 e1 S1 => hD d σ B1 H1 e1 (Kp.refl _ _) S1
  · cases hf
/-- the name's own value handed back -/
def rMv (i : Nat) : M R := fun st => match st[i]? with
  | some (some r) => some (.v r, st.set i none)
  | _ => none
theorem semR_mv {i : Nat} : SemR T E (tVar i) (rMv i) := by
  intro st σ B F H S o s h Q hQ
  unfold rMv at h
  split at h
  · rename_i r hi
    cases h
    obtain ⟨v, hv, rel⟩ := S.rel i r hi
    refine ⟨v, hv, hQ v B H (Ex.refl _) ?_⟩
    have Sf := S.forget i
    refine ⟨S.exB, S.exF, S.dis, S.tup, by simp [S.len], fun j q e => ?_, fun j q u a h1 h2 h3 => ?_, fun j k q p u w a n h1 h2 h3 h4 h5 h6 => ?_⟩
    · cases j with
      | zero => simp at e; subst e; exact ⟨v, rfl, rel⟩
      | succ j => obtain ⟨u, a, b⟩ := Sf.rel j q (by simpa using e); exact ⟨u, by simpa using a, b⟩
    · cases j with
      | zero => simp at h1 h2; subst h1; subst h2; exact S.own i r v a hi hv h3
      | succ j => exact Sf.own j q u a (by simpa using h1) (by simpa using h2) h3
    · have ne : ∀ {j : Nat} {q : R}, (st.set i none)[j]? = some (some q) → i ≠ j ∧ st[j]? = some (some q) := fun {j q} e => by
        rw [List.getElem?_set] at e
        split at e
        · split at e <;> cases e
        · rename_i z; exact ⟨z, e⟩
      cases j with
      | zero =>
        simp at h1 h2; subst h1; subst h2
        cases k with
        | zero => exact n rfl
        | succ k =>
          obtain ⟨z, h3⟩ := ne (j := k) (by simpa using h3)
          exact S.sep i k r p v w a z hi hv h3 (by simpa using h4) h5 h6
      | succ j =>
        obtain ⟨z, h1⟩ := ne (j := j) (by simpa using h1)
        cases k with
        | zero => simp at h3 h4; subst h3; subst h4; exact S.sep i j r q v u a z hi hv h1 (by simpa using h2) h6 h5
        | succ k =>
          obtain ⟨z', h3⟩ := ne (j := k) (by simpa using h3)
          exact S.sep j k q p u w a (by omega) h1 (by simpa using h2) h3 (by simpa using h4) h5 h6
  · cases h

/-! ### loops -/
def forL (g : D → Sl → Option Sl) (body : MS) : List D → MS
  | [], s => some (.nx, s)
  | d :: ds, s => match g d s with
    | none => none
    | some s1 => match body s1 with
      | some (.nx, s2) => forL g body ds s2
      | some (.ct, s2) => forL g body ds s2
      | some (.bk, s2) => some (.nx, s2)
      | r => r
def sFor (it : M (List D)) (g : D → Sl → Option Sl) (body : MS) : MS := fun st => match it st with
  | some (.v ds, s) => forL g body ds s
  | some (.x c, s) => some (.x c, s)
  | none => none
theorem semS_for {wi : TI} {g : TG} {tb : TS} {it : M (List D)} {gf : D → Sl → Option Sl} {body : MS} (hi : SemI T E wi it) (hg : SemG T kp g gf) (hb : SemS T E kp tb body) : SemS T E kp (tFor wi g tb) (sFor it gf body) := by
  intro st σ B F H S fl s hf D hD
  unfold sFor at hf
  split at hf
  · rename_i ds s1 e
    refine hi st σ B F H S _ _ e _ fun B1 H1 e1 S1 J hJ => ?_
    refine ⟨fun i m σ2 H2 => i ≤ ds.length ∧ m = ds.length - i ∧ ∃ s2 B2, Ex B1 B2 ∧ Kp kp σ σ2 ∧ Sim T s2 σ2 B2 F H2 ∧ forL gf body (ds.drop i) s2 = some (fl, s), ⟨ds.length, Nat.zero_le _, by omega, s1, B1, Ex.refl _, Kp.refl _ _, S1, hf⟩, ?_⟩
    rintro i m σ2 H2 ⟨hle, rfl, s2, B2, e2, k2, S2, h2⟩
    by_cases hlt : i < ds.length
    · refine .inr ⟨hJ.go i H2 hlt (e2.trans S2.exB), ?_⟩
      rw [List.drop_eq_getElem_cons hlt] at h2
      have hget : ds[i]? = some ds[i] := List.getElem?_eq_getElem hlt
      generalize ds[i] = d at h2 hget
      unfold forL at h2
      split at h2
      · cases h2
      · rename_i s3 eg
        refine ⟨fun σ' H' => ∃ m', m' < ds.length - i ∧ (i + 1 ≤ ds.length ∧ m' = ds.length - (i + 1) ∧ ∃ s2 B2, Ex B1 B2 ∧ Kp kp σ σ' ∧ Sim T s2 σ' B2 F H' ∧ forL gf body (ds.drop (i + 1)) s2 = some (fl, s)), fun σ' H' z => z, fun x H3 hy => ?_⟩
        obtain ⟨B3, x3, hx⟩ := hJ.yld i d H2 x H3 B2 hget e2 S2.exB hy
        have S3 := S2.ext x3
        refine hg s2 σ2 B3 F H3 S3 d x s3 hx eg _ fun σ4 k4 S4 => ?_
        have k24 := k2.trans k4
        have e23 := e2.trans x3.b
        split at h2
        · rename_i s5 eb
          refine hb s3 σ4 B3 F H3 S4 _ _ eb _ fun σ5 B5 H5 e5 k5 S5 => ?_
          exact ⟨_, by omega, hlt, rfl, s5, B5, e23.trans e5, k24.trans k5, S5, h2⟩
        · rename_i s5 eb
          refine hb s3 σ4 B3 F H3 S4 _ _ eb _ fun σ5 B5 H5 e5 k5 S5 => ?_
          exact ⟨_, by omega, hlt, rfl, s5, B5, e23.trans e5, k24.trans k5, S5, h2⟩
        · rename_i s5 eb
          cases h2
          refine hb s3 σ4 B3 F H3 S4 _ _ eb _ fun σ5 B5 H5 e5 k5 S5 => ?_
          exact hD σ5 B5 H5 (e1.trans (e23.trans e5)) (k24.trans k5) S5
        · rename_i q n1 n2 n3
          refine hb s3 σ4 B3 F H3 S4 fl s h2 _ ?_
          cases fl with
          | nx => exact (n1 _ h2).elim
          | ct => exact (n2 _ h2).elim
          | bk => exact (n3 _ h2).elim
          | rt r => exact fun v σ5 B5 H5 e5 k5 S5 => hD v σ5 B5 H5 (e1.trans (e23.trans e5)) (k24.trans k5) S5
          | x c => exact fun v σ5 B5 H5 e5 k5 S5 => hD v σ5 B5 H5 (e1.trans (e23.trans e5)) (k24.trans k5) S5
    · have ei : i = ds.length := by omega
      subst ei
      refine .inl ⟨hJ.stop H2 (e2.trans S2.exB), ?_⟩
      rw [List.drop_length] at h2
      cases h2
      exact hD σ2 B2 H2 (e1.trans e2) k2 S2
  · rename_i c s1 e
    cases hf
    exact hi st σ B F H S _ _ e _ fun d B1 H1 e1 S1 => hD d σ B1 H1 e1 (Kp.refl _ _) S1
  · cases hf
def whileL (c : M Bool) (body : MS) : Nat → MS
  | 0, _ => none
  | n + 1, s => match c s with
    | some (.v true, s1) => (match body s1 with
      | some (.nx, s2) => whileL c body n s2
      | some (.ct, s2) => whileL c body n s2
      | some (.bk, s2) => some (.nx, s2)
      | r => r)
    | some (.v false, s1) => some (.nx, s1)
    | some (.x k, s1) => some (.x k, s1)
    | none => none
theorem semS_while {tc : TT} {tb : TS} {c : M Bool} {body : MS} (hc : SemT T E tc c) (hb : SemS T E kp tb body) (n : Nat) : SemS T E kp (tWhile tc tb) (whileL c body n) := by
  intro st σ B F H S fl s hf D hD
  refine ⟨fun m σ2 H2 => ∃ s2 B2, Ex B B2 ∧ Kp kp σ σ2 ∧ Sim T s2 σ2 B2 F H2 ∧ whileL c body m s2 = some (fl, s), ⟨n, st, B, Ex.refl _, Kp.refl _ _, S, hf⟩, ?_⟩
  rintro m σ2 H2 ⟨s2, B2, e2, k2, S2, h2⟩
  cases m with
  | zero => cases h2
  | succ m =>
    unfold whileL at h2
    split at h2
    · rename_i s3 e
      refine hc s2 σ2 B2 F H2 S2 _ _ e _ fun B3 H3 e3 S3 => ?_
      show if true = true then _ else _
      rw [if_pos rfl]
      refine ⟨fun σ' H' => ∃ m', m' < m + 1 ∧ ∃ s2 B2, Ex B B2 ∧ Kp kp σ σ' ∧ Sim T s2 σ' B2 F H' ∧ whileL c body m' s2 = some (fl, s), fun σ' H' z => z, ?_⟩
      split at h2
      · rename_i s5 eb
        refine hb s3 σ2 B3 F H3 S3 _ _ eb _ fun σ5 B5 H5 e5 k5 S5 => ?_
        exact ⟨m, by omega, s5, B5, e2.trans (e3.trans e5), k2.trans k5, S5, h2⟩
      · rename_i s5 eb
        refine hb s3 σ2 B3 F H3 S3 _ _ eb _ fun σ5 B5 H5 e5 k5 S5 => ?_
        exact ⟨m, by omega, s5, B5, e2.trans (e3.trans e5), k2.trans k5, S5, h2⟩
      · rename_i s5 eb
        cases h2
        refine hb s3 σ2 B3 F H3 S3 _ _ eb _ fun σ5 B5 H5 e5 k5 S5 => ?_
        exact hD σ5 B5 H5 (e2.trans (e3.trans e5)) (k2.trans k5) S5
      · rename_i q n1 n2 n3
        refine hb s3 σ2 B3 F H3 S3 fl s h2 _ ?_
        cases fl with
        | nx => exact (n1 _ h2).elim
        | ct => exact (n2 _ h2).elim
        | bk => exact (n3 _ h2).elim
        | rt r => exact fun v σ5 B5 H5 e5 k5 S5 => hD v σ5 B5 H5 (e2.trans (e3.trans e5)) (k2.trans k5) S5
        | x c => exact fun v σ5 B5 H5 e5 k5 S5 => hD v σ5 B5 H5 (e2.trans (e3.trans e5)) (k2.trans k5) S5
    · rename_i s3 e
      cases h2
      refine hc s2 σ2 B2 F H2 S2 _ _ e _ fun B3 H3 e3 S3 => ?_
      show if false = true then _ else _
      rw [if_neg Bool.false_ne_true]
      exact hD σ2 B3 H3 (e2.trans e3) k2 S3
    · rename_i k s3 e
      cases h2
      exact hc s2 σ2 B2 F H2 S2 _ _ e _ fun d B3 H3 e3 S3 => hD d σ2 B3 H3 (e2.trans e3) k2 S3
    · cases h2
end
end Fz

-- text Fz5
set_option Elab.async false
set_option linter.all false
set_option maxRecDepth 100000
set_option maxHeartbeats 2000000
namespace Fz
open PySem L2
/-! ### what a def promises: that it does as a plain function says -/
abbrev Fn := List R → Option (Oc R × List R)
def Okf (T : Tab) (o : Oc R) (rs : List R) (vs : List V) (B F : Hp) (Q : VK) (E : XK) : Prop := match o with
  | .v r => ∀ v B' H', Ex B B' → Sim T (some r :: rs.map some) (some v :: vs.map some) B' F H' → Q v H'
  | .x c => ∀ d B' H', Ex B B' → Sim T (rs.map some) (vs.map some) B' F H' → E (.ref (T.cls c)) d H'
def sp (T : Tab) (n : Nat) (f : Fn) : Sp := fun vs H Q E => vs.length = n ∧ ∃ rs B F o rs', Sim T (rs.map some) (vs.map some) B F H ∧ f rs = some (o, rs') ∧ Okf T o rs' vs B F Q E
/-- a def with fewer cases keeps the promise -/
theorem sp_sub {T : Tab} {n : Nat} {f g : Fn} (h : ∀ rs o, g rs = some o → f rs = some o) : ∀ vs H Q E, sp T n g vs H Q E → sp T n f vs H Q E :=
  fun vs H Q E ⟨hl, rs, B, F, o, rs', S, e, k⟩ => ⟨hl, rs, B, F, o, rs', S, h _ _ e, k⟩
theorem fn_sub {T : Tab} {n : Nat} {f g : Fn} {P : Program} {w : World} {mg : Str → Option Value} {base : Heap} {CX : CXT} {k : Nat} {a : Addr} {fd : FuncData} {ps : List Str} (h : FnOk P w T.K mg base CX k a fd ps (sp T n f)) (hg : ∀ rs o, g rs = some o → f rs = some o) : FnOk P w T.K mg base CX k a fd ps (sp T n g) :=
  h.imp (sp_sub hg)

def isD : R → Bool
  | .d _ => true
  | _ => false
/-- the arguments behind the run: those whose names are stored anew were frozen ones -/
def outs (kp : Nat → Bool) : Nat → List R → Sl → Option (List R)
  | _, [], _ => some []
  | i, r :: rs, s :: st => match (if kp i = true then s else if isD r = true then some r else none), outs kp (i + 1) rs st with
    | some q, some qs => some (q :: qs)
    | _, _ => none
  | _, _ :: _, [] => none
def fnEnd (kp : Nat → Bool) (rs : List R) (r : Oc R) (s : Sl) : Option (Oc R × List R) := (outs kp 0 rs s).map fun qs => (r, qs)
def fnOf (n N : Nat) (kp : Nat → Bool) (body : MS) : Fn := fun rs => if rs.length = n then
  match body (rs.map some ++ List.replicate (N - n) none) with
  | some (.rt r, s) => fnEnd kp rs (.v r) s
  | some (.nx, s) => fnEnd kp rs (.v (.d .non)) s
  | some (.x c, s) => fnEnd kp rs (.x c) s
  | _ => none
  else none
section
variable {T : Tab} {E : L2.St → XK} {kp : Nat → Bool} {st : Sl} {σ σ' : St} {B F H B' H' : Hp}
theorem sim_pad (S : Sim T st σ B F H) (k : Nat) : Sim T (st ++ List.replicate k none) (σ ++ List.replicate k none) B F H := by
  have ln := S.len
  have inv : ∀ {i : Nat} {r : R}, (st ++ List.replicate k none)[i]? = some (some r) → i < st.length ∧ st[i]? = some (some r) := fun {i r} h => by
    by_cases hi : i < st.length
    · rw [List.getElem?_append_left hi] at h; exact ⟨hi, h⟩
    · rw [List.getElem?_append_right (by omega), List.getElem?_replicate] at h
      split at h <;> cases h
  refine ⟨S.exB, S.exF, S.dis, S.tup, by simp [ln], fun i r h => ?_, fun i r v a h1 h2 h3 => ?_, fun i j r q v u a n h1 h2 h3 h4 h5 h6 => ?_⟩
  · obtain ⟨hi, h⟩ := inv h
    obtain ⟨v, a, b⟩ := S.rel i r h
    exact ⟨v, by rw [List.getElem?_append_left (by omega)]; exact a, b⟩
  · obtain ⟨hi, h1⟩ := inv h1
    rw [List.getElem?_append_left (by omega)] at h2
    exact S.own i r v a h1 h2 h3
  · obtain ⟨hi, h1⟩ := inv h1
    obtain ⟨hj, h3⟩ := inv h3
    rw [List.getElem?_append_left (by omega)] at h2 h4
    exact S.sep i j r q v u a n h1 h2 h3 h4 h5 h6
theorem outs_get : ∀ {rs qs : List R} {s : Sl} {i : Nat}, outs kp i rs s = some qs → qs.length = rs.length ∧ ∀ (j : Nat) q, qs[j]? = some q → (kp (i + j) = true ∧ s[j]? = some (some q)) ∨ (rs[j]? = some q ∧ isD q = true)
  | [], qs, s, i, h => by
    unfold outs at h
    cases h
    exact ⟨rfl, fun j q h => by simp at h⟩
  | r :: rs, qs, [], i, h => by unfold outs at h; cases h
  | r :: rs, qs, s :: st, i, h => by
    unfold outs at h
    split at h
    · rename_i q qs' e1 e2
      cases h
      obtain ⟨l, k⟩ := outs_get e2
      refine ⟨by simp [l], fun j q' hj => ?_⟩
      cases j with
      | zero =>
        simp at hj
        subst hj
        split at e1
        · rename_i hk; exact .inl ⟨hk, by simp [e1]⟩
        · split at e1
          · rename_i hd; cases e1; exact .inr ⟨rfl, hd⟩
          · cases e1
      | succ j =>
        have := k j q' (by simpa using hj)
        rw [show i + 1 + j = i + (j + 1) by omega] at this
        simpa using this
    · cases h
/-- behind the body: what stands at the arguments' addresses -/
theorem sim_outs {rs qs : List R} {vs : List V} {s : Sl} {B0 H0 : Hp} {σ1 : St} {k : Nat} (S0 : Sim T (rs.map some) (vs.map some) B0 F H0) (e : Ex B0 B) (S : Sim T s σ B F H) (K : Kp kp (vs.map some ++ List.replicate k none) σ) (h : outs kp 0 rs s = some qs)
    (w : ∀ top : Option (R × V), True) : Sim T (qs.map some) (vs.map some) B F H := by
  obtain ⟨l, g⟩ := outs_get h
  have l0 : rs.length = vs.length := by have := S0.len; simpa using this
  have at_ : ∀ {j : Nat} {q : R}, (qs.map some)[j]? = some (some q) → j < vs.length ∧ ((kp j = true ∧ s[j]? = some (some q)) ∨ (rs[j]? = some q ∧ isD q = true)) := fun {j q} hj => by
    rw [List.getElem?_map] at hj
    cases e : qs[j]? with
    | none => rw [e] at hj; cases hj
    | some q' =>
      rw [e] at hj; cases hj
      have hl := (List.getElem?_eq_some_iff.mp e).1
      have := g j q e
      rw [Nat.zero_add] at this
      exact ⟨by omega, this⟩
  have val : ∀ {j : Nat}, j < vs.length → kp j = true → σ[j]? = (vs.map some)[j]? := fun {j} hj hk => by
    rw [K j hk, List.getElem?_append_left (by simpa using hj)]
  have dd : ∀ {q : R} {v : V} {a : Addr}, isD q = true → Ow q v a → False := fun {q v a} h o => by cases q <;> first | exact o.elim | cases h
  refine ⟨S.exB, S.exF, S.dis, S.tup, by simp [l, l0], fun j q hj => ?_, fun j q v a h1 h2 h3 => ?_, fun i j r q v u a n h1 h2 h3 h4 h5 h6 => ?_⟩
  · obtain ⟨hl, hj | ⟨hj, hd⟩⟩ := at_ hj
    · obtain ⟨v, a, b⟩ := S.rel j q hj.2
      exact ⟨v, by rw [← val hl hj.1]; exact a, b⟩
    · obtain ⟨v, a, b⟩ := S0.rel j q (by rw [List.getElem?_map, hj]; rfl)
      refine ⟨v, a, ?_⟩
      cases q with
      | d x => exact Rep.mono e x b
      | _ => cases hd
  · obtain ⟨hl, hj | ⟨hj, hd⟩⟩ := at_ h1
    · exact S.own j q v a hj.2 (by rw [val hl hj.1]; exact h2) h3
    · exact (dd hd h3).elim
  · obtain ⟨hl, hi | ⟨hi, hd⟩⟩ := at_ h1
    · obtain ⟨hl', hj | ⟨hj, hd⟩⟩ := at_ h3
      · exact S.sep i j r q v u a n hi.2 (by rw [val hl hi.1]; exact h2) hj.2 (by rw [val hl' hj.1]; exact h4) h5 h6
      · exact (dd hd h6).elim
    · exact (dd hd h5).elim
/-- .. with a value on top -/
theorem sim_outsT {rs qs : List R} {vs : List V} {s : Sl} {B0 H0 : Hp} {k : Nat} {r : R} {v : V} (S0 : Sim T (rs.map some) (vs.map some) B0 F H0) (e : Ex B0 B) (S : Sim T (some r :: s) (some v :: σ) B F H) (K : Kp kp (vs.map some ++ List.replicate k none) σ) (h : outs kp 0 rs s = some qs) :
    Sim T (some r :: qs.map some) (some v :: vs.map some) B F H := by
  have P := sim_outs (σ1 := []) S0 e S.pop K h fun _ => trivial
  obtain ⟨l, g⟩ := outs_get h
  have l0 : rs.length = vs.length := by have := S0.len; simpa using this
  have at_ : ∀ {j : Nat} {q : R}, (qs.map some)[j]? = some (some q) → j < vs.length ∧ ((kp j = true ∧ s[j]? = some (some q)) ∨ isD q = true) := fun {j q} hj => by
    rw [List.getElem?_map] at hj
    cases e : qs[j]? with
    | none => rw [e] at hj; cases hj
    | some q' =>
      rw [e] at hj; cases hj
      have hl := (List.getElem?_eq_some_iff.mp e).1
      have := g j q e
      rw [Nat.zero_add] at this
      exact ⟨by omega, this.elim .inl fun z => .inr z.2⟩
  have val : ∀ {j : Nat}, j < vs.length → kp j = true → σ[j]? = (vs.map some)[j]? := fun {j} hj hk => by
    rw [K j hk, List.getElem?_append_left (by simpa using hj)]
  have dd : ∀ {q : R} {v : V} {a : Addr}, isD q = true → Ow q v a → False := fun {q v a} h o => by cases q <;> first | exact o.elim | cases h
  have cross : ∀ {j : Nat} {q : R} {u : V} {a : Addr}, (qs.map some)[j]? = some (some q) → (vs.map some)[j]? = some (some u) → Ow r v a → Ow q u a → False := fun {j q u a} h1 h2 h3 h4 => by
    obtain ⟨hl, hj | hd⟩ := at_ h1
    · exact S.sep 0 (j + 1) r q v u a (by omega) rfl rfl (by simpa using hj.2) (by rw [List.getElem?_cons_succ, val hl hj.1]; exact h2) h3 h4
    · exact dd hd h4
  refine ⟨P.exB, P.exF, P.dis, P.tup, by have := P.len; simpa using this, fun j q hj => ?_, fun j q u a h1 h2 h3 => ?_, fun i j p q u u' a n h1 h2 h3 h4 h5 h6 => ?_⟩
  · cases j with
    | zero => cases hj; exact ⟨v, rfl, S.top⟩
    | succ j => obtain ⟨u, a, b⟩ := P.rel j q (by simpa using hj); exact ⟨u, by simpa using a, b⟩
  · cases j with
    | zero => cases h1; cases h2; exact S.own 0 r v a rfl rfl h3
    | succ j => exact P.own j q u a (by simpa using h1) (by simpa using h2) h3
  · cases i with
    | zero =>
      cases h1; cases h2
      cases j with
      | zero => exact n rfl
      | succ j => exact cross (by simpa using h3) (by simpa using h4) h5 h6
    | succ i =>
      cases j with
      | zero => cases h3; cases h4; exact cross (by simpa using h1) (by simpa using h2) h6 h5
      | succ j => exact P.sep i j p q u u' a (by omega) (by simpa using h1) (by simpa using h2) (by simpa using h3) (by simpa using h4) h5 h6
/-- THE RULE for a def -/
theorem read_fn {E : XK} {n : Nat} {N : List Str} {t : TS} {f : MS} {vs : List V} {H : Hp} {Q : VK} (hp : sp T n (fnOf n N.length kp f) vs H Q E) (h : SemS T (fun _ => E) kp t f) : t { nx := fun _ H' => Q .non H', rt := Q } (L2.start N vs) H := by
  obtain ⟨hl, rs, B, F, o, rs', S, e, k⟩ := hp
  unfold fnOf at e
  split at e
  · rename_i hn
    have S1 := sim_pad S (N.length - n)
    have es : L2.start N vs = vs.map some ++ List.replicate (N.length - n) none := by unfold L2.start; rw [hl]
    rw [es]
    split at e
    · rename_i r s eb
      unfold fnEnd at e
      cases eo : outs kp 0 rs s with
      | none => rw [eo] at e; cases e
      | some qs =>
        rw [eo] at e; cases e
        exact h _ _ B F H S1 _ _ eb _ fun v σ' B' H' e1 k1 S' => k v B' H' e1 (sim_outsT S e1 S' k1 eo)
    · rename_i s eb
      unfold fnEnd at e
      cases eo : outs kp 0 rs s with
      | none => rw [eo] at e; cases e
      | some qs =>
        rw [eo] at e; cases e
        exact h _ _ B F H S1 _ _ eb _ fun σ' B' H' e1 k1 S' => k .non B' H' e1 (sim_outsT S e1 (S'.push rfl) k1 eo)
    · rename_i c s eb
      unfold fnEnd at e
      cases eo : outs kp 0 rs s with
      | none => rw [eo] at e; cases e
      | some qs =>
        rw [eo] at e; cases e
        exact h _ _ B F H S1 _ _ eb _ fun d σ' B' H' e1 k1 S' => k d B' H' e1 (sim_outs (σ1 := []) S e1 S' k1 eo fun _ => trivial)
    · cases e
  · cases e

/-! ### calls -/
inductive Arg where
  | v (x : D) | o (i : Nat)
def ArgIs (T : Tab) (B : Hp) (σ : St) : Arg → V → Prop
  | .v x, v => Rep T B x v
  | .o i, v => σ[i]? = some (some v)
def ArgsAre (T : Tab) (B : Hp) (σ : St) : List Arg → List V → Prop := Paired (ArgIs T B σ)
theorem ArgsAre.mono (e : Ex B B') : ∀ {as : List Arg} {vs : List V}, ArgsAre T B σ as vs → ArgsAre T B' σ as vs
  | _, _, .nil => .nil
  | a :: _, _, .cons h t => .cons (by cases a with | v x => exact Rep.mono e x h | o i => exact h) (ArgsAre.mono e t)
def SemAA (T : Tab) (E : L2.St → XK) (ta : TA) (f : M (List Arg)) : Prop := ∀ st σ B F H, Sim T st σ B F H → ∀ o s, f st = some (o, s) → ∀ Q : List V → Hp → Prop, Okx T (E σ) o s σ B F (fun as B' H' => ∀ vs, ArgsAre T B' σ as vs → Q vs H') → ta σ H Q
def aNil : M (List Arg) := ret []
def aV (fa : M D) (fr : M (List Arg)) : M (List Arg) := bnd fa fun x => bnd fr fun xs => ret (.v x :: xs)
def aO (i : Nat) (fr : M (List Arg)) : M (List Arg) := fun st => match st[i]? with
  | some (some _) => bnd fr (fun xs => ret (.o i :: xs)) st
  | _ => none
theorem semAA_nil : SemAA T E tNil aNil := by
  intro st σ B F H S o s h Q hQ
  cases h
  exact hQ B H (Ex.refl B) S [] .nil
theorem semAA_v {te : TE} {ta : TA} {fa : M D} {fr : M (List Arg)} (ha : SemE T E te fa) (hr : SemAA T E ta fr) : SemAA T E (tCons te ta) (aV fa fr) := by
  intro st σ B F H S o s h Q hQ
  refine okx_bnd h hQ (fun o1 s1 e1 q => ha st σ B F H S o1 s1 e1 _ q) fun a s1 B1 H1 _ h2 e1 S1 hQ1 v hv => ?_
  refine okx_bnd h2 hQ1 (fun o1 s2 e2 q => hr s1 σ B1 F H1 S1 o1 s2 e2 _ q) fun b s2 B2 H2 _ h3 e2 S2 hQ2 us hus => ?_
  cases h3
  exact hQ2 B2 H2 (Ex.refl _) S2 (v :: us) (.cons (Rep.mono e2 a hv) hus)
theorem semAA_o {ta : TA} {i : Nat} {fr : M (List Arg)} (hr : SemAA T E ta fr) : SemAA T E (tCons (tVar i) ta) (aO i fr) := by
  intro st σ B F H S o s h Q hQ
  unfold aO at h
  split at h
  · rename_i r hi
    obtain ⟨v, hv, _⟩ := S.rel i r hi
    refine ⟨v, hv, ?_⟩
    refine okx_bnd h hQ (fun o1 s1 e1 q => hr st σ B F H S o1 s1 e1 _ q) fun a s1 B1 H1 _ h2 e1 S1 hQ1 us hus => ?_
    cases h2
    exact hQ1 B1 H1 (Ex.refl _) S1 (v :: us) (.cons hv hus)
  · cases h
/-- the arguments' contents, and back -/
def getA : List Arg → Sl → Option (List R)
  | [], _ => some []
  | .v x :: as, st => (getA as st).map (.d x :: ·)
  | .o i :: as, st => match st[i]?, getA as st with
    | some (some r), some rs => some (r :: rs)
    | _, _ => none
def putA : List Arg → List R → Sl → Sl
  | .o i :: as, r :: rs, st => putA as rs (st.set i (some r))
  | .v _ :: as, _ :: rs, st => putA as rs st
  | _, _, st => st
def owns : List Arg → List Nat
  | [] => []
  | .o i :: as => i :: owns as
  | .v _ :: as => owns as
theorem getA_get : ∀ {as : List Arg} {st : Sl} {rs : List R}, getA as st = some rs → rs.length = as.length ∧ ∀ (k : Nat) a, as[k]? = some a → match a with
    | .v x => rs[k]? = some (.d x)
    | .o i => ∃ r, rs[k]? = some r ∧ st[i]? = some (some r)
  | [], st, rs, h => by cases h; exact ⟨rfl, fun k a h => by simp at h⟩
  | .v x :: as, st, rs, h => by
    unfold getA at h
    cases e : getA as st with
    | none => rw [e] at h; cases h
    | some r =>
      rw [e] at h; cases h
      obtain ⟨l, g⟩ := getA_get e
      refine ⟨by simp [l], fun k a hk => ?_⟩
      cases k with
      | zero => simp at hk; subst hk; rfl
      | succ k => have := g k a (by simpa using hk); simpa using this
  | .o i :: as, st, rs, h => by
    unfold getA at h
    split at h
    · rename_i r rs' e1 e2
      cases h
      obtain ⟨l, g⟩ := getA_get e2
      refine ⟨by simp [l], fun k a hk => ?_⟩
      cases k with
      | zero => simp at hk; subst hk; exact ⟨r, rfl, e1⟩
      | succ k => have := g k a (by simpa using hk); simpa using this
    · cases h
theorem mem_owns : ∀ {as : List Arg} {i : Nat}, i ∈ owns as → ∃ k : Nat, as[k]? = some (Arg.o i)
  | [], i, h => by simp [owns] at h
  | .o j :: as, i, h => by
    rcases List.mem_cons.mp h with rfl | h
    · exact ⟨0, rfl⟩
    · obtain ⟨k, e⟩ := mem_owns h; exact ⟨k + 1, e⟩
  | .v x :: as, i, h => by obtain ⟨k, e⟩ := mem_owns (as := as) h; exact ⟨k + 1, e⟩
theorem owns_mem : ∀ {as : List Arg} {i k : Nat}, as[k]? = some (Arg.o i) → i ∈ owns as
  | [], i, k, h => by simp at h
  | .o j :: as, i, 0, h => by simp at h; subst h; exact List.mem_cons_self
  | .o j :: as, i, k + 1, h => List.mem_cons_of_mem _ (owns_mem (as := as) (k := k) (by simpa using h))
  | .v x :: as, i, 0, h => by simp at h
  | .v x :: as, i, k + 1, h => owns_mem (as := as) (k := k) (by simpa using h)
theorem putA_other : ∀ {as : List Arg} {rs : List R} {st : Sl} {i : Nat}, i ∉ owns as → (putA as rs st)[i]? = st[i]?
  | [], rs, st, i, h => by cases rs <;> rfl
  | .o j :: as, [], st, i, h => rfl
  | .v x :: as, [], st, i, h => rfl
  | .o j :: as, r :: rs, st, i, h => by
    simp only [owns, List.mem_cons, not_or] at h
    show (putA as rs (st.set j (some r)))[i]? = _
    rw [putA_other h.2, List.getElem?_set_ne (fun e => h.1 e.symm)]
  | .v x :: as, r :: rs, st, i, h => putA_other (as := as) h
theorem putA_length : ∀ {as : List Arg} {rs : List R} {st : Sl}, (putA as rs st).length = st.length
  | [], rs, st => by cases rs <;> rfl
  | .o j :: as, [], st => rfl
  | .v x :: as, [], st => rfl
  | .o j :: as, r :: rs, st => by show (putA as rs (st.set j (some r))).length = _; rw [putA_length, List.length_set]
  | .v x :: as, r :: rs, st => putA_length (as := as)
theorem putA_own : ∀ {as : List Arg} {rs : List R} {st : Sl} {i k : Nat} {q : R}, (owns as).Nodup → as[k]? = some (Arg.o i) → i < st.length → rs[k]? = some q → (putA as rs st)[i]? = some (some q)
  | [], rs, st, i, k, q, _, h, _, _ => by simp at h
  | _ :: as, [], st, i, k, q, _, _, _, h => by simp at h
  | .o j :: as, r :: rs, st, i, 0, q, n, h, l, g => by
    simp at h g; subst h; subst g
    show (putA as rs (st.set j (some r)))[j]? = _
    rw [putA_other (List.nodup_cons.mp n).1, List.getElem?_set_self l]
  | .o j :: as, r :: rs, st, i, k + 1, q, n, h, l, g => by
    show (putA as rs (st.set j (some r)))[i]? = _
    exact putA_own (k := k) (List.nodup_cons.mp n).2 (by simpa using h) (by simpa using l) (by simpa using g)
  | .v x :: as, r :: rs, st, i, 0, q, n, h, l, g => by simp at h
  | .v x :: as, r :: rs, st, i, k + 1, q, n, h, l, g => putA_own (as := as) (k := k) n (by simpa using h) l (by simpa using g)
def callF (f : Fn) (as : List Arg) : M R := fun st => match getA as st with
  | some rs => if (owns as).Nodup then (match f rs with
    | some (o, rs') => if rs'.length = rs.length then some (o, putA as rs' st) else none
    | none => none) else none
  | none => none
def rCall (n : Nat) (f : Fn) (ds : List D) (fa : M (List Arg)) : M R := bnd fa fun as => if as.length + ds.length = n then callF f (as ++ ds.map Arg.v) else fun _ => none
open Classical in
/-- what the caller's other names own -/
noncomputable def rest (st : Sl) (σ : St) (as : List Arg) (F H : Hp) : Hp := fun a => if (∃ (j : Nat) (r : R) (v : V), st[j]? = some (some r) ∧ σ[j]? = some (some v) ∧ Ow r v a ∧ j ∉ owns as) then H a else F a
theorem paired_get {α β : Type} {R : α → β → Prop} : ∀ {xs : List α} {ys : List β} {k : Nat}, Paired R xs ys → ∀ {a : α}, xs[k]? = some a → ∃ b, ys[k]? = some b ∧ R a b
  | _, _, _, .nil, _, h => by simp at h
  | _, _, 0, .cons r t, _, h => by simp at h; subst h; exact ⟨_, rfl, r⟩
  | _, _, k + 1, .cons r t, _, h => by obtain ⟨b, e, q⟩ := paired_get (k := k) t (by simpa using h); exact ⟨b, by simpa using e, q⟩
section
variable {as : List Arg} {vs : List V} {rs : List R}
theorem rest_hit (S : Sim T st σ B F H) {j : Nat} {r : R} {v : V} {a : Addr} (h1 : st[j]? = some (some r)) (h2 : σ[j]? = some (some v)) (h3 : Ow r v a) (h4 : j ∉ owns as) : rest st σ as F H a = H a := by
  unfold rest; rw [if_pos ⟨j, r, v, h1, h2, h3, h4⟩]
theorem rest_old (S : Sim T st σ B F H) {a : Addr} {o : HO} (h : F a = some o) : rest st σ as F H a = some o := by
  unfold rest
  rw [if_neg]
  · exact h
  · rintro ⟨j, r, v, h1, h2, h3, _⟩
    have := (S.own j r v a h1 h2 h3).2
    rw [h] at this; cases this
theorem sim_args (S : Sim T st σ B F H) (hv : ArgsAre T B σ as vs) (hg : getA as st = some rs) (nd : (owns as).Nodup) : Sim T (rs.map some) (vs.map some) B (rest st σ as F H) H := by
  obtain ⟨lr, gr⟩ := getA_get hg
  have lv := Paired.length hv
  have at_ : ∀ {k : Nat} {r : R}, (rs.map some)[k]? = some (some r) → ∃ a v, as[k]? = some a ∧ vs[k]? = some v ∧ ArgIs T B σ a v ∧ ((∃ x, a = .v x ∧ r = .d x) ∨ ∃ i, a = .o i ∧ st[i]? = some (some r)) := fun {k r} h => by
    rw [List.getElem?_map] at h
    cases e : rs[k]? with
    | none => rw [e] at h; cases h
    | some r' =>
      rw [e] at h; cases h
      have hk : k < as.length := by have := (List.getElem?_eq_some_iff.mp e).1; omega
      have ea : as[k]? = some as[k] := List.getElem?_eq_getElem hk
      generalize as[k] = a at ea
      obtain ⟨v, ev, iv⟩ := paired_get hv ea
      refine ⟨a, v, ea, ev, iv, ?_⟩
      have g := gr k a ea
      cases a with
      | v x => have g : rs[k]? = some (.d x) := g; rw [e] at g; cases g; exact .inl ⟨x, rfl, rfl⟩
      | o i => obtain ⟨r2, g1, g2⟩ := g; rw [e] at g1; cases g1; exact .inr ⟨i, rfl, g2⟩
  refine ⟨S.exB, fun a o h => ?_, fun a o h => ?_, S.tup, by simp [lr, lv], fun k r h => ?_, fun k r v a h1 h2 h3 => ?_, fun k l r q v u a n h1 h2 h3 h4 h5 h6 => ?_⟩
  · unfold rest at h
    split at h
    · exact h
    · exact S.exF a o h
  · unfold rest at h
    split at h
    · rename_i z
      obtain ⟨j, r, v, h1, h2, h3, _⟩ := z
      exact (S.own j r v a h1 h2 h3).1
    · exact S.dis a o h
  · obtain ⟨a, v, ea, ev, iv, hc⟩ := at_ h
    refine ⟨v, by rw [List.getElem?_map, ev]; rfl, ?_⟩
    rcases hc with ⟨x, rfl, rfl⟩ | ⟨i, rfl, hi⟩
    · exact iv
    · obtain ⟨v', h1, h2⟩ := S.rel i r hi
      have iv' : σ[i]? = some (some v) := iv
      rw [h1] at iv'; cases iv'
      exact h2
  · obtain ⟨a', v', ea, ev, iv, hc⟩ := at_ h1
    rw [List.getElem?_map, ev] at h2; cases h2
    rcases hc with ⟨x, rfl, rfl⟩ | ⟨i, rfl, hi⟩
    · exact h3.elim
    · have iv : σ[i]? = some (some v) := iv
      obtain ⟨z1, z2⟩ := S.own i r v a hi iv h3
      refine ⟨z1, ?_⟩
      unfold rest
      rw [if_neg]
      · exact z2
      · rintro ⟨j, q, u, g1, g2, g3, g4⟩
        have hne : i ≠ j := by rintro rfl; exact g4 (owns_mem ea)
        exact S.sep i j r q v u a hne hi iv g1 g2 h3 g3
  · obtain ⟨a1, v1, ea, ev, iv, hc⟩ := at_ h1
    obtain ⟨a2, v2, eb, ew, iw, hd⟩ := at_ h3
    rw [List.getElem?_map, ev] at h2; cases h2
    rw [List.getElem?_map, ew] at h4; cases h4
    rcases hc with ⟨x, rfl, rfl⟩ | ⟨i, rfl, hi⟩
    · exact h5.elim
    · rcases hd with ⟨x, rfl, rfl⟩ | ⟨j, rfl, hj⟩
      · exact h6.elim
      · have hne : i ≠ j := by
          rintro rfl
          have aux : ∀ {as : List Arg} {k l : Nat}, (owns as).Nodup → as[k]? = some (Arg.o i) → as[l]? = some (Arg.o i) → k = l := by
            intro as
            induction as with
            | nil => intro k l _ h; simp at h
            | cons b as ih =>
              intro k l nd h1 h2
              cases b with
              | v x =>
                cases k with
                | zero => simp at h1
                | succ k => cases l with
                  | zero => simp at h2
                  | succ l => exact congrArg Nat.succ (ih nd (by simpa using h1) (by simpa using h2))
              | o m =>
                have nd' := List.nodup_cons.mp (show (m :: owns as).Nodup from nd)
                cases k with
                | zero =>
                  simp at h1; subst h1
                  cases l with
                  | zero => rfl
                  | succ l => exact (nd'.1 (owns_mem (k := l) (by simpa using h2))).elim
                | succ k =>
                  cases l with
                  | zero => simp at h2; subst h2; exact (nd'.1 (owns_mem (k := k) (by simpa using h1))).elim
                  | succ l => exact congrArg Nat.succ (ih nd'.2 (by simpa using h1) (by simpa using h2))
          exact n (aux nd ea eb)
        exact S.sep i j r q v u a hne hi iv hj iw h5 h6
/-- behind the call -/
theorem sim_ret (S : Sim T st σ B F H) (hv : ArgsAre T B σ as vs) (hg : getA as st = some rs) (nd : (owns as).Nodup) {rs' : List R} (hl : rs'.length = rs.length) (e : Ex B B') (S' : Sim T (rs'.map some) (vs.map some) B' (rest st σ as F H) H') :
    Sim T (putA as rs' st) σ B' F H' ∧ (∀ a, rest st σ as F H a = none → F a = none) ∧
      ∀ {i : Nat} {r : R} {v : V} {a : Addr}, (putA as rs' st)[i]? = some (some r) → σ[i]? = some (some v) → Ow r v a → (∃ k : Nat, (rs'.map some)[k]? = some (some r) ∧ (vs.map some)[k]? = some (some v) ∧ as[k]? = some (Arg.o i)) ∨ (∃ o, rest st σ as F H a = some o) := by
  obtain ⟨lr, gr⟩ := getA_get hg
  have lv := Paired.length hv
  have at_ : ∀ {i : Nat} {r : R}, (putA as rs' st)[i]? = some (some r) → (∃ (k : Nat) (v : V), as[k]? = some (Arg.o i) ∧ rs'[k]? = some r ∧ vs[k]? = some v ∧ σ[i]? = some (some v)) ∨ (i ∉ owns as ∧ st[i]? = some (some r)) := fun {i r} h => by
    by_cases hm : i ∈ owns as
    · obtain ⟨k, ek⟩ := mem_owns hm
      obtain ⟨v, ev, iv⟩ := paired_get hv ek
      have hk : k < rs'.length := by have := (List.getElem?_eq_some_iff.mp ek).1; omega
      have er : rs'[k]? = some rs'[k] := List.getElem?_eq_getElem hk
      have hi : i < st.length := by have := (List.getElem?_eq_some_iff.mp h).1; rw [putA_length] at this; exact this
      rw [putA_own nd ek hi er] at h
      cases h
      exact .inl ⟨k, v, ek, er, ev, iv⟩
    · rw [putA_other hm] at h
      exact .inr ⟨hm, h⟩
  have rn : ∀ a, rest st σ as F H a = none → F a = none := fun a h => by
    cases q : F a with
    | none => rfl
    | some o => rw [rest_old S q] at h; cases h
  have hit : ∀ {i : Nat} {r : R} {v : V} {a : Addr}, i ∉ owns as → st[i]? = some (some r) → σ[i]? = some (some v) → Ow r v a → ∃ o, rest st σ as F H a = some o := fun {i r v a} h1 h2 h3 h4 => by
    rw [rest_hit S h2 h3 h4 h1]
    obtain ⟨v', h5, h6⟩ := S.rel i r h2
    rw [h3] at h5; cases h5
    exact (h6.ow h4).2.1
  refine ⟨⟨S'.exB, fun a o h => S'.exF a o (rest_old S h), fun a o h => S'.dis a o (rest_old S h), S'.tup, by rw [putA_length]; exact S.len, fun i r h => ?_, fun i r v a h1 h2 h3 => ?_, fun i j r q v u a n h1 h2 h3 h4 h5 h6 => ?_⟩, rn, fun {i r v a} h1 h2 h3 => ?_⟩
  · rcases at_ h with ⟨k, v, ek, er, ev, es⟩ | ⟨hm, hs⟩
    · obtain ⟨v', h1, h2⟩ := S'.rel k r (by rw [List.getElem?_map, er]; rfl)
      rw [List.getElem?_map, ev] at h1; cases h1
      exact ⟨v, es, h2⟩
    · obtain ⟨v, h1, h2⟩ := S.rel i r hs
      refine ⟨v, h1, h2.keep e fun a o ho hh => ?_⟩
      exact S'.exF a o (by rw [rest_hit S hs h1 ho hm]; exact hh)
  · rcases at_ h1 with ⟨k, v', ek, er, ev, es⟩ | ⟨hm, hs⟩
    · rw [h2] at es; cases es
      obtain ⟨z1, z2⟩ := S'.own k r v a (by rw [List.getElem?_map, er]; rfl) (by rw [List.getElem?_map, ev]; rfl) h3
      exact ⟨z1, rn a z2⟩
    · obtain ⟨o, ho⟩ := hit hm hs h2 h3
      exact ⟨S'.dis a o ho, (S.own i r v a hs h2 h3).2⟩
  · rcases at_ h1 with ⟨k, v', ek, er, ev, es⟩ | ⟨hm, hs⟩
    · rw [h2] at es; cases es
      rcases at_ h3 with ⟨l, u', el, eq, eu, et⟩ | ⟨hm', hs'⟩
      · rw [h4] at et; cases et
        have hkl : k ≠ l := by rintro rfl; rw [ek] at el; cases el; exact n rfl
        exact S'.sep k l r q v u a hkl (by rw [List.getElem?_map, er]; rfl) (by rw [List.getElem?_map, ev]; rfl) (by rw [List.getElem?_map, eq]; rfl) (by rw [List.getElem?_map, eu]; rfl) h5 h6
      · obtain ⟨o, ho⟩ := hit hm' hs' h4 h6
        have := (S'.own k r v a (by rw [List.getElem?_map, er]; rfl) (by rw [List.getElem?_map, ev]; rfl) h5).2
        rw [ho] at this; cases this
    · rcases at_ h3 with ⟨l, u', el, eq, eu, et⟩ | ⟨hm', hs'⟩
      · rw [h4] at et; cases et
        obtain ⟨o, ho⟩ := hit hm hs h2 h5
        have := (S'.own l q u a (by rw [List.getElem?_map, eq]; rfl) (by rw [List.getElem?_map, eu]; rfl) h6).2
        rw [ho] at this; cases this
      · exact S.sep i j r q v u a n hs h2 hs' h4 h5 h6
  · rcases at_ h1 with ⟨k, v', ek, er, ev, es⟩ | ⟨hm, hs⟩
    · rw [h2] at es; cases es
      exact .inl ⟨k, by rw [List.getElem?_map, er]; rfl, by rw [List.getElem?_map, ev]; rfl, ek⟩
    · exact .inr (hit hm hs h2 h3)
theorem okx_call {E : XK} (S : Sim T st σ B F H) (hv : ArgsAre T B σ as vs) {f : Fn} {o : Oc R} {s : Sl} (h : callF f as st = some (o, s)) {Q : VK} (hQ : Okr T E o s σ B F (fun v _ H' => Q v H')) : sp T vs.length f vs H Q E := by
  unfold callF at h
  split at h
  · rename_i rs hg
    split at h
    · rename_i nd
      split at h
      · rename_i o' rs' hf
        split at h
        · rename_i hl
          cases h
          refine ⟨rfl, rs, B, _, _, rs', sim_args S hv hg nd, hf, ?_⟩
          cases o with
          | v r =>
            intro v B' H' e S'
            obtain ⟨P, rn, who⟩ := sim_ret S hv hg nd hl e S'.pop
            refine hQ v B' H' e ⟨P.exB, P.exF, P.dis, P.tup, by have := P.len; simpa using this, fun i q hi => ?_, fun i q u a h1 h2 h3 => ?_, fun i j q p u w a n h1 h2 h3 h4 h5 h6 => ?_⟩
            · cases i with
              | zero => cases hi; exact ⟨v, rfl, S'.top⟩
              | succ i => obtain ⟨u, a, b⟩ := P.rel i q (by simpa using hi); exact ⟨u, by simpa using a, b⟩
            · cases i with
              | zero => cases h1; cases h2; obtain ⟨z1, z2⟩ := S'.own 0 r v a rfl rfl h3; exact ⟨z1, rn a z2⟩
              | succ i => exact P.own i q u a (by simpa using h1) (by simpa using h2) h3
            · have cross : ∀ {j : Nat} {q : R} {u : V}, (putA as rs' st)[j]? = some (some q) → σ[j]? = some (some u) → Ow r v a → Ow q u a → False := fun {j q u} g1 g2 g3 g4 => by
                rcases who g1 g2 g4 with ⟨k, y1, y2, _⟩ | ⟨o, ho⟩
                · exact S'.sep 0 (k + 1) r q v u a (by omega) rfl rfl (by simpa using y1) (by simpa using y2) g3 g4
                · have := (S'.own 0 r v a rfl rfl g3).2
                  rw [ho] at this; cases this
              cases i with
              | zero =>
                cases h1; cases h2
                cases j with
                | zero => exact n rfl
                | succ j => exact cross (by simpa using h3) (by simpa using h4) h5 h6
              | succ i =>
                cases j with
                | zero => cases h3; cases h4; exact cross (by simpa using h1) (by simpa using h2) h6 h5
                | succ j => exact P.sep i j q p u w a (by omega) (by simpa using h1) (by simpa using h2) (by simpa using h3) (by simpa using h4) h5 h6
          | x c =>
            intro d B' H' e S'
            exact hQ d B' H' e (sim_ret S hv hg nd hl e S').1
        · cases h
      · cases h
    · cases h
  · cases h
end
theorem args_app {as bs : List Arg} {vs ws : List V} (h : ArgsAre T B σ as vs) (g : ArgsAre T B σ bs ws) : ArgsAre T B σ (as ++ bs) (vs ++ ws) := by
  induction h with
  | nil => exact g
  | cons r _ ih => exact .cons r ih
theorem args_ds : ∀ {ds : List D} {ws : List V}, Reps T B ds ws → ArgsAre T B σ (ds.map Arg.v) ws
  | [], ws, h => by unfold Reps at h; subst h; exact .nil
  | d :: ds, ws, h => by
    unfold Reps at h
    obtain ⟨v, r, rfl, h1, h2⟩ := h
    exact .cons h1 (args_ds h2)
theorem semR_call {n : Nat} {f : Fn} {fa : M (List Arg)} {ta : TA} {ds : List D} {dvs : List V} (hd : ∀ B, Reps T B ds dvs) (ha : SemAA T E ta fa) : SemR T E (tCallSD (sp T n f) dvs E ta) (rCall n f ds fa) := by
  intro st σ B F H S o s h Q hQ
  rcases bnd_some h with ⟨c, e1, rfl⟩ | ⟨as, s1, e1, e2⟩
  · exact ha st σ B F H S _ _ e1 _ hQ
  · refine ha st σ B F H S _ _ e1 _ fun B1 H1 x1 S1 vs hvs => ?_
    have hQ1 : Okr T (E σ) o s σ B1 F (fun v _ H' => Q v H') := by
      cases o with
      | v r => exact fun v B2 H2 x2 S2 => hQ v B2 H2 (x1.trans x2) S2
      | x c => exact fun d B2 H2 x2 S2 => hQ d B2 H2 (x1.trans x2) S2
    split at e2
    · rename_i hn
      have hA := args_app hvs (args_ds (σ := σ) (hd B1))
      have h2 := okx_call S1 hA e2 hQ1
      have l := Paired.length hA
      rw [List.length_append, List.length_map, hn] at l
      rw [← l] at h2
      exact h2
    · cases e2
end
end Fz

-- text Fz6
set_option Elab.async false
set_option linter.all false
set_option maxRecDepth 100000
set_option maxHeartbeats 2000000
namespace Fz
open PySem L2
/-! ### data as the library's data -/
mutual
def py : D → PyData
  | .non => .none
  | .bl b => .bool b
  | .int i => .int i
  | .str s => .str s
  | .tup ds => .tuple (pys ds)
  | .lst ds => .list (pys ds)
  | .obj _ _ => .none
  | .dct _ _ => .none
def pys : List D → List PyData
  | [] => []
  | d :: ds => py d :: pys ds
end
mutual
/-- no object, no dict within -/
def plain : D → Bool
  | .tup ds => plains ds
  | .lst ds => plains ds
  | .obj _ _ => false
  | .dct _ _ => false
  | _ => true
def plains : List D → Bool
  | [] => true
  | d :: ds => plain d && plains ds
end
theorem pys_map : ∀ ds : List D, pys ds = ds.map py
  | [] => rfl
  | d :: ds => by unfold pys; rw [pys_map ds]; rfl
theorem pys_length (ds : List D) : (pys ds).length = ds.length := by rw [pys_map, List.length_map]
section
variable {T : Tab} {B H : Hp}
mutual
theorem dp_of (e : Ex B H) : ∀ (d : D) {v : V}, plain d = true → Rep T B d v → Dp T.K H v (py d)
  | .non, v, _, h => by cases (show v = .non from h); exact .non
  | .bl b, v, _, h => by cases (show v = .bl b from h); exact .bl b
  | .int i, v, _, h => by cases (show v = .int i from h); exact .int i
  | .str s, v, _, h => by obtain ⟨rfl, _⟩ := (show v = .str s ∧ _ from h); exact .str s
  | .tup ds, v, p, h => by
    unfold Rep at h
    unfold plain at p
    obtain ⟨a, xs, rfl, h2, h3⟩ := h
    exact .tup (e.tu h2).sq (dps_of e ds p h3)
  | .lst ds, v, p, h => by
    unfold Rep at h
    unfold plain at p
    obtain ⟨a, xs, rfl, h2, h3⟩ := h
    exact .lst (e.sqL h2) (dps_of e ds p h3)
  | .obj _ _, v, p, h => by simp [plain] at p
  | .dct _ _, v, p, h => by simp [plain] at p
theorem dps_of (e : Ex B H) : ∀ (ds : List D) {vs : List V}, plains ds = true → Reps T B ds vs → DpAll T.K H vs (pys ds)
  | [], vs, _, h => by unfold Reps at h; subst h; exact .nil
  | d :: ds, vs, p, h => by
    unfold Reps at h
    unfold plains at p
    obtain ⟨v, r, rfl, h2, h3⟩ := h
    have p' := (Bool.and_eq_true _ _).mp p
    exact .cons (dp_of e d p'.1 h2) (dps_of e ds p'.2 h3)
end
mutual
theorem lay_of : ∀ (d : D) {v : V}, plain d = true → Rep T B d v → (py d).canLay0 = true
  | .non, v, _, h => rfl
  | .bl b, v, _, h => rfl
  | .int i, v, _, h => rfl
  | .str s, v, _, h => by obtain ⟨_, h⟩ := (show v = .str s ∧ _ from h); simpa [py, PyData.canLay0] using h
  | .tup ds, v, p, h => by
    unfold Rep at h
    unfold plain at p
    obtain ⟨a, xs, rfl, h2, h3⟩ := h
    simp only [py, PyData.canLay0]
    exact lays_of ds p h3
  | .lst ds, v, p, h => by
    unfold Rep at h
    unfold plain at p
    obtain ⟨a, xs, rfl, h2, h3⟩ := h
    simp only [py, PyData.canLay0]
    exact lays_of ds p h3
  | .obj _ _, v, p, h => by simp [plain] at p
  | .dct _ _, v, p, h => by simp [plain] at p
theorem lays_of : ∀ (ds : List D) {vs : List V}, plains ds = true → Reps T B ds vs → PyData.canLayAll0 (pys ds) = true
  | [], vs, _, h => rfl
  | d :: ds, vs, p, h => by
    unfold Reps at h
    unfold plains at p
    obtain ⟨v, r, rfl, h2, h3⟩ := h
    have p' := (Bool.and_eq_true _ _).mp p
    simp only [pys, PyData.canLayAll0, Bool.and_eq_true]
    exact ⟨lay_of d p'.1 h2, lays_of ds p'.2 h3⟩
end
end
mutual
def dep : D → Nat
  | .tup ds => deps ds + 1
  | .lst ds => deps ds + 1
  | _ => 0
def deps : List D → Nat
  | [] => 0
  | d :: ds => max (dep d) (deps ds)
end
mutual
theorem dep_eq : ∀ d : D, (py d).depth = dep d
  | .non => by simp [py, dep, PyData.depth]
  | .bl _ => by simp [py, dep, PyData.depth]
  | .int _ => by simp [py, dep, PyData.depth]
  | .str _ => by simp [py, dep, PyData.depth]
  | .tup ds => by simp only [py, dep, PyData.depth]; rw [deps_eq ds]
  | .lst ds => by simp only [py, dep, PyData.depth]; rw [deps_eq ds]
  | .obj _ _ => by simp [py, dep, PyData.depth]
  | .dct _ _ => by simp [py, dep, PyData.depth]
theorem deps_eq : ∀ ds : List D, PyData.depthAll (pys ds) = deps ds
  | [] => by simp [pys, deps, PyData.depthAll]
  | d :: ds => by simp only [pys, deps, PyData.depthAll]; rw [dep_eq d, deps_eq ds]
end
/-- may be compared -/
def cok (d : D) : Bool := plain d && decide (dep d ≤ 64)
theorem cok_shaped {T : Tab} {B : Hp} {d : D} {v : V} (h : cok d = true) (r : Rep T B d v) : SeqAt.shaped (py d) = true := by
  have h' := (Bool.and_eq_true _ _).mp h
  show ((py d).canLay0 && decide ((py d).depth ≤ 64)) = true
  rw [Bool.and_eq_true]
  exact ⟨lay_of d h'.1 r, by rw [dep_eq]; exact h'.2⟩
theorem cok_plain {d : D} (h : cok d = true) : plain d = true := ((Bool.and_eq_true _ _).mp h).1
def same (x y : D) : Bool := PyData.eqv (py x) (py y)

/-! ### operators -/
def CMulB (i j : Int) : Prop := (-(2 ^ 64) < i ∧ i < 2 ^ 64) ∨ (-(2 ^ 64) < j ∧ j < 2 ^ 64)
instance (i j : Int) : Decidable (CMulB i j) := by unfold CMulB; infer_instance
def dAdd : D → D → Option D
  | .int i, .int j => some (.int (i + j))
  | .str a, .str b => if a.length + b.length ≤ sizeLine then some (.str (a ++ b)) else none
  | .tup xs, .tup ys => if xs.length + ys.length ≤ sizeLine then some (.tup (xs ++ ys)) else none
  | _, _ => none
def dSub : D → D → Option D
  | .int i, .int j => some (.int (i - j))
  | _, _ => none
def dMul : D → D → Option D
  | .int i, .int j => if CMulB i j then some (.int (i * j)) else none
  | _, _ => none
def dMod : D → D → Option D
  | .int i, .int j => if 0 < j then some (.int (i % j)) else none
  | _, _ => none
def dDiv : D → D → Option D
  | .int i, .int j => if 0 < j ∧ j < 1073741824 then some (.int (i / j)) else none
  | _, _ => none
def dEq (x y : D) : Option D := if cok x && cok y then some (.bl (same x y)) else none
def dNe (x y : D) : Option D := if cok x && cok y then some (.bl (!same x y)) else none
def dLt : D → D → Option D
  | .int i, .int j => some (.bl (decide (i < j)))
  | .str a, .str b => some (.bl (decide (a.cps.toList < b.cps.toList)))
  | _, _ => none
def dGt : D → D → Option D
  | .int i, .int j => some (.bl (decide (j < i)))
  | .str a, .str b => some (.bl (decide (b.cps.toList < a.cps.toList)))
  | _, _ => none
def dLe : D → D → Option D
  | .int i, .int j => some (.bl (decide (i ≤ j)))
  | .str a, .str b => some (.bl (!decide (b.cps.toList < a.cps.toList)))
  | _, _ => none
def dGe : D → D → Option D
  | .int i, .int j => some (.bl (decide (j ≤ i)))
  | .str a, .str b => some (.bl (!decide (a.cps.toList < b.cps.toList)))
  | _, _ => none
def flat : D → Bool
  | .non => true | .bl _ => true | .int _ => true | .str _ => true
  | _ => false
/-- one sign in a text, a thing in a list, a flat thing in a tuple of flat ones -/
def dInB : D → D → Option Bool
  | .str a, .str b => match a.cps.toList with
    | [c] => some (decide (c ∈ b.cps.toList))
    | _ => none
  | x, .lst ys => if cok x && cok (.lst ys) then some (ys.any fun z => same z x) else none
  | x, .tup ys => if flat x && ys.all flat then some (ys.any fun z => same z x) else none
  | _, _ => none
def dIn (x y : D) : Option D := (dInB x y).map .bl
def dNotIn (x y : D) : Option D := (dInB x y).map fun b => .bl !b
def dIsB (b : Bool) : D → Option D
  | .bl c => some (.bl (decide (c = b)))
  | .non => some (.bl false)
  | _ => none

theorem strOk_app {a b : Str} (h : PyData.strOk a = true) (g : PyData.strOk b = true) : PyData.strOk (a ++ b) = true := by
  unfold PyData.strOk at *
  have e : (a ++ b).cps = a.cps ++ b.cps := rfl
  rw [e, Array.all_append, h, g]; rfl
theorem strOk_mem {a : Str} : PyData.strOk a = true ↔ ∀ c ∈ a.cps.toList, c < 0x110000 := by
  unfold PyData.strOk
  rw [← Array.all_toList, List.all_eq_true]
  simp
section
variable {T : Tab} {X : Cx}
/-- a value of its own -/
def sc : D → Option V
  | .non => some .non
  | .bl b => some (.bl b)
  | .int i => some (.int i)
  | _ => none
theorem rep_int {B : Hp} {i : Int} {v : V} (h : Rep T B (.int i) v) : v = .int i := h
theorem rep_bl {B : Hp} {i : Bool} {v : V} (h : Rep T B (.bl i) v) : v = .bl i := h
theorem rep_non {B : Hp} {v : V} (h : Rep T B .non v) : v = .non := h
theorem rep_str {B : Hp} {i : Str} {v : V} (h : Rep T B (.str i) v) : v = .str i ∧ PyData.strOk i = true := h
def rAddA (K : PySem.W.Frag) : R2 := fun x y H Q => (∃ i j, x = .int i ∧ y = .int j ∧ Q (.int (i + j)) H) ∨ ((∃ i j, x = .str i ∧ y = .str j ∧ i.length + j.length ≤ sizeLine ∧ Q (.str (i ++ j)) H) ∨ rCatA K x y H Q)
theorem op_addA : OpR X (binaryOp .Add) (rAddA X.K) := op_add.or (op_add_str.or op_catA)
theorem p_add : Prim2 T (rAddA T.K) dAdd := by
  intro x y z vx vy B H Q e hx hy hz k
  unfold dAdd at hz
  split at hz
  · cases hz; cases rep_int hx; cases rep_int hy
    exact .inl ⟨_, _, rfl, rfl, k _ B H (.refl e) rfl⟩
  · split at hz
    · rename_i hl
      cases hz
      obtain ⟨rfl, s1⟩ := rep_str hx
      obtain ⟨rfl, s2⟩ := rep_str hy
      exact .inr (.inl ⟨_, _, rfl, rfl, hl, k _ B H (.refl e) ⟨rfl, strOk_app s1 s2⟩⟩)
    · cases hz
  · rename_i xs ys
    split at hz
    · rename_i hl
      cases hz
      unfold Rep at hx hy
      obtain ⟨a, us, rfl, t1, r1⟩ := hx
      obtain ⟨b, ws, rfl, t2, r2⟩ := hy
      refine .inr (.inr ⟨a, b, us, ws, rfl, rfl, (e.tu t1).sq, (e.tu t2).sq, by rw [← r1.length, ← r2.length]; exact hl, ?_⟩)
      have whole1 : ws = [] → Rep T B (.tup (xs ++ ys)) (.ref a) := fun h => by
        subst h
        have : ys = [] := List.eq_nil_of_length_eq_zero (by rw [r2.length]; rfl)
        subst this
        rw [List.append_nil]; unfold Rep; exact ⟨a, us, rfl, t1, r1⟩
      have whole2 : us = [] → Rep T B (.tup (xs ++ ys)) (.ref b) := fun h => by
        subst h
        have : xs = [] := List.eq_nil_of_length_eq_zero (by rw [r1.length]; rfl)
        subst this
        rw [List.nil_append]; unfold Rep; exact ⟨b, ws, rfl, t2, r2⟩
      refine ⟨fun h => ?_, fun _ h => ?_, fun _ _ p hp => ?_⟩
      · exact k _ B H (.refl e) (whole2 h)
      · exact k _ B H (.refl e) (whole1 h)
      · have w := Ext.newT (o := .tup (us ++ ws)) e hp
        exact k _ _ _ w (rep_tup upd_same (Reps.mono w.b _ (r1.append r2)))
    · cases hz
  · cases hz
end
end Fz

-- text Fz7
set_option Elab.async false
set_option linter.all false
set_option maxRecDepth 100000
set_option maxHeartbeats 2000000
namespace Fz
open PySem L2
section
variable {T : Tab} {X : Cx}
/-! ### operators, shown -/
theorem p_sub : Prim2 T (rI0 fun i j => .int (i - j)) dSub := by
  intro x y z vx vy B H Q e hx hy hz k
  unfold dSub at hz
  split at hz
  · cases hz; cases rep_int hx; cases rep_int hy
    exact ⟨_, _, rfl, rfl, k _ B H (.refl e) rfl⟩
  · cases hz
theorem p_mul : Prim2 T (rI CMul fun i j => .int (i * j)) dMul := by
  intro x y z vx vy B H Q e hx hy hz k
  unfold dMul at hz
  split at hz
  · split at hz
    · rename_i hc
      cases hz; cases rep_int hx; cases rep_int hy
      exact ⟨_, _, rfl, rfl, hc, k _ B H (.refl e) rfl⟩
    · cases hz
  · cases hz
theorem p_mod : Prim2 T (rI (fun _ j => 0 < j) fun i j => .int (i % j)) dMod := by
  intro x y z vx vy B H Q e hx hy hz k
  unfold dMod at hz
  split at hz
  · split at hz
    · rename_i hc
      cases hz; cases rep_int hx; cases rep_int hy
      exact ⟨_, _, rfl, rfl, hc, k _ B H (.refl e) rfl⟩
    · cases hz
  · cases hz
theorem p_div : Prim2 T (rI CDiv fun i j => .int (i / j)) dDiv := by
  intro x y z vx vy B H Q e hx hy hz k
  unfold dDiv at hz
  split at hz
  · split at hz
    · rename_i hc
      cases hz; cases rep_int hx; cases rep_int hy
      exact ⟨_, _, rfl, rfl, hc, k _ B H (.refl e) rfl⟩
    · cases hz
  · cases hz
theorem p_eq : Prim2 T (rEqD T.K) dEq := by
  intro x y z vx vy B H Q e hx hy hz k
  unfold dEq at hz
  split at hz
  · rename_i hc
    have hc' := (Bool.and_eq_true _ _).mp hc
    cases hz
    exact ⟨py x, py y, dp_of e x (cok_plain hc'.1) hx, dp_of e y (cok_plain hc'.2) hy, cok_shaped hc'.1 hx, cok_shaped hc'.2 hy, k _ B H (.refl e) rfl⟩
  · cases hz
theorem p_ne : Prim2 T (rNeD T.K) dNe := by
  intro x y z vx vy B H Q e hx hy hz k
  unfold dNe at hz
  split at hz
  · rename_i hc
    have hc' := (Bool.and_eq_true _ _).mp hc
    cases hz
    exact ⟨py x, py y, dp_of e x (cok_plain hc'.1) hx, dp_of e y (cok_plain hc'.2) hy, cok_shaped hc'.1 hx, cok_shaped hc'.2 hy, k _ B H (.refl e) rfl⟩
  · cases hz
def rCmp (p : Int → Int → Bool) (q : Str → Str → Bool) : R2 := fun x y H Q => (∃ i j, x = .int i ∧ y = .int j ∧ Q (.bl (p i j)) H) ∨ ∃ i j, x = .str i ∧ y = .str j ∧ Q (.bl (q i j)) H
theorem op_ltA : OpR X (compareOp .Lt) (rCmp (fun i j => decide (i < j)) fun a b => decide (a.cps.toList < b.cps.toList)) := op_lt.or op_lt_str
theorem op_gtA : OpR X (compareOp .Gt) (rCmp (fun i j => decide (j < i)) fun a b => decide (b.cps.toList < a.cps.toList)) := op_gt.or op_gt_str
theorem op_leA : OpR X (compareOp .LtE) (rCmp (fun i j => decide (i ≤ j)) fun a b => !decide (b.cps.toList < a.cps.toList)) := op_le.or op_le_str
theorem op_geA : OpR X (compareOp .GtE) (rCmp (fun i j => decide (j ≤ i)) fun a b => !decide (a.cps.toList < b.cps.toList)) := op_ge.or op_ge_str
theorem p_cmp {p : Int → Int → Bool} {q : Str → Str → Bool} {g : D → D → Option D} (h1 : ∀ i j, g (.int i) (.int j) = some (.bl (p i j))) (h2 : ∀ a b, g (.str a) (.str b) = some (.bl (q a b))) (h3 : ∀ x y z, g x y = some z → (∃ i j, x = .int i ∧ y = .int j) ∨ ∃ a b, x = .str a ∧ y = .str b) : Prim2 T (rCmp p q) g := by
  intro x y z vx vy B H Q e hx hy hz k
  rcases h3 x y z hz with ⟨i, j, rfl, rfl⟩ | ⟨a, b, rfl, rfl⟩
  · rw [h1] at hz; cases hz; cases rep_int hx; cases rep_int hy
    exact .inl ⟨_, _, rfl, rfl, k _ B H (.refl e) rfl⟩
  · rw [h2] at hz; cases hz
    obtain ⟨rfl, _⟩ := rep_str hx
    obtain ⟨rfl, _⟩ := rep_str hy
    exact .inr ⟨_, _, rfl, rfl, k _ B H (.refl e) rfl⟩
theorem p_lt : Prim2 T (rCmp (fun i j => decide (i < j)) fun a b => decide (a.cps.toList < b.cps.toList)) dLt := p_cmp (fun _ _ => rfl) (fun _ _ => rfl) fun x y z h => by
  unfold dLt at h
  split at h
  · exact .inl ⟨_, _, rfl, rfl⟩
  · exact .inr ⟨_, _, rfl, rfl⟩
  · cases h
theorem p_gt : Prim2 T (rCmp (fun i j => decide (j < i)) fun a b => decide (b.cps.toList < a.cps.toList)) dGt := p_cmp (fun _ _ => rfl) (fun _ _ => rfl) fun x y z h => by
  unfold dGt at h
  split at h
  · exact .inl ⟨_, _, rfl, rfl⟩
  · exact .inr ⟨_, _, rfl, rfl⟩
  · cases h
theorem p_le : Prim2 T (rCmp (fun i j => decide (i ≤ j)) fun a b => !decide (b.cps.toList < a.cps.toList)) dLe := p_cmp (fun _ _ => rfl) (fun _ _ => rfl) fun x y z h => by
  unfold dLe at h
  split at h
  · exact .inl ⟨_, _, rfl, rfl⟩
  · exact .inr ⟨_, _, rfl, rfl⟩
  · cases h
theorem p_ge : Prim2 T (rCmp (fun i j => decide (j ≤ i)) fun a b => !decide (a.cps.toList < b.cps.toList)) dGe := p_cmp (fun _ _ => rfl) (fun _ _ => rfl) fun x y z h => by
  unfold dGe at h
  split at h
  · exact .inl ⟨_, _, rfl, rfl⟩
  · exact .inr ⟨_, _, rfl, rfl⟩
  · cases h
/-! ### in -/
def fv : D → V
  | .non => .non
  | .bl b => .bl b
  | .int i => .int i
  | .str s => .str s
  | _ => .non
theorem flat_v {B : Hp} {d : D} {v : V} (h : flat d = true) (r : Rep T B d v) : v = fv d := by
  cases d with
  | non => exact r
  | bl b => exact r
  | int i => exact r
  | str s => exact (rep_str r).1
  | _ => cases h
theorem flatV_fv {d : D} (h : flat d = true) : flatV (fv d) = true := by cases d <;> first | rfl | cases h
theorem flats_v {B : Hp} : ∀ {ds : List D} {vs : List V}, ds.all flat = true → Reps T B ds vs → vs = ds.map fv
  | [], vs, _, r => by unfold Reps at r; exact r
  | d :: ds, vs, h, r => by
    unfold Reps at r
    obtain ⟨v, us, rfl, r1, r2⟩ := r
    simp only [List.all_cons, Bool.and_eq_true] at h
    rw [flat_v h.1 r1, flats_v h.2 r2]; rfl
theorem eqV_same {x y : D} (hx : flat x = true) (hy : flat y = true) : eqV (fv y) (fv x) = same y x := by
  cases x <;> first | (cases hx; done) | skip
  all_goals (cases y <;> first | (cases hy; done) | skip)
  all_goals first | rfl | (simp [fv, eqV, same, py, PyData.eqv]; done) | skip
  all_goals (simp only [fv, eqV, same, py, PyData.eqv]; try rfl)
end
end Fz

-- text Fz8
set_option Elab.async false
set_option linter.all false
set_option maxRecDepth 100000
set_option maxHeartbeats 2000000
namespace Fz
open PySem L2
section
variable {T : Tab} {X : Cx}
def rInA (K : PySem.W.Frag) (neg : Bool) : R2 := fun x y H Q =>
  (∃ (c : Nat) (z : Str), x = .str ⟨#[c]⟩ ∧ y = .str z ∧ Q (.bl (if neg then !decide (c ∈ z.cps.toList) else decide (c ∈ z.cps.toList))) H) ∨
  ((∃ d ds, Dp K H x d ∧ Dp K H y (.list ds) ∧ SeqAt.shaped d = true ∧ SeqAt.shaped (.list ds) = true ∧ Q (.bl (if neg then !(ds.any fun z => PyData.eqv z d) else ds.any fun z => PyData.eqv z d)) H) ∨ rIn K neg x y H Q)
theorem op_inA (hu : X.A.units + 65 < cLine) : OpR X (compareOp .In) (rInA X.K false) := by
  intro pins s σ H x y v u Q I rx ry h
  rcases h with h | h | h
  · exact op_in_sign pins s σ H x y v u Q I rx ry h
  · exact op_inD hu pins s σ H x y v u Q I rx ry h
  · exact op_in_seq pins s σ H x y v u Q I rx ry h
theorem op_notInA (hu : X.A.units + 65 < cLine) : OpR X (compareOp .NotIn) (rInA X.K true) := by
  intro pins s σ H x y v u Q I rx ry h
  rcases h with h | h | h
  · exact op_notIn_sign pins s σ H x y v u Q I rx ry h
  · exact op_notInD hu pins s σ H x y v u Q I rx ry h
  · exact op_notIn_seq pins s σ H x y v u Q I rx ry h
theorem any_same {x : D} : ∀ ys : List D, (pys ys).any (fun z => PyData.eqv z (py x)) = ys.any fun z => same z x
  | [] => rfl
  | y :: ys => by unfold pys; rw [List.any_cons, List.any_cons, any_same ys]; rfl
theorem inV_same {x : D} (hx : flat x = true) : ∀ ys : List D, ys.all flat = true → inV (fv x) (ys.map fv) = ys.any fun z => same z x
  | [], _ => rfl
  | y :: ys, h => by
    simp only [List.all_cons, Bool.and_eq_true] at h
    have ih := inV_same hx ys h.2
    unfold inV at ih ⊢
    rw [List.map_cons, List.any_cons, List.any_cons, ih, eqV_same hx h.1]
theorem flats_fv {ys : List D} (h : ys.all flat = true) : (ys.map fv).all flatV = true := by
  rw [List.all_map]
  rw [List.all_eq_true] at h ⊢
  intro d hd
  exact flatV_fv (h d hd)
theorem p_inG (neg : Bool) : Prim2 T (rInA T.K neg) (fun x y => (dInB x y).map fun b => .bl (if neg then !b else b)) := by
  intro x y z vx vy B H Q e hx hy hz k
  dsimp only at hz
  cases hb : dInB x y with
  | none => rw [hb] at hz; cases hz
  | some b =>
    rw [hb] at hz; cases hz
    unfold dInB at hb
    split at hb
    · rename_i a b'
      split at hb
      · rename_i c hc
        cases hb
        obtain ⟨rfl, _⟩ := rep_str hx
        obtain ⟨rfl, _⟩ := rep_str hy
        refine .inl ⟨c, b', ?_, rfl, k _ B H (.refl e) rfl⟩
        congr 1
        exact Str.ext' (Array.toList_inj.mp (by rw [hc]))
      · cases hb
    · rename_i ys
      split at hb
      · rename_i hc
        cases hb
        have hc' := (Bool.and_eq_true _ _).mp hc
        refine .inr (.inl ⟨py x, pys ys, dp_of e x (cok_plain hc'.1) hx, ?_, cok_shaped hc'.1 hx, ?_, ?_⟩)
        · have := dp_of e (.lst ys) (cok_plain hc'.2) hy
          simpa only [py] using this
        · have := cok_shaped hc'.2 hy
          simpa only [py] using this
        · rw [any_same]; exact k _ B H (.refl e) rfl
      · cases hb
    · rename_i ys _
      split at hb
      · rename_i hc
        cases hb
        have hc' := (Bool.and_eq_true _ _).mp hc
        unfold Rep at hy
        obtain ⟨a, us, rfl, t1, r1⟩ := hy
        cases flats_v hc'.2 r1
        cases flat_v hc'.1 hx
        refine .inr (.inr ⟨a, _, rfl, .inr (e.tu t1).sq, flatV_fv hc'.1, flats_fv hc'.2, ?_⟩)
        rw [inV_same hc'.1 _ hc'.2]
        exact k _ B H (.refl e) rfl
      · cases hb
    · cases hb
theorem p_in : Prim2 T (rInA T.K false) dIn := p_inG false
theorem p_notIn : Prim2 T (rInA T.K true) dNotIn := p_inG true
/-! ### is -/
def rIsA : R2 := fun x y H Q => (∃ a b : Bool, x = .bl a ∧ y = .bl b ∧ Q (.bl (decide (a = b))) H) ∨ (y = .non ∧ Q (.bl (decide (x = .non))) H)
def rIsNotA : R2 := fun x y H Q => (∃ a b : Bool, x = .bl a ∧ y = .bl b ∧ Q (.bl (!decide (a = b))) H) ∨ (y = .non ∧ Q (.bl (!decide (x = .non))) H)
theorem op_isA : OpR X (compareOp .Is) rIsA := op_isBl.or op_isN
theorem op_isNotA : OpR X (compareOp .IsNot) rIsNotA := op_notBl.or op_notN
def isNone : D → Bool
  | .non => true
  | _ => false
def dIsv : D → D → Option Bool
  | .bl a, .bl b => some (decide (a = b))
  | x, .non => some (isNone x)
  | _, _ => none
def dIs (x y : D) : Option D := (dIsv x y).map .bl
def dIsNot (x y : D) : Option D := (dIsv x y).map fun b => .bl !b
theorem isNone_v {B : Hp} {x : D} {v : V} (r : Rep T B x v) : decide (v = .non) = isNone x := by
  cases x with
  | non => cases rep_non r; rfl
  | bl b => cases rep_bl r; rfl
  | int i => cases rep_int r; rfl
  | str s => obtain ⟨rfl, _⟩ := rep_str r; rfl
  | tup _ => unfold Rep at r; obtain ⟨_, _, rfl, _⟩ := r; rfl
  | lst _ => unfold Rep at r; obtain ⟨_, _, rfl, _⟩ := r; rfl
  | obj _ _ => unfold Rep at r; obtain ⟨_, _, _, rfl, _⟩ := r; rfl
  | dct _ _ => unfold Rep at r; obtain ⟨_, _, rfl, _⟩ := r; rfl
theorem p_is : Prim2 T rIsA dIs := by
  intro x y z vx vy B H Q e hx hy hz k
  unfold dIs at hz
  cases hb : dIsv x y with
  | none => rw [hb] at hz; cases hz
  | some b =>
    rw [hb] at hz; cases hz
    unfold dIsv at hb
    split at hb
    · cases hb; cases rep_bl hx; cases rep_bl hy
      exact .inl ⟨_, _, rfl, rfl, k _ B H (.refl e) rfl⟩
    · cases hb; cases rep_non hy
      refine .inr ⟨rfl, ?_⟩
      rw [isNone_v hx]
      exact k _ B H (.refl e) rfl
    · cases hb
theorem p_isNot : Prim2 T rIsNotA dIsNot := by
  intro x y z vx vy B H Q e hx hy hz k
  unfold dIsNot at hz
  cases hb : dIsv x y with
  | none => rw [hb] at hz; cases hz
  | some b =>
    rw [hb] at hz; cases hz
    unfold dIsv at hb
    split at hb
    · cases hb; cases rep_bl hx; cases rep_bl hy
      exact .inl ⟨_, _, rfl, rfl, k _ B H (.refl e) rfl⟩
    · cases hb; cases rep_non hy
      refine .inr ⟨rfl, ?_⟩
      rw [isNone_v hx]
      exact k _ B H (.refl e) rfl
    · cases hb
/-! ### items and slices -/
def dIx : D → D → Option D
  | .lst xs, .int i => atI xs i
  | .tup xs, .int i => atI xs i
  | .str z, .int i => if z.length ≤ sizeLine then (atI z.cps.toList i).map fun c => .str ⟨#[c]⟩ else none
  | _, _ => none
theorem atI_reps {B : Hp} {ds : List D} {vs : List V} {i : Int} {d : D} (r : Reps T B ds vs) (h : atI ds i = some d) : ∃ v, atI vs i = some v ∧ Rep T B d v := by
  unfold atI at h ⊢
  rw [r.length] at h
  cases e : ixN vs.length i with
  | none => rw [e] at h; cases h
  | some j =>
    rw [e] at h
    exact r.get (by simpa using h)
theorem p_ix : Prim2 T (rIx T.K) dIx := by
  intro x y z vx vy B H Q e hx hy hz k
  unfold dIx at hz
  split at hz
  · unfold Rep at hx
    obtain ⟨a, us, rfl, t1, r1⟩ := hx
    cases rep_int hy
    obtain ⟨v, h1, h2⟩ := atI_reps r1 hz
    exact .inl ⟨a, us, _, v, rfl, rfl, e.sqL t1, h1, k v B H (.refl e) h2⟩
  · unfold Rep at hx
    obtain ⟨a, us, rfl, t1, r1⟩ := hx
    cases rep_int hy
    obtain ⟨v, h1, h2⟩ := atI_reps r1 hz
    exact .inr (.inl ⟨a, us, _, v, rfl, rfl, (e.tu t1).sq, h1, k v B H (.refl e) h2⟩)
  · rename_i zs i
    split at hz
    · rename_i hl
      obtain ⟨rfl, ok⟩ := rep_str hx
      cases rep_int hy
      cases hc : atI zs.cps.toList i with
      | none => rw [hc] at hz; cases hz
      | some c =>
        rw [hc] at hz; cases hz
        refine .inr (.inr ⟨zs, i, c, rfl, rfl, hl, hc, k _ B H (.refl e) ⟨rfl, ?_⟩⟩)
        obtain ⟨j, _, hj, _⟩ := atI_get hc
        rw [strOk_mem]
        intro c' hc'
        have : c' = c := by simpa using hc'
        subst this
        exact strOk_mem.mp ok c' (List.mem_of_getElem? hj)
    · cases hz
  · cases hz
def cutD {α : Type} (xs : List α) (lo hi : Option Int) : List α := (xs.drop (HT.sIx xs.length 0 lo)).take (HT.sIx xs.length xs.length hi - HT.sIx xs.length 0 lo)
theorem reps_drop {B : Hp} : ∀ (n : Nat) {ds : List D} {vs : List V}, Reps T B ds vs → Reps T B (ds.drop n) (vs.drop n)
  | 0, _, _, r => r
  | n + 1, [], vs, r => by unfold Reps at r; subst r; exact reps_nil
  | n + 1, d :: ds, vs, r => by
    unfold Reps at r
    obtain ⟨v, us, rfl, _, r2⟩ := r
    exact reps_drop n r2
theorem reps_take {B : Hp} : ∀ (n : Nat) {ds : List D} {vs : List V}, Reps T B ds vs → Reps T B (ds.take n) (vs.take n)
  | 0, _, _, _ => reps_nil
  | n + 1, [], vs, r => by unfold Reps at r; subst r; exact reps_nil
  | n + 1, d :: ds, vs, r => by
    unfold Reps at r
    obtain ⟨v, us, rfl, r1, r2⟩ := r
    exact reps_cons r1 (reps_take n r2)
theorem reps_cut {B : Hp} {ds : List D} {vs : List V} (r : Reps T B ds vs) (lo hi : Option Int) : Reps T B (cutD ds lo hi) (cutV vs lo hi) := by
  unfold cutD cutV
  rw [r.length]
  exact reps_take _ (reps_drop _ r)
def dSl (x : D) (lo hi : Option Int) : Option D := match x with
  | .tup xs => some (.tup (cutD xs lo hi))
  | .str z => if z.length ≤ sizeLine then some (.str (cutS z lo hi)) else none
  | _ => none
def rSlTS (K : PySem.W.Frag) : V → Option Int → Option Int → Hp → VK → Prop := fun x lo hi H Q => rSlA K x lo hi H Q ∨ rSlS x lo hi H Q
theorem sl_ts : SlR X (rSlTS X.K) := sl_tupA.or sl_str
theorem cutS_ok {z : Str} {lo hi : Option Int} (h : PyData.strOk z = true) : PyData.strOk (cutS z lo hi) = true := by
  rw [strOk_mem] at h ⊢
  intro c hc
  have hc : c ∈ (z.cps.toList.drop (HT.sIx z.length 0 lo)).take (HT.sIx z.length z.length hi - HT.sIx z.length 0 lo) := hc
  exact h c (List.mem_of_mem_drop (List.mem_of_mem_take hc))
theorem p_sl {x z : D} {lo hi : Option Int} {v : V} {B H : Hp} {Q : VK} (e : Ex B H) (r : Rep T B x v) (h : dSl x lo hi = some z) (k : ∀ v B' H', Ext B H B' H' → Rep T B' z v → Q v H') : rSlTS T.K v lo hi H Q := by
  unfold dSl at h
  split at h
  · rename_i xs
    cases h
    unfold Rep at r
    obtain ⟨a, us, rfl, t1, r1⟩ := r
    refine .inl ⟨a, us, rfl, (e.tu t1).sq, fun hw => ?_, fun hn p hp => ?_⟩
    · refine k _ B H (.refl e) ?_
      have : cutD xs lo hi = xs := by
        unfold cutD
        rw [r1.length, hw.1, hw.2, List.drop_zero, ← r1.length, Nat.sub_zero, List.take_length]
      rw [this]; unfold Rep; exact ⟨a, us, rfl, t1, r1⟩
    · have w := Ext.newT (o := .tup (cutV us lo hi)) e hp
      exact k _ _ _ w (rep_tup upd_same (Reps.mono w.b _ (reps_cut r1 lo hi)))
  · split at h
    · rename_i hl
      cases h
      obtain ⟨rfl, ok⟩ := rep_str r
      exact .inr ⟨_, rfl, hl, k _ B H (.refl e) ⟨rfl, cutS_ok ok⟩⟩
    · cases h
  · cases h
def SemO (T : Tab) (E : L2.St → XK) (to : TO) (f : M (Option Int)) : Prop := ∀ st σ B F H, Sim T st σ B F H → ∀ o s, f st = some (o, s) → ∀ Q : Option Int → Hp → Prop, Okx T (E σ) o s σ B F (fun x _ H' => Q x H') → to σ H Q
def oNone : M (Option Int) := ret none
def oSome (f : M D) : M (Option Int) := bnd f fun x => opt (match x with | .int i => some (some i) | _ => none)
variable {E : L2.St → XK} {te : TE} {fa : M D}
theorem semO_none : SemO T E tNoPart oNone := by
  intro st σ B F H S o s h Q hQ
  cases h
  exact hQ B H (Ex.refl B) S
theorem semO_some (ha : SemE T E te fa) : SemO T E (tPart te) (oSome fa) := by
  intro st σ B F H S o s h Q hQ
  refine okx_bnd h hQ (fun o1 s1 e1 q => ha st σ B F H S o1 s1 e1 _ q) fun a s1 B1 H1 _ h2 e1 S1 hQ1 v hv => ?_
  obtain ⟨z, hz, rfl, rfl⟩ := opt_some h2
  split at hz
  · cases hz; cases rep_int hv
    exact ⟨_, rfl, hQ1 B1 H1 (Ex.refl _) S1⟩
  · cases hz
def eSl (fa : M D) (lo hi : M (Option Int)) : M D := bnd fa fun x => bnd lo fun l => bnd hi fun h => opt (dSl x l h)
theorem semE_sl {tl th : TO} {lo hi : M (Option Int)} (ha : SemE T E te fa) (hl : SemO T E tl lo) (hh : SemO T E th hi) : SemE T E (tSl (rSlTS T.K) te tl th) (eSl fa lo hi) := by
  intro st σ B F H S o s h Q hQ
  refine okx_bnd h hQ (fun o1 s1 e1 q => ha st σ B F H S o1 s1 e1 _ q) fun a s1 B1 H1 _ h2 e1 S1 hQ1 v hv => ?_
  refine okx_bnd h2 hQ1 (fun o1 s2 e2 q => hl s1 σ B1 F H1 S1 o1 s2 e2 _ q) fun l s2 B2 H2 _ h3 e2 S2 hQ2 => ?_
  refine okx_bnd h3 hQ2 (fun o1 s3 e3 q => hh s2 σ B2 F H2 S2 o1 s3 e3 _ q) fun u s3 B3 H3 _ h4 e3 S3 hQ3 => ?_
  obtain ⟨z, hz, rfl, rfl⟩ := opt_some h4
  exact p_sl S3.exB (Rep.mono (e2.trans e3) a hv) hz fun u B4 H4 e4 hu => hQ3 B4 H4 e4.b (S3.ext e4) u hu
/-- a list's slice, a new list -/
def rSlL' (fa : M D) (lo hi : M (Option Int)) : M R := bnd fa fun x => bnd lo fun l => bnd hi fun h => opt (match x with | .lst xs => some (.ol (cutD xs l h)) | _ => none)
theorem semR_sl {tl th : TO} {lo hi : M (Option Int)} (ha : SemE T E te fa) (hl : SemO T E tl lo) (hh : SemO T E th hi) : SemR T E (tSl (rSlL T.K) te tl th) (rSlL' fa lo hi) := by
  intro st σ B F H S o s h Q hQ
  rcases bnd_some h with ⟨c, e1, rfl⟩ | ⟨x, s1, e1, h2⟩
  · exact ha st σ B F H S _ _ e1 _ hQ
  · refine ha st σ B F H S _ _ e1 _ fun B1 H1 x1 S1 v hv => ?_
    rcases bnd_some h2 with ⟨c, e2, rfl⟩ | ⟨l, s2, e2, h3⟩
    · exact hl s1 σ B1 F H1 S1 _ _ e2 _ fun d B2 H2 x2 S2 => hQ d B2 H2 (x1.trans x2) S2
    · refine hl s1 σ B1 F H1 S1 _ _ e2 _ fun B2 H2 x2 S2 => ?_
      rcases bnd_some h3 with ⟨c, e3, rfl⟩ | ⟨u, s3, e3, h4⟩
      · exact hh s2 σ B2 F H2 S2 _ _ e3 _ fun d B3 H3 x3 S3 => hQ d B3 H3 (x1.trans (x2.trans x3)) S3
      · refine hh s2 σ B2 F H2 S2 _ _ e3 _ fun B3 H3 x3 S3 => ?_
        obtain ⟨z, hz, rfl, rfl⟩ := opt_some h4
        split at hz
        · cases hz
          have hv' := Rep.mono (x2.trans x3) _ hv
          unfold Rep at hv'
          obtain ⟨a, us, rfl, t1, r1⟩ := hv'
          exact ⟨a, us, rfl, S3.exB.sqL t1, fun p hp => hQ _ B3 _ (x1.trans (x2.trans x3)) (S3.alloc hp (fun _ z => nomatch z) (relR_ol upd_same (reps_cut r1 l u)))⟩
        · cases hz
/-! ### built-ins by name -/
def dLen : List D → Option D
  | [.str s] => if s.length ≤ sizeLine then some (.int (s.length : Nat)) else none
  | [.lst xs] => some (.int (xs.length : Nat))
  | [.tup xs] => some (.int (xs.length : Nat))
  | _ => none
theorem reps1 {B : Hp} {d : D} {vs : List V} (h : Reps T B [d] vs) : ∃ v, vs = [v] ∧ Rep T B d v := by
  unfold Reps at h
  obtain ⟨v, r, rfl, h1, h2⟩ := h
  unfold Reps at h2
  subst h2
  exact ⟨v, rfl, h1⟩
theorem reps2 {B : Hp} {d d' : D} {vs : List V} (h : Reps T B [d, d'] vs) : ∃ v u, vs = [v, u] ∧ Rep T B d v ∧ Rep T B d' u := by
  unfold Reps at h
  obtain ⟨v, r, rfl, h1, h2⟩ := h
  obtain ⟨u, rfl, h3⟩ := reps1 h2
  exact ⟨v, u, rfl, h1, h3⟩
theorem p_len : PrimN T (fun xs H Q => ∃ x n, xs = [x] ∧ LenV T.K x H n ∧ Q (.int (n : Nat)) H) dLen := by
  intro xs z vs B H Q e hx hz k
  unfold dLen at hz
  split at hz
  · split at hz
    · rename_i hl
      cases hz
      obtain ⟨v, rfl, r⟩ := reps1 hx
      obtain ⟨rfl, _⟩ := rep_str r
      exact ⟨_, _, rfl, ⟨hl, rfl⟩, k _ B H (.refl e) rfl⟩
    · cases hz
  · cases hz
    obtain ⟨v, rfl, r⟩ := reps1 hx
    unfold Rep at r
    obtain ⟨a, us, rfl, t1, r1⟩ := r
    exact ⟨_, _, rfl, .inl ⟨us, e.sqL t1, r1.length⟩, k _ B H (.refl e) rfl⟩
  · cases hz
    obtain ⟨v, rfl, r⟩ := reps1 hx
    unfold Rep at r
    obtain ⟨a, us, rfl, t1, r1⟩ := r
    exact ⟨_, _, rfl, .inr ⟨us, (e.tu t1).sq, r1.length⟩, k _ B H (.refl e) rfl⟩
  · cases hz
def dInt : List D → Option D
  | [.int i] => some (.int i)
  | [.bl b] => some (.int (if b = true then 1 else 0))
  | _ => none
theorem p_int : PrimN T (fun xs H Q => (∃ i, xs = [.int i] ∧ Q (.int i) H) ∨ ∃ k, xs = [.bl k] ∧ Q (.int (if k = true then 1 else 0)) H) dInt := by
  intro xs z vs B H Q e hx hz k
  unfold dInt at hz
  split at hz
  · cases hz
    obtain ⟨v, rfl, r⟩ := reps1 hx
    cases rep_int r
    exact .inl ⟨_, rfl, k _ B H (.refl e) rfl⟩
  · cases hz
    obtain ⟨v, rfl, r⟩ := reps1 hx
    cases rep_bl r
    exact .inr ⟨_, rfl, k _ B H (.refl e) rfl⟩
  · cases hz
/-- tuple(list), tuple(tuple) -/
def dTuple : List D → Option D
  | [.lst xs] => some (.tup xs)
  | [.tup xs] => some (.tup xs)
  | _ => none
theorem p_tuple : PrimN T (fun xs H Q => ∃ p ys, xs = [.ref p] ∧ ((SqL T.K H p ys ∧ ∀ l, H l = none → Q (.ref l) (upd H l (.tup ys))) ∨ (SqT T.K H p ys ∧ Q (.ref p) H))) dTuple := by
  intro xs z vs B H Q e hx hz k
  unfold dTuple at hz
  split at hz
  · cases hz
    obtain ⟨v, rfl, r⟩ := reps1 hx
    unfold Rep at r
    obtain ⟨a, us, rfl, t1, r1⟩ := r
    refine ⟨a, us, rfl, .inl ⟨e.sqL t1, fun p hp => ?_⟩⟩
    have w := Ext.newT (o := .tup us) e hp
    exact k _ _ _ w (rep_tup upd_same (Reps.mono w.b _ r1))
  · cases hz
    obtain ⟨v, rfl, r⟩ := reps1 hx
    have r' := r
    unfold Rep at r
    obtain ⟨a, us, rfl, t1, r1⟩ := r
    exact ⟨a, us, rfl, .inr ⟨(e.tu t1).sq, k _ B H (.refl e) r'⟩⟩
  · cases hz
/-- list(list), list(tuple): a new list -/
def dList : List D → Option (List D)
  | [.lst xs] => some xs
  | [.tup xs] => some xs
  | _ => none
theorem p_list : PrimL T (fun xs H Q => ∃ p ys, xs = [.ref p] ∧ (SqL T.K H p ys ∨ SqT T.K H p ys) ∧ ∀ l, H l = none → Q (.ref l) (upd H l (.lst ys))) dList := by
  intro xs zs vs B H Q e hx hz k
  unfold dList at hz
  split at hz
  · cases hz
    obtain ⟨v, rfl, r⟩ := reps1 hx
    unfold Rep at r
    obtain ⟨a, us, rfl, t1, r1⟩ := r
    exact ⟨a, us, rfl, .inl (e.sqL t1), fun p hp => k p us B H (.refl e) hp r1⟩
  · cases hz
    obtain ⟨v, rfl, r⟩ := reps1 hx
    unfold Rep at r
    obtain ⟨a, us, rfl, t1, r1⟩ := r
    exact ⟨a, us, rfl, .inr (e.tu t1).sq, fun p hp => k p us B H (.refl e) hp r1⟩
  · cases hz
/-- truths -/
def bls : List D → Option (List Bool)
  | [] => some []
  | .bl b :: ds => (bls ds).map (b :: ·)
  | _ => none
theorem bls_v {B : Hp} : ∀ {ds : List D} {bs : List Bool} {vs : List V}, bls ds = some bs → Reps T B ds vs → vs = bs.map V.bl
  | [], bs, vs, h, r => by cases h; unfold Reps at r; exact r
  | d :: ds, bs, vs, h, r => by
    cases d with
    | bl b =>
      have h : (bls ds).map (b :: ·) = some bs := h
      unfold Reps at r
      obtain ⟨v, us, rfl, r1, r2⟩ := r
      cases e2 : bls ds with
      | none => rw [e2] at h; cases h
      | some bs' =>
        rw [e2] at h; cases h
        cases rep_bl r1
        rw [bls_v e2 r2]; rfl
    | _ => cases h
def dAll : List D → Option D
  | [.lst xs] => (bls xs).map fun bs => .bl (bs.all id)
  | _ => none
def dAny : List D → Option D
  | [.lst xs] => (bls xs).map fun bs => .bl (bs.any id)
  | _ => none
theorem p_all : PrimN T (rAll T.K) dAll := by
  intro xs z vs B H Q e hx hz k
  unfold dAll at hz
  split at hz
  · rename_i ys
    cases hb : bls ys with
    | none => rw [hb] at hz; cases hz
    | some bs =>
      rw [hb] at hz; cases hz
      obtain ⟨v, rfl, r⟩ := reps1 hx
      unfold Rep at r
      obtain ⟨a, us, rfl, t1, r1⟩ := r
      cases bls_v hb r1
      exact ⟨a, bs, rfl, e.sqL t1, k _ B H (.refl e) rfl⟩
  · cases hz
theorem p_any : PrimN T (rAny T.K) dAny := by
  intro xs z vs B H Q e hx hz k
  unfold dAny at hz
  split at hz
  · rename_i ys
    cases hb : bls ys with
    | none => rw [hb] at hz; cases hz
    | some bs =>
      rw [hb] at hz; cases hz
      obtain ⟨v, rfl, r⟩ := reps1 hx
      unfold Rep at r
      obtain ⟨a, us, rfl, t1, r1⟩ := r
      cases bls_v hb r1
      exact ⟨a, bs, rfl, e.sqL t1, k _ B H (.refl e) rfl⟩
  · cases hz
end
end Fz

-- text Fz9
set_option Elab.async false
set_option linter.all false
set_option maxRecDepth 100000
set_option maxHeartbeats 2000000
namespace Fz
open PySem L2
section
variable {T : Tab} {E : L2.St → XK} {st : Sl} {σ : St} {B F H B' H' : Hp}
/-! ### what is walked -/
theorem steps_list' {a : Addr} {ds : List D} {vs : List V} {B : Hp} (h : SqL T.K B a vs) (r : Reps T B ds vs) : Steps T (Itl T.K a) ds B where
  go := fun i H hi e => ⟨vs, vs[i]'(by rw [← r.length]; exact hi), e.sqL h, List.getElem?_eq_getElem _⟩
  stop := fun H e => ⟨vs, e.sqL h, Nat.le_of_eq r.length.symm⟩
  yld := fun i d H x H' B1 hd e1 e2 hy => by
    obtain ⟨rfl, hy⟩ := hy
    obtain ⟨v, hv, rv⟩ := r.get hd
    have := hy vs ((e1.trans e2).sqL h)
    rw [hv] at this; cases this
    exact ⟨B1, .refl e2, Rep.mono e1 d rv⟩
theorem steps_tup {a : Addr} {ds : List D} {vs : List V} {B : Hp} (h : Tu T B a vs) (r : Reps T B ds vs) : Steps T (Itt T.K a) ds B where
  go := fun i H hi e => ⟨vs, vs[i]'(by rw [← r.length]; exact hi), (e.tu h).sq, List.getElem?_eq_getElem _⟩
  stop := fun H e => ⟨vs, (e.tu h).sq, Nat.le_of_eq r.length.symm⟩
  yld := fun i d H x H' B1 hd e1 e2 hy => by
    obtain ⟨rfl, hy⟩ := hy
    obtain ⟨v, hv, rv⟩ := r.get hd
    have := hy vs ((e1.trans e2).tu h).sq
    rw [hv] at this; cases this
    exact ⟨B1, .refl e2, Rep.mono e1 d rv⟩
theorem steps_rev {a : Addr} {ds : List D} {vs : List V} {B : Hp} (h : SqL T.K B a vs) (r : Reps T B ds vs) : Steps T (Itv T.K a vs.length) ds.reverse B := by
  have ln := r.length
  refine ⟨fun i H hi e => ?_, fun H e => ?_, fun i d H x H' B1 hd e1 e2 hy => ?_⟩
  · rw [List.length_reverse] at hi
    exact ⟨by omega, vs, vs[vs.length - 1 - i]'(by omega), e.sqL h, List.getElem?_eq_getElem _⟩
  · show vs.length ≤ ds.reverse.length
    rw [List.length_reverse]; omega
  · obtain ⟨rfl, hy⟩ := hy
    have hi : i < ds.length := by have := (List.getElem?_eq_some_iff.mp hd).1; rwa [List.length_reverse] at this
    rw [List.getElem?_reverse hi, ln] at hd
    obtain ⟨v, hv, rv⟩ := r.get hd
    have := hy vs ((e1.trans e2).sqL h)
    rw [hv] at this; cases this
    exact ⟨B1, .refl e2, Rep.mono e1 d rv⟩
def rngD (lo : Int) (n : Nat) : List D := (List.range n).map fun (i : Nat) => D.int (lo + i)
theorem rngD_len (lo : Int) (n : Nat) : (rngD lo n).length = n := by unfold rngD; rw [List.length_map, List.length_range]
theorem rngD_get {lo : Int} {n i : Nat} {d : D} (h : (rngD lo n)[i]? = some d) : i < n ∧ d = .int (lo + i) := by
  unfold rngD at h
  rw [List.getElem?_map] at h
  by_cases hi : i < n
  · rw [List.getElem?_range hi] at h; cases h; exact ⟨hi, rfl⟩
  · rw [List.getElem?_eq_none (by rw [List.length_range]; omega)] at h; cases h
theorem steps_rng {lo : Int} {n : Nat} {B : Hp} : Steps T (Itr lo n) (rngD lo n) B where
  go := fun i H hi e => by rw [rngD_len] at hi; exact hi
  stop := fun H e => by rw [rngD_len]; exact Nat.le_refl _
  yld := fun i d H x H' B1 hd e1 e2 hy => by
    obtain ⟨rfl, rfl⟩ := hy
    obtain ⟨_, rfl⟩ := rngD_get hd
    exact ⟨B1, .refl e2, rfl⟩
def sgnD (x : Str) : List D := x.cps.toList.map fun c => D.str ⟨#[c]⟩
theorem steps_str {x : Str} {B : Hp} (ok : PyData.strOk x = true) : Steps T (Its x) (sgnD x) B where
  go := fun i H hi e => by
    unfold sgnD at hi
    rw [List.length_map, Array.length_toList] at hi
    exact hi
  stop := fun H e => by
    show x.cps.size ≤ _
    unfold sgnD
    rw [List.length_map, Array.length_toList]
    exact Nat.le_refl _
  yld := fun i d H v H' B1 hd e1 e2 hy => by
    obtain ⟨rfl, c, hc, rfl⟩ := hy
    unfold sgnD at hd
    rw [List.getElem?_map, Array.getElem?_toList, hc] at hd
    cases hd
    refine ⟨B1, .refl e2, rfl, ?_⟩
    rw [strOk_mem] at ok ⊢
    intro c' hc'
    have : c' = c := by simpa using hc'
    subst this
    exact ok c' (List.mem_of_getElem? (by rw [Array.getElem?_toList]; exact hc))
def enumD : Nat → List D → List D
  | _, [] => []
  | i, d :: ds => .tup [.int (i : Nat), d] :: enumD (i + 1) ds
theorem enumD_len : ∀ (k : Nat) (ds : List D), (enumD k ds).length = ds.length
  | _, [] => rfl
  | k, d :: ds => by show (enumD (k + 1) ds).length + 1 = _; rw [enumD_len (k + 1) ds]; rfl
theorem enumD_get : ∀ {k i : Nat} {ds : List D} {d : D}, (enumD k ds)[i]? = some d → ∃ x, ds[i]? = some x ∧ d = .tup [.int ((k + i : Nat) : Int), x]
  | k, i, [], d, h => by simp [enumD] at h
  | k, 0, x :: ds, d, h => by have h : some (D.tup [.int (k : Nat), x]) = some d := h; cases h; exact ⟨x, rfl, rfl⟩
  | k, i + 1, x :: ds, d, h => by
    obtain ⟨y, h1, h2⟩ := enumD_get (k := k + 1) (i := i) (ds := ds) (d := d) h
    exact ⟨y, h1, by rw [h2]; congr 4; omega⟩
theorem steps_enum {a : Addr} {ds : List D} {vs : List V} {B : Hp} (h : SqL T.K B a vs) (r : Reps T B ds vs) : Steps T (Ite T.K a) (enumD 0 ds) B where
  go := fun i H hi e => by rw [enumD_len] at hi; exact ⟨vs, vs[i]'(by rw [← r.length]; exact hi), e.sqL h, List.getElem?_eq_getElem _⟩
  stop := fun H e => ⟨vs, e.sqL h, by rw [enumD_len]; exact Nat.le_of_eq r.length.symm⟩
  yld := fun i d H x H' B1 hd e1 e2 hy => by
    obtain ⟨p, y, rfl, hp, rfl, hy⟩ := hy
    obtain ⟨z, hz, rfl⟩ := enumD_get hd
    obtain ⟨v, hv, rv⟩ := r.get hz
    have := hy vs ((e1.trans e2).sqL h)
    rw [hv] at this; cases this
    have w := Ext.newT (o := .tup [.int (i : Nat), y]) e2 hp
    refine ⟨_, w, rep_tup upd_same ?_⟩
    exact reps_cons (by rw [Nat.zero_add]; rfl) (reps_cons (Rep.mono (e1.trans w.b) _ rv) reps_nil)
def zipD : List D → List D → List D
  | x :: xs, y :: ys => .tup [x, y] :: zipD xs ys
  | _, _ => []
theorem zipD_len : ∀ xs ys : List D, (zipD xs ys).length = min xs.length ys.length
  | [], ys => by simp [zipD]
  | x :: xs, [] => by simp [zipD]
  | x :: xs, y :: ys => by show (zipD xs ys).length + 1 = _; rw [zipD_len xs ys]; simp only [List.length_cons]; omega
theorem zipD_get : ∀ {i : Nat} {xs ys : List D} {d : D}, (zipD xs ys)[i]? = some d → ∃ x y, xs[i]? = some x ∧ ys[i]? = some y ∧ d = .tup [x, y]
  | i, [], ys, d, h => by simp [zipD] at h
  | i, x :: xs, [], d, h => by simp [zipD] at h
  | 0, x :: xs, y :: ys, d, h => by have h : some (D.tup [x, y]) = some d := h; cases h; exact ⟨x, y, rfl, rfl, rfl⟩
  | i + 1, x :: xs, y :: ys, d, h => by
    obtain ⟨a, b, h1, h2, h3⟩ := zipD_get (i := i) (xs := xs) (ys := ys) (d := d) h
    exact ⟨a, b, h1, h2, h3⟩
theorem steps_zip {a b : Addr} {ds es : List D} {vs us : List V} {B : Hp} (h : SqL T.K B a vs) (r : Reps T B ds vs) (h' : SqL T.K B b us) (r' : Reps T B es us) : Steps T (Itz T.K a b) (zipD ds es) B where
  go := fun i H hi e => by
    rw [zipD_len] at hi
    exact ⟨vs, us, vs[i]'(by rw [← r.length]; omega), us[i]'(by rw [← r'.length]; omega), e.sqL h, e.sqL h', List.getElem?_eq_getElem _, List.getElem?_eq_getElem _⟩
  stop := fun H e => ⟨vs, us, e.sqL h, e.sqL h', by rw [zipD_len, r.length, r'.length]; omega⟩
  yld := fun i d H x H' B1 hd e1 e2 hy => by
    obtain ⟨p, y, z, rfl, hp, rfl, hy, hz⟩ := hy
    obtain ⟨x, x', hx, hx', rfl⟩ := zipD_get hd
    obtain ⟨v, hv, rv⟩ := r.get hx
    obtain ⟨u, hu, ru⟩ := r'.get hx'
    have q1 := hy vs ((e1.trans e2).sqL h)
    have q2 := hz us ((e1.trans e2).sqL h')
    rw [hv] at q1; cases q1
    rw [hu] at q2; cases q2
    have w := Ext.newT (o := .tup [y, z]) e2 hp
    exact ⟨_, w, rep_tup upd_same (reps_cons (Rep.mono (e1.trans w.b) _ rv) (reps_cons (Rep.mono (e1.trans w.b) _ ru) reps_nil))⟩
/-- things that are walked -/
def iLst (fa : M D) : M (List D) := bnd fa fun x => opt (match x with | .lst xs => some xs | _ => none)
def iTupl (fa : M D) : M (List D) := bnd fa fun x => opt (match x with | .tup xs => some xs | _ => none)
def iSeq (fa : M D) : M (List D) := bnd fa fun x => opt (match x with | .lst xs => some xs | .tup xs => some xs | _ => none)
def iText (fa : M D) : M (List D) := bnd fa fun x => opt (match x with | .str x => some (sgnD x) | _ => none)
def smallI (i : Int) : Bool := decide (-(2 ^ 62) ≤ i) && decide (i < 2 ^ 62)
def iR1 (fa : M (List D)) : M (List D) := bnd fa fun xs => opt (match xs with | [.int j] => if smallI j then some (rngD 0 j.toNat) else none | _ => none)
def iR2 (fa : M (List D)) : M (List D) := bnd fa fun xs => opt (match xs with | [.int i, .int j] => if smallI i && smallI j then some (rngD i (j - i).toNat) else none | _ => none)
def iRv (fa : M (List D)) : M (List D) := bnd fa fun xs => opt (match xs with | [.lst xs] => some xs.reverse | _ => none)
def iEn (fa : M (List D)) : M (List D) := bnd fa fun xs => opt (match xs with | [.lst xs] => some (enumD 0 xs) | _ => none)
def iZp (fa : M (List D)) : M (List D) := bnd fa fun xs => opt (match xs with | [.lst xs, .lst ys] => some (zipD xs ys) | _ => none)
variable {te : TE} {ta : TA} {fa : M D} {fs : M (List D)}
theorem semI_lst (h : SemE T E te fa) : SemI T E (iList T.K te) (iLst fa) := by
  intro st σ B F H S o s hf R hR
  refine okx_bnd hf hR (fun o1 s1 e1 q => h st σ B F H S o1 s1 e1 _ q) fun a s1 B1 H1 _ h2 e1 S1 hR1 v hv => ?_
  obtain ⟨z, hz, rfl, rfl⟩ := opt_some h2
  split at hz
  · cases hz
    unfold Rep at hv
    obtain ⟨p, us, rfl, t, r⟩ := hv
    exact ⟨p, rfl, ⟨us, S1.exB.sqL t⟩, hR1 B1 H1 (Ex.refl _) S1 _ (steps_list' t r)⟩
  · cases hz
theorem semI_tup (h : SemE T E te fa) : SemI T E (iTup T.K te) (iTupl fa) := by
  intro st σ B F H S o s hf R hR
  refine okx_bnd hf hR (fun o1 s1 e1 q => h st σ B F H S o1 s1 e1 _ q) fun a s1 B1 H1 _ h2 e1 S1 hR1 v hv => ?_
  obtain ⟨z, hz, rfl, rfl⟩ := opt_some h2
  split at hz
  · cases hz
    unfold Rep at hv
    obtain ⟨p, us, rfl, t, r⟩ := hv
    exact ⟨p, rfl, ⟨us, (S1.exB.tu t).sq⟩, hR1 B1 H1 (Ex.refl _) S1 _ (steps_tup t r)⟩
  · cases hz
/-- a list or a tuple -/
theorem semI_seq (h : SemE T E te fa) : SemI T E (fun σ H R => iList T.K te σ H R ∨ iTup T.K te σ H R) (iSeq fa) := by
  intro st σ B F H S o s hf R hR
  have hf' := hf
  rcases bnd_some hf with ⟨c, e1, rfl⟩ | ⟨x, s1, e1, h2⟩
  · exact .inl (semI_lst h st σ B F H S (.x c) s (show bnd fa _ st = _ by unfold bnd; rw [e1]) R hR)
  · obtain ⟨z, hz, rfl, rfl⟩ := opt_some h2
    split at hz
    · rename_i xs
      cases hz
      exact .inl (semI_lst h st σ B F H S (.v _) s (show bnd fa _ st = _ by unfold bnd; rw [e1]; rfl) R hR)
    · rename_i xs
      cases hz
      exact .inr (semI_tup h st σ B F H S (.v _) s (show bnd fa _ st = _ by unfold bnd; rw [e1]; rfl) R hR)
    · cases hz
theorem semI_str (h : SemE T E te fa) : SemI T E (iStr te) (iText fa) := by
  intro st σ B F H S o s hf R hR
  refine okx_bnd hf hR (fun o1 s1 e1 q => h st σ B F H S o1 s1 e1 _ q) fun a s1 B1 H1 _ h2 e1 S1 hR1 v hv => ?_
  obtain ⟨z, hz, rfl, rfl⟩ := opt_some h2
  split at hz
  · cases hz
    obtain ⟨rfl, ok⟩ := rep_str hv
    exact ⟨_, rfl, hR1 B1 H1 (Ex.refl _) S1 _ (steps_str ok)⟩
  · cases hz
theorem semI_r1 (h : SemA T E ta fs) : SemI T E (iRng1 ta) (iR1 fs) := by
  intro st σ B F H S o s hf R hR
  refine okx_bnd hf hR (fun o1 s1 e1 q => h st σ B F H S o1 s1 e1 _ q) fun a s1 B1 H1 _ h2 e1 S1 hR1 v hv => ?_
  obtain ⟨z, hz, rfl, rfl⟩ := opt_some h2
  split at hz
  · split at hz
    · rename_i hl
      cases hz
      obtain ⟨u, rfl, r⟩ := reps1 hv
      cases rep_int r
      have hl' := (Bool.and_eq_true _ _).mp hl
      exact ⟨_, rfl, of_decide_eq_true hl'.1, of_decide_eq_true hl'.2, hR1 B1 H1 (Ex.refl _) S1 _ steps_rng⟩
    · cases hz
  · cases hz
theorem semI_r2 (h : SemA T E ta fs) : SemI T E (iRng2 ta) (iR2 fs) := by
  intro st σ B F H S o s hf R hR
  refine okx_bnd hf hR (fun o1 s1 e1 q => h st σ B F H S o1 s1 e1 _ q) fun a s1 B1 H1 _ h2 e1 S1 hR1 v hv => ?_
  obtain ⟨z, hz, rfl, rfl⟩ := opt_some h2
  split at hz
  · split at hz
    · rename_i hl
      cases hz
      obtain ⟨u, w, rfl, r, r'⟩ := reps2 hv
      cases rep_int r
      cases rep_int r'
      have hl' := (Bool.and_eq_true _ _).mp hl
      have hl1 := (Bool.and_eq_true _ _).mp hl'.1
      have hl2 := (Bool.and_eq_true _ _).mp hl'.2
      exact ⟨_, _, rfl, ⟨of_decide_eq_true hl1.1, of_decide_eq_true hl1.2, of_decide_eq_true hl2.1, of_decide_eq_true hl2.2⟩, hR1 B1 H1 (Ex.refl _) S1 _ steps_rng⟩
    · cases hz
  · cases hz
theorem semI_rv (h : SemA T E ta fs) : SemI T E (iRev T.K ta) (iRv fs) := by
  intro st σ B F H S o s hf R hR
  refine okx_bnd hf hR (fun o1 s1 e1 q => h st σ B F H S o1 s1 e1 _ q) fun a s1 B1 H1 _ h2 e1 S1 hR1 v hv => ?_
  obtain ⟨z, hz, rfl, rfl⟩ := opt_some h2
  split at hz
  · cases hz
    obtain ⟨u, rfl, r⟩ := reps1 hv
    unfold Rep at r
    obtain ⟨p, us, rfl, t, r⟩ := r
    exact ⟨p, us, rfl, S1.exB.sqL t, hR1 B1 H1 (Ex.refl _) S1 _ (steps_rev t r)⟩
  · cases hz
theorem semI_en (h : SemA T E ta fs) : SemI T E (iEnum T.K ta) (iEn fs) := by
  intro st σ B F H S o s hf R hR
  refine okx_bnd hf hR (fun o1 s1 e1 q => h st σ B F H S o1 s1 e1 _ q) fun a s1 B1 H1 _ h2 e1 S1 hR1 v hv => ?_
  obtain ⟨z, hz, rfl, rfl⟩ := opt_some h2
  split at hz
  · cases hz
    obtain ⟨u, rfl, r⟩ := reps1 hv
    unfold Rep at r
    obtain ⟨p, us, rfl, t, r⟩ := r
    exact ⟨p, us, rfl, S1.exB.sqL t, hR1 B1 H1 (Ex.refl _) S1 _ (steps_enum t r)⟩
  · cases hz
theorem semI_zp (h : SemA T E ta fs) : SemI T E (iZip T.K ta) (iZp fs) := by
  intro st σ B F H S o s hf R hR
  refine okx_bnd hf hR (fun o1 s1 e1 q => h st σ B F H S o1 s1 e1 _ q) fun a s1 B1 H1 _ h2 e1 S1 hR1 v hv => ?_
  obtain ⟨z, hz, rfl, rfl⟩ := opt_some h2
  split at hz
  · cases hz
    obtain ⟨u, w, rfl, r, r'⟩ := reps2 hv
    unfold Rep at r r'
    obtain ⟨p, us, rfl, t, r⟩ := r
    obtain ⟨p', us', rfl, t', r'⟩ := r'
    exact ⟨p, p', us, us', rfl, S1.exB.sqL t, S1.exB.sqL t', hR1 B1 H1 (Ex.refl _) S1 _ (steps_zip t r t' r')⟩
  · cases hz

/-! ### the top hidden in the frame, and shown again -/
def addF (F H : Hp) (a : Addr) : Hp := fun b => if b = a then H a else F b
theorem Sim.hide {r : R} {a : Addr} (S : Sim T (some r :: st) (some (.ref a) :: σ) B F H) (ho : Ow r (.ref a) a) : Sim T st σ B (addF F H a) H := by
  have P := S.pop
  obtain ⟨ba, fa⟩ := S.own 0 r _ a rfl rfl ho
  refine ⟨P.exB, fun b o h => ?_, fun b o h => ?_, P.tup, P.len, P.rel, fun i q u b h1 h2 h3 => ?_, P.sep⟩
  · unfold addF at h
    split at h
    · rename_i e; subst e; exact h
    · exact S.exF b o h
  · unfold addF at h
    split at h
    · rename_i e; subst e; exact ba
    · exact S.dis b o h
  · obtain ⟨z1, z2⟩ := P.own i q u b h1 h2 h3
    refine ⟨z1, ?_⟩
    unfold addF
    split
    · rename_i e; subst e
      exact (S.sep 0 (i + 1) r q _ u b (by omega) rfl rfl (by simpa using h1) (by simpa using h2) ho h3).elim
    · exact z2
theorem Sim.unhide {r : R} {a : Addr} {st' : Sl} {σ' : St} (S : Sim T (some r :: st) (some (.ref a) :: σ) B F H) (ho : Ow r (.ref a) a) (e : Ex B B') (S' : Sim T st' σ' B' (addF F H a) H') : Sim T (some r :: st') (some (.ref a) :: σ') B' F H' := by
  obtain ⟨ba, fa⟩ := S.own 0 r _ a rfl rfl ho
  obtain ⟨_, ⟨oh, hh⟩, nt⟩ := S.top.ow ho
  have same : H' a = H a := by
    rw [hh]
    exact S'.exF a oh (by unfold addF; rw [if_pos rfl]; exact hh)
  have fh : addF F H a a = some oh := by unfold addF; rw [if_pos rfl]; exact hh
  have only : ∀ b, Ow r (.ref a) b → b = a := fun b h => by
    have := (S.top.ow h).1
    cases this; rfl
  have fr : ∀ b, addF F H a b = none → F b = none := fun b h => by
    unfold addF at h
    split at h
    · rename_i z; subst z; rw [hh] at h; cases h
    · exact h
  refine ⟨S'.exB, fun b o h => S'.exF b o ?_, fun b o h => S'.dis b o ?_, S'.tup, by simp [S'.len], fun i q h => ?_, fun i q u b h1 h2 h3 => ?_, fun i j q p u w b n h1 h2 h3 h4 h5 h6 => ?_⟩
  · unfold addF; rw [if_neg (by rintro rfl; rw [fa] at h; cases h)]; exact h
  · unfold addF; rw [if_neg (by rintro rfl; rw [fa] at h; cases h)]; exact h
  · cases i with
    | zero =>
      cases h
      exact ⟨_, rfl, S.top.keep e fun b o ob z => by rw [only b ob] at z ⊢; rw [same]; exact z⟩
    | succ i => obtain ⟨u, a, b⟩ := S'.rel i q (by simpa using h); exact ⟨u, by simpa using a, b⟩
  · cases i with
    | zero =>
      cases h1; cases h2
      rw [only b h3]
      exact ⟨S'.dis a oh fh, fa⟩
    | succ i =>
      obtain ⟨z1, z2⟩ := S'.own i q u b (by simpa using h1) (by simpa using h2) h3
      exact ⟨z1, fr b z2⟩
  · have cross : ∀ {j : Nat} {q : R} {u : V}, st'[j]? = some (some q) → σ'[j]? = some (some u) → Ow r (.ref a) b → Ow q u b → False := fun {j q u} g1 g2 g3 g4 => by
      rw [only b g3] at g4
      have := (S'.own j q u a g1 g2 g4).2
      rw [fh] at this; cases this
    cases i with
    | zero =>
      cases h1; cases h2
      cases j with
      | zero => exact n rfl
      | succ j => exact cross (by simpa using h3) (by simpa using h4) h5 h6
    | succ i =>
      cases j with
      | zero => cases h3; cases h4; exact cross (by simpa using h1) (by simpa using h2) h6 h5
      | succ j => exact S'.sep i j q p u w b (by omega) (by simpa using h1) (by simpa using h2) (by simpa using h3) (by simpa using h4) h5 h6

/-! ### comprehensions -/
def wipeS (st : Sl) : List Nat → Sl
  | [] => st
  | v :: vs => (wipeS st vs).set v none
def isOwned : Option R → Bool
  | some (.d _) => false
  | none => false
  | _ => true
/-- the block's own names as they were -/
def backS (st0 st : Sl) : List Nat → Sl
  | [] => st
  | v :: vs => (backS st0 st vs).set v (st0.getD v none)
theorem wipeS_length (st : Sl) : ∀ vs, (wipeS st vs).length = st.length
  | [] => rfl
  | v :: vs => by unfold wipeS; rw [List.length_set, wipeS_length st vs]
theorem backS_length (st0 st : Sl) : ∀ vs, (backS st0 st vs).length = st.length
  | [] => rfl
  | v :: vs => by unfold backS; rw [List.length_set, backS_length st0 st vs]
theorem wipeS_some {st : Sl} {i : Nat} {x : R} : ∀ {vs : List Nat}, (wipeS st vs)[i]? = some (some x) → st[i]? = some (some x) ∧ i ∉ vs
  | [], h => ⟨h, by simp⟩
  | v :: vs, h => by
    unfold wipeS at h
    rw [List.getElem?_set] at h
    split at h
    · split at h <;> cases h
    · rename_i ne
      obtain ⟨h1, h2⟩ := wipeS_some h
      exact ⟨h1, by simp only [List.mem_cons, not_or]; exact ⟨fun e => ne e.symm, h2⟩⟩
theorem wipe_other {σ : St} {i : Nat} : ∀ {vs : List Nat}, i ∉ vs → (wipe σ vs)[i]? = σ[i]?
  | [], _ => rfl
  | v :: vs, h => by
    simp only [List.mem_cons, not_or] at h
    unfold wipe
    rw [List.getElem?_set_ne (fun e => h.1 e.symm)]
    exact wipe_other h.2
theorem backS_at {st0 st : Sl} {i : Nat} {x : R} : ∀ {vs : List Nat}, (backS st0 st vs)[i]? = some (some x) → (i ∈ vs ∧ st0[i]? = some (some x)) ∨ (i ∉ vs ∧ st[i]? = some (some x))
  | [], h => .inr ⟨by simp, h⟩
  | v :: vs, h => by
    unfold backS at h
    rw [List.getElem?_set] at h
    split at h
    · rename_i e; subst e
      split at h
      · refine .inl ⟨List.mem_cons_self, ?_⟩
        have h : st0.getD v none = some x := Option.some.inj h
        rw [List.getD_eq_getElem?_getD] at h
        cases q : st0[v]? with
        | none => rw [q] at h; cases h
        | some y => rw [q] at h; exact congrArg some h
      · cases h
    · rename_i ne
      rcases backS_at h with ⟨h1, h2⟩ | ⟨h1, h2⟩
      · exact .inl ⟨List.mem_cons_of_mem _ h1, h2⟩
      · exact .inr ⟨by simp only [List.mem_cons, not_or]; exact ⟨fun e => ne e.symm, h1⟩, h2⟩
theorem Sim.wipe (S : Sim T st σ B F H) (vs : List Nat) : Sim T (wipeS st vs) (L2.wipe σ vs) B F H := by
  refine ⟨S.exB, S.exF, S.dis, S.tup, by rw [wipeS_length, wipe_length]; exact S.len, fun i r h => ?_, fun i r v a h1 h2 h3 => ?_, fun i j r q v u a n h1 h2 h3 h4 h5 h6 => ?_⟩
  · obtain ⟨h1, h2⟩ := wipeS_some h
    obtain ⟨v, a, b⟩ := S.rel i r h1
    exact ⟨v, by rw [wipe_other h2]; exact a, b⟩
  · obtain ⟨g1, g2⟩ := wipeS_some h1
    rw [wipe_other g2] at h2
    exact S.own i r v a g1 h2 h3
  · obtain ⟨g1, g2⟩ := wipeS_some h1
    obtain ⟨g3, g4⟩ := wipeS_some h3
    rw [wipe_other g2] at h2
    rw [wipe_other g4] at h4
    exact S.sep i j r q v u a n g1 h2 g3 h4 h5 h6
/-- σ' has been stored into at vs alone -/
theorem Sim.backW {st' : Sl} (S : Sim T st σ B F H) {vs : List Nat} (no : ∀ i ∈ vs, isOwned (st.getD i none) = false) (e : Ex B B') (S' : Sim T st' (L2.wipe σ vs) B' F H') : Sim T (backS st st' vs) σ B' F H' := by
  have dd : ∀ {i : Nat} {r : R}, i ∈ vs → st[i]? = some (some r) → ∃ x, r = .d x := fun {i r} h1 h2 => by
    have := no i h1
    rw [List.getD_eq_getElem?_getD, h2] at this
    cases r with
    | d x => exact ⟨x, rfl⟩
    | _ => cases this
  refine ⟨S'.exB, S'.exF, S'.dis, S'.tup, by rw [backS_length]; have := S'.len; rwa [wipe_length] at this, fun i r h => ?_, fun i r v a h1 h2 h3 => ?_, fun i j r q v u a n h1 h2 h3 h4 h5 h6 => ?_⟩
  · rcases backS_at h with ⟨h1, h2⟩ | ⟨h1, h2⟩
    · obtain ⟨x, rfl⟩ := dd h1 h2
      obtain ⟨v, a, b⟩ := S.rel i _ h2
      exact ⟨v, a, Rep.mono e x b⟩
    · obtain ⟨v, a, b⟩ := S'.rel i r h2
      exact ⟨v, by rw [← wipe_other h1]; exact a, b⟩
  · rcases backS_at h1 with ⟨g1, g2⟩ | ⟨g1, g2⟩
    · obtain ⟨x, rfl⟩ := dd g1 g2; exact h3.elim
    · exact S'.own i r v a g2 (by rw [wipe_other g1]; exact h2) h3
  · rcases backS_at h1 with ⟨g1, g2⟩ | ⟨g1, g2⟩
    · obtain ⟨x, rfl⟩ := dd g1 g2; exact h5.elim
    · rcases backS_at h3 with ⟨g3, g4⟩ | ⟨g3, g4⟩
      · obtain ⟨x, rfl⟩ := dd g3 g4; exact h6.elim
      · exact S'.sep i j r q v u a n g2 (by rw [wipe_other g1]; exact h2) g4 (by rw [wipe_other g3]; exact h4) h5 h6
def lcL (g : D → Sl → Option Sl) (c : M Bool) (e : M D) (vs : List Nat) : List D → List D → Sl → Option (List D × Sl)
  | [], acc, s => some (acc, s)
  | d :: ds, acc, s => match g d s with
    | none => none
    | some s1 => match c s1 with
      | some (.v true, s2) => (match e s2 with
        | some (.v y, s3) => if acc.length < sizeLine then lcL g c e vs ds (acc ++ [y]) (wipeS s3 vs) else none
        | _ => none)
      | some (.v false, s2) => lcL g c e vs ds acc (wipeS s2 vs)
      | _ => none
def rLc (it : M (List D)) (g : D → Sl → Option Sl) (c : M Bool) (e : M D) (vs : List Nat) : M R := fun st => match it st with
  | some (.v ds, s) => if vs.all (fun i => !isOwned (s.getD i none)) then (match lcL g c e vs ds [] (wipeS s vs) with
      | some (ys, s') => some (.v (.ol ys), backS s s' vs)
      | none => none) else none
  | some (.x c, s) => some (.x c, s)
  | none => none
def cYes : M Bool := ret true
theorem semT_yes : SemT T E tYes cYes := by
  intro st σ B F H S o s h Q hQ
  cases h
  exact hQ B H (Ex.refl B) S
/-- a target within a block: it stores into the block's names alone -/
def SemGB (T : Tab) (vs : List Nat) (g : TG) (gf : D → Sl → Option Sl) : Prop := ∀ st σ B F H, Sim T st σ B F H → ∀ d v s, Rep T B d v → gf d st = some s → ∀ Q : St → Hp → Prop, (∀ σ', L2.wipe σ' vs = L2.wipe σ vs → Sim T s σ' B F H → Q σ' H) → g v σ H Q
theorem semR_lc {wi : TI} {it : M (List D)} {g : TG} {gf : D → Sl → Option Sl} {tt : TT} {c : M Bool} {te : TE} {e : M D} {vs : List Nat} (hi : SemI T E wi it) (hg : SemGB T vs g gf) (hc : SemT T (fun _ => E0) tt c) (he : SemE T (fun _ => E0) te e) (idem : ∀ σ : St, L2.wipe (L2.wipe σ vs) vs = L2.wipe σ vs) :
    SemR T E (tLc wi g tt te vs) (rLc it gf c e vs) := by
  intro st σ B F H S o s h Q hQ
  unfold rLc at h
  split at h
  · rename_i ds s0 e0
    split at h
    · rename_i hno
      split at h
      · rename_i ys s' el
        cases h
        refine hi st σ B F H S _ _ e0 _ fun B1 H1 x1 S1 J hJ D hD => ?_
        have Sw := S1.wipe vs
        have SD : Sim T (some (.ol []) :: wipeS s0 vs) (some (.ref D) :: L2.wipe σ vs) B1 F (upd H1 D (.lst [])) := Sw.alloc hD (fun _ z => nomatch z) (relR_ol upd_same reps_nil)
        refine ⟨fun i m H2 => i ≤ ds.length ∧ m = ds.length - i ∧ ∃ acc sI B2, Ex B1 B2 ∧ Sim T (some (.ol acc) :: sI) (some (.ref D) :: L2.wipe σ vs) B2 F H2 ∧ lcL gf c e vs (ds.drop i) acc sI = some (ys, s'), ⟨ds.length, Nat.zero_le _, by omega, [], _, B1, Ex.refl _, SD, el⟩, ?_⟩
        rintro i m H2 ⟨hle, rfl, acc, sI, B2, x2, S2, h2⟩
        by_cases hlt : i < ds.length
        · refine .inr ⟨hJ.go i H2 hlt (x2.trans S2.exB), ?_⟩
          rw [List.drop_eq_getElem_cons hlt] at h2
          have hget : ds[i]? = some ds[i] := List.getElem?_eq_getElem hlt
          generalize ds[i] = d at h2 hget
          unfold lcL at h2
          split at h2
          · cases h2
          · rename_i s3 eg
            refine ⟨fun H' => ∃ m', m' < ds.length - i ∧ (i + 1 ≤ ds.length ∧ m' = ds.length - (i + 1) ∧ ∃ acc sI B2, Ex B1 B2 ∧ Sim T (some (.ol acc) :: sI) (some (.ref D) :: L2.wipe σ vs) B2 F H' ∧ lcL gf c e vs (ds.drop (i + 1)) acc sI = some (ys, s')), fun H' z => z, fun x H3 hy => ?_⟩
            obtain ⟨B3, x3, hx⟩ := hJ.yld i d H2 x H3 B2 hget x2 S2.exB hy
            have S3 := S2.ext x3
            have S3h := S3.hide rfl
            refine hg sI _ B3 _ H3 S3h d x s3 hx eg _ fun σ4 k4 S4 => ⟨by rw [k4, idem], ?_⟩
            split at h2
            · rename_i s5 ec
              refine hc s3 σ4 B3 _ H3 S4 _ _ ec _ fun B5 H5 x5 S5 => ?_
              show if true = true then _ else _
              rw [if_pos rfl]
              split at h2
              · rename_i y s6 ee
                split at h2
                · rename_i hsz
                  refine he s5 σ4 B5 _ H5 S5 _ _ ee _ fun B6 H6 x6 S6 v hv => ?_
                  have SU := S3.unhide rfl (x5.trans x6) S6
                  obtain ⟨p, ws, ep, hp, hr⟩ := SU.top
                  cases ep
                  refine ⟨ws, hp, by rw [← hr.length]; exact hsz, _, by omega, hlt, rfl, acc ++ [y], wipeS s6 vs, B6, x2.trans (x3.b.trans (x5.trans x6)), ?_, h2⟩
                  have SC := SU.change (i := 0) (r' := .ol (acc ++ [y])) (o := .lst (ws ++ [v])) rfl rfl rfl (fun _ z => nomatch z) ⟨_, _, rfl, upd_same, hr.append (reps_cons hv reps_nil)⟩
                  have SC' : Sim T (some (.ol (acc ++ [y])) :: s6) (some (.ref D) :: σ4) B6 F (upd H6 D (.lst (ws ++ [v]))) := SC
                  have SW := (SC'.hide rfl).wipe vs
                  rw [k4, idem] at SW
                  exact SC'.unhide rfl (Ex.refl _) SW
                · cases h2
              · cases h2
            · rename_i s5 ec
              refine hc s3 σ4 B3 _ H3 S4 _ _ ec _ fun B5 H5 x5 S5 => ?_
              show if false = true then _ else _
              rw [if_neg Bool.false_ne_true]
              refine ⟨_, by omega, hlt, rfl, acc, wipeS s5 vs, B5, x2.trans (x3.b.trans x5), ?_, h2⟩
              have SW := S5.wipe vs
              rw [k4, idem] at SW
              exact S3.unhide rfl x5 SW
            · cases h2
        · have ei : i = ds.length := by omega
          subst ei
          refine .inl ⟨hJ.stop H2 (x2.trans S2.exB), ?_⟩
          rw [List.drop_length] at h2
          cases h2
          refine hQ _ B2 H2 (x1.trans x2) ?_
          have no : ∀ i ∈ vs, isOwned (s0.getD i none) = false := fun i hm => by
            have := List.all_eq_true.mp hno i hm
            simpa using this
          -- the list hidden, the names as they were, the list shown
          have Sh := S2.hide rfl
          have Sh0 : Sim T s' (L2.wipe σ vs) B2 (addF F H2 D) H2 := Sh
          have key : Sim T (backS s0 s' vs) σ B2 (addF F H2 D) H2 := by
            have dd : ∀ {i : Nat} {r : R}, i ∈ vs → s0[i]? = some (some r) → ∃ x, r = .d x := fun {i r} h1 h2 => by
              have := no i h1
              rw [List.getD_eq_getElem?_getD, h2] at this
              cases r with
              | d x => exact ⟨x, rfl⟩
              | _ => cases this
            refine ⟨Sh0.exB, Sh0.exF, Sh0.dis, Sh0.tup, by rw [backS_length]; have := Sh0.len; rwa [wipe_length] at this, fun i r h => ?_, fun i r v a h1 h2 h3 => ?_, fun i j r q v u a n h1 h2 h3 h4 h5 h6 => ?_⟩
            · rcases backS_at h with ⟨h1, h2⟩ | ⟨h1, h2⟩
              · obtain ⟨x, rfl⟩ := dd h1 h2
                obtain ⟨v, a, b⟩ := S1.rel i _ h2
                exact ⟨v, a, Rep.mono x2 x b⟩
              · obtain ⟨v, a, b⟩ := Sh0.rel i r h2
                exact ⟨v, by rw [← wipe_other h1]; exact a, b⟩
            · rcases backS_at h1 with ⟨g1, g2⟩ | ⟨g1, g2⟩
              · obtain ⟨x, rfl⟩ := dd g1 g2; exact h3.elim
              · exact Sh0.own i r v a g2 (by rw [wipe_other g1]; exact h2) h3
            · rcases backS_at h1 with ⟨g1, g2⟩ | ⟨g1, g2⟩
              · obtain ⟨x, rfl⟩ := dd g1 g2; exact h5.elim
              · rcases backS_at h3 with ⟨g3, g4⟩ | ⟨g3, g4⟩
                · obtain ⟨x, rfl⟩ := dd g3 g4; exact h6.elim
                · exact Sh0.sep i j r q v u a n g2 (by rw [wipe_other g1]; exact h2) g4 (by rw [wipe_other g3]; exact h4) h5 h6
          exact S2.unhide rfl (Ex.refl _) key
      · cases h
    · cases h
  · rename_i c s0 e0
    cases h
    exact hi st σ B F H S _ _ e0 _ fun d B1 H1 x1 S1 => hQ d B1 H1 x1 S1
  · cases h
theorem semGB_name {vs : List Nat} {i : Nat} (hw : ∀ (σ : St) x, L2.wipe (σ.set i (some x)) vs = L2.wipe σ vs) : SemGB T vs (gName i) (gN i) := by
  intro st σ B F H S d v s r h Q q
  cases h
  exact q _ (hw σ v) (Sim.store (S.push r) i)
end
end Fz

-- text Fz10
set_option Elab.async false
set_option linter.all false
set_option maxRecDepth 100000
set_option maxHeartbeats 2000000
namespace Fz
open PySem L2
/-! ### over the text: a piece of it, and what it reckons; X: one context, or those of a comprehension's block -/
section
variable {ι : Type} (T : Tab) (E : L2.St → XK) (X : ι → Cx)
def XE (e : Expr) (f : M D) : Prop := ∃ te, (∀ i, PE (X i) e te) ∧ SemE T E te f
def XR (e : Expr) (f : M R) : Prop := ∃ te, (∀ i, PE (X i) e te) ∧ SemR T E te f
def XT (e : Expr) (f : M Bool) : Prop := ∃ te, (∀ i, PT (X i) e te) ∧ SemT T E te f
def XW (e : Expr) (f : M Bool) : Prop := ∃ te, (∀ i, PW (X i) e te) ∧ SemT T E te f
def XA (es : List Expr) (f : M (List D)) : Prop := ∃ te, (∀ i, PA (X i) es te) ∧ SemA T E te f
def XAA (es : List Expr) (f : M (List Arg)) : Prop := ∃ te, (∀ i, PA (X i) es te) ∧ SemAA T E te f
def XO (e : Option Expr) (f : M (Option Int)) : Prop := ∃ te, (∀ i, PO (X i) e te) ∧ SemO T E te f
def XI (tg e : Expr) (f : M (List D)) : Prop := ∃ wi, (∀ i, PI (X i) tg e wi) ∧ SemI T E wi f
def XG (kp : Nat → Bool) (tg : Expr) (f : D → Sl → Option Sl) : Prop := ∃ g, (∀ i, PG (X i) tg g) ∧ SemG T kp g f
def XGs (kp : Nat → Bool) (tgs : List Expr) (f : List D → Sl → Option Sl) : Prop := ∃ g, (∀ i, PGs (X i) tgs g) ∧ SemGs T kp g f
def XS (kp : Nat → Bool) (st : Stmt) (f : MS) : Prop := ∃ t, (∀ i, PS (X i) st t) ∧ SemS T E kp t f
def XSs (kp : Nat → Bool) (st : List Stmt) (f : MS) : Prop := ∃ t, (∀ i, PSs (X i) st t) ∧ SemS T E kp t f
end
section
variable {ι : Type} {T : Tab} {E : L2.St → XK} {X : ι → Cx} {kp : Nat → Bool} {pos : Pos} {e a b c : Expr} {es : List Expr} {fa fb fc : M D} {fs : M (List D)} {fl : M (List Arg)} {r : M R} {x : Str}
/-! ### names and constants -/
theorem xe_var (i : Nat) (hN : ∀ j, (X j).N[i]? = some x := by intro j; rfl) (hv : ∀ j, Vis (X j).env.scope x := by intro j; first | exact Or.inl rfl | exact Or.inr (Or.inl rfl) | exact Or.inr (Or.inr rfl))
    (hd : (x == ("__debug__" : Str)) = false := by decide +kernel) (hcd : (x == ("__classdict__" : Str)) = false := by decide +kernel) : XE T E X (.Name x pos) (eVar i) := ⟨_, fun j => pe_var (hN j) (hv j) hd hcd, semE_var⟩
theorem xr_mv (i : Nat) (hN : ∀ j, (X j).N[i]? = some x := by intro j; rfl) (hv : ∀ j, Vis (X j).env.scope x := by intro j; first | exact Or.inl rfl | exact Or.inr (Or.inl rfl) | exact Or.inr (Or.inr rfl))
    (hd : (x == ("__debug__" : Str)) = false := by decide +kernel) (hcd : (x == ("__classdict__" : Str)) = false := by decide +kernel) : XR T E X (.Name x pos) (rMv i) := ⟨_, fun j => pe_var (hN j) (hv j) hd hcd, semR_mv⟩
theorem xe_int {i : Int} {j : Nat} : XE T E X (.Constant (.int i) j pos) (ret (.int i)) := ⟨_, fun _ => pe_int, semE_c fun _ => rfl⟩
theorem xe_bl {b : Bool} {j : Nat} : XE T E X (.Constant (.bool b) j pos) (ret (.bl b)) := ⟨_, fun _ => pe_bl, semE_c fun _ => rfl⟩
theorem xe_non {j : Nat} : XE T E X (.Constant .none j pos) (ret .non) := ⟨_, fun _ => pe_non, semE_c fun _ => rfl⟩
theorem xe_str {s : Str} {j : Nat} (h : PyData.strOk s = true := by decide +kernel) : XE T E X (.Constant (.str s) j pos) (ret (.str s)) := ⟨_, fun _ => pe_str, semE_c fun _ => ⟨rfl, h⟩⟩
/-- a constant of the module -/
theorem xe_glob {d : D} {v : V} {u : Value} (hm : ∀ j, (X j).mg x = some u) (r : RelV v u) (hr : ∀ B, Rep T B d v) (hg : ∀ j, Gl (X j) x := by intro j; rfl) (hd : (x == ("__debug__" : Str)) = false := by decide +kernel) : XE T E X (.Name x pos) (ret d) :=
  ⟨_, fun j => pe_glob (hg j) (hm j) r hd, semE_c hr⟩
theorem xe_fz (h : XR T E X e r) : XE T E X e (eFz (fun c => (T.flds c).length) r) := let ⟨_, h1, h2⟩ := h; ⟨_, h1, semE_fz h2⟩
theorem xr_d (h : XE T E X e fa) : XR T E X e (rD fa) := let ⟨_, h1, h2⟩ := h; ⟨_, h1, semR_d h2⟩
theorem xe_full (h : XE T E X e fa) : XE T E X e (eFull (fun c => (T.flds c).length) fa) := let ⟨_, h1, h2⟩ := h; ⟨_, h1, semE_all h2⟩
theorem xr_full (h : XR T E X e r) : XR T E X e (rFull (fun c => (T.flds c).length) r) := let ⟨_, h1, h2⟩ := h; ⟨_, h1, semR_all h2⟩
/-! ### operators -/
theorem xe_bin {op : Operator} {rr : R2} {g : D → D → Option D} (ho : ∀ j, OpR (X j) (binaryOp op) rr) (hp : Prim2 T rr g) (ha : XE T E X a fa) (hb : XE T E X b fb) : XE T E X (.BinOp a op b pos) (eBin g fa fb) :=
  let ⟨_, a1, a2⟩ := ha; let ⟨_, b1, b2⟩ := hb; ⟨_, fun j => pe_op (ho j) (a1 j) (b1 j), semE_op hp a2 b2⟩
theorem xe_add (hK : ∀ j, (X j).K = T.K := by intro j; rfl) (ha : XE T E X a fa) (hb : XE T E X b fb) : XE T E X (.BinOp a .Add b pos) (eBin dAdd fa fb) := xe_bin (fun j => by rw [← hK j]; exact op_addA) p_add ha hb
theorem xe_sub (ha : XE T E X a fa) (hb : XE T E X b fb) : XE T E X (.BinOp a .Sub b pos) (eBin dSub fa fb) := xe_bin (fun j => op_sub) p_sub ha hb
theorem xe_mul (ha : XE T E X a fa) (hb : XE T E X b fb) : XE T E X (.BinOp a .Mult b pos) (eBin dMul fa fb) := xe_bin (fun j => op_mul) p_mul ha hb
theorem xe_mod (ha : XE T E X a fa) (hb : XE T E X b fb) : XE T E X (.BinOp a .Mod b pos) (eBin dMod fa fb) := xe_bin (fun j => op_mod) p_mod ha hb
theorem xe_div (ha : XE T E X a fa) (hb : XE T E X b fb) : XE T E X (.BinOp a .FloorDiv b pos) (eBin dDiv fa fb) := xe_bin (fun j => op_fdiv) p_div ha hb
theorem xe_neg (ha : XE T E X a fa) : XE T E X (.UnaryOp .USub a pos) (eUn (fun x => match x with | .int i => some (.int (-i)) | _ => none) fa) := by
  obtain ⟨_, a1, a2⟩ := ha
  refine ⟨_, fun j => pe_un un_neg (a1 j), semE_un (fun x z vx B H Q e hx hz k => ?_) a2⟩
  split at hz
  · cases hz; cases rep_int hx
    exact ⟨_, rfl, k _ B H (.refl e) rfl⟩
  · cases hz
theorem xe_cmp {op : CmpOp} {rr : R2} {g : D → D → Option D} (ho : ∀ j, OpR (X j) (compareOp op) rr) (hp : Prim2 T rr g) (hm : behindInMarks op b = false) (ha : XE T E X a fa) (hb : XE T E X b fb) : XE T E X (.Compare a [op] [b] pos) (eBin g fa fb) :=
  let ⟨_, a1, a2⟩ := ha; let ⟨_, b1, b2⟩ := hb; ⟨_, fun j => pe_cmpR (ho j) (a1 j) (b1 j) hm, semE_op hp a2 b2⟩
/-- the room for comparisons -/
def Rm (X : ι → Cx) : Prop := ∀ j, (X j).A.units + 65 < cLine
theorem xe_eq (hu : Rm X) (hK : ∀ j, (X j).K = T.K := by intro j; rfl) (ha : XE T E X a fa) (hb : XE T E X b fb) : XE T E X (.Compare a [.Eq] [b] pos) (eBin dEq fa fb) := xe_cmp (fun j => by rw [← hK j]; exact op_eqD (by have := hu j; omega)) p_eq (nomark _) ha hb
theorem xe_ne (hu : Rm X) (hK : ∀ j, (X j).K = T.K := by intro j; rfl) (ha : XE T E X a fa) (hb : XE T E X b fb) : XE T E X (.Compare a [.NotEq] [b] pos) (eBin dNe fa fb) := xe_cmp (fun j => by rw [← hK j]; exact op_neD (by have := hu j; omega)) p_ne (nomark _) ha hb
theorem xe_lt (ha : XE T E X a fa) (hb : XE T E X b fb) : XE T E X (.Compare a [.Lt] [b] pos) (eBin dLt fa fb) := xe_cmp (fun j => op_ltA) p_lt (nomark _) ha hb
theorem xe_gt (ha : XE T E X a fa) (hb : XE T E X b fb) : XE T E X (.Compare a [.Gt] [b] pos) (eBin dGt fa fb) := xe_cmp (fun j => op_gtA) p_gt (nomark _) ha hb
theorem xe_le (ha : XE T E X a fa) (hb : XE T E X b fb) : XE T E X (.Compare a [.LtE] [b] pos) (eBin dLe fa fb) := xe_cmp (fun j => op_leA) p_le (nomark _) ha hb
theorem xe_ge (ha : XE T E X a fa) (hb : XE T E X b fb) : XE T E X (.Compare a [.GtE] [b] pos) (eBin dGe fa fb) := xe_cmp (fun j => op_geA) p_ge (nomark _) ha hb
theorem xe_in (hu : Rm X) (hK : ∀ j, (X j).K = T.K := by intro j; rfl) (hm : behindInMarks .In b = false := by rfl) (ha : XE T E X a fa) (hb : XE T E X b fb) : XE T E X (.Compare a [.In] [b] pos) (eBin dIn fa fb) := xe_cmp (fun j => by rw [← hK j]; exact op_inA (hu j)) p_in hm ha hb
theorem xe_notIn (hu : Rm X) (hK : ∀ j, (X j).K = T.K := by intro j; rfl) (hm : behindInMarks .NotIn b = false := by rfl) (ha : XE T E X a fa) (hb : XE T E X b fb) : XE T E X (.Compare a [.NotIn] [b] pos) (eBin dNotIn fa fb) := xe_cmp (fun j => by rw [← hK j]; exact op_notInA (hu j)) p_notIn hm ha hb
theorem xe_is (ha : XE T E X a fa) (hb : XE T E X b fb) : XE T E X (.Compare a [.Is] [b] pos) (eBin dIs fa fb) := xe_cmp (fun j => op_isA) p_is (nomark _) ha hb
theorem xe_isNot (ha : XE T E X a fa) (hb : XE T E X b fb) : XE T E X (.Compare a [.IsNot] [b] pos) (eBin dIsNot fa fb) := xe_cmp (fun j => op_isNotA) p_isNot (nomark _) ha hb
/-! ### tests -/
def eTst (f : M D) : M Bool := bnd f fun x => opt (match x with | .bl b => some b | _ => none)
theorem semT_tst {te : TE} (h : SemE T E te fa) : SemT T E (tTest te) (eTst fa) := by
  intro st σ B F H S o s hf Q hQ
  refine okx_bnd hf hQ (fun o1 s1 e1 q => h st σ B F H S o1 s1 e1 _ q) fun a s1 B1 H1 _ h2 e1 S1 hQ1 v hv => ?_
  obtain ⟨z, hz, rfl, rfl⟩ := opt_some h2
  split at hz
  · cases hz; cases rep_bl hv
    exact ⟨_, rfl, hQ1 B1 H1 (Ex.refl _) S1⟩
  · cases hz
theorem xt_cmp {op : CmpOp} {rr : R2} {g : D → D → Option D} (ho : ∀ j, OpR (X j) (compareOp op) rr) (hp : Prim2 T rr g) (hm : behindInMarks op b = false) (ha : XE T E X a fa) (hb : XE T E X b fb) : XT T E X (.Compare a [op] [b] pos) (eTst (eBin g fa fb)) :=
  let ⟨_, a1, a2⟩ := ha; let ⟨_, b1, b2⟩ := hb; ⟨_, fun j => pt_cmpR (ho j) (a1 j) (b1 j) hm, semT_tst (semE_op hp a2 b2)⟩
theorem xt_eq (hu : Rm X) (hK : ∀ j, (X j).K = T.K := by intro j; rfl) (ha : XE T E X a fa) (hb : XE T E X b fb) : XT T E X (.Compare a [.Eq] [b] pos) (eTst (eBin dEq fa fb)) := xt_cmp (fun j => by rw [← hK j]; exact op_eqD (by have := hu j; omega)) p_eq (nomark _) ha hb
theorem xt_ne (hu : Rm X) (hK : ∀ j, (X j).K = T.K := by intro j; rfl) (ha : XE T E X a fa) (hb : XE T E X b fb) : XT T E X (.Compare a [.NotEq] [b] pos) (eTst (eBin dNe fa fb)) := xt_cmp (fun j => by rw [← hK j]; exact op_neD (by have := hu j; omega)) p_ne (nomark _) ha hb
theorem xt_lt (ha : XE T E X a fa) (hb : XE T E X b fb) : XT T E X (.Compare a [.Lt] [b] pos) (eTst (eBin dLt fa fb)) := xt_cmp (fun j => op_ltA) p_lt (nomark _) ha hb
theorem xt_gt (ha : XE T E X a fa) (hb : XE T E X b fb) : XT T E X (.Compare a [.Gt] [b] pos) (eTst (eBin dGt fa fb)) := xt_cmp (fun j => op_gtA) p_gt (nomark _) ha hb
theorem xt_le (ha : XE T E X a fa) (hb : XE T E X b fb) : XT T E X (.Compare a [.LtE] [b] pos) (eTst (eBin dLe fa fb)) := xt_cmp (fun j => op_leA) p_le (nomark _) ha hb
theorem xt_ge (ha : XE T E X a fa) (hb : XE T E X b fb) : XT T E X (.Compare a [.GtE] [b] pos) (eTst (eBin dGe fa fb)) := xt_cmp (fun j => op_geA) p_ge (nomark _) ha hb
theorem xt_in (hu : Rm X) (hK : ∀ j, (X j).K = T.K := by intro j; rfl) (hm : behindInMarks .In b = false := by rfl) (ha : XE T E X a fa) (hb : XE T E X b fb) : XT T E X (.Compare a [.In] [b] pos) (eTst (eBin dIn fa fb)) := xt_cmp (fun j => by rw [← hK j]; exact op_inA (hu j)) p_in hm ha hb
theorem xt_notIn (hu : Rm X) (hK : ∀ j, (X j).K = T.K := by intro j; rfl) (hm : behindInMarks .NotIn b = false := by rfl) (ha : XE T E X a fa) (hb : XE T E X b fb) : XT T E X (.Compare a [.NotIn] [b] pos) (eTst (eBin dNotIn fa fb)) := xt_cmp (fun j => by rw [← hK j]; exact op_notInA (hu j)) p_notIn hm ha hb
theorem xt_is (ha : XE T E X a fa) (hb : XE T E X b fb) : XT T E X (.Compare a [.Is] [b] pos) (eTst (eBin dIs fa fb)) := xt_cmp (fun j => op_isA) p_is (nomark _) ha hb
theorem xt_isNot (ha : XE T E X a fa) (hb : XE T E X b fb) : XT T E X (.Compare a [.IsNot] [b] pos) (eTst (eBin dIsNot fa fb)) := xt_cmp (fun j => op_isNotA) p_isNot (nomark _) ha hb
/-- any other expression that gives a truth -/
theorem xt_val (ha : XE T E X e fa) (he : ∀ j whole, isTrue e (X j).env whole = (do let v ← whole; standAt e.pos; holding [v] (truthy v)) := by intro _ _; rfl) : XT T E X e (eTst fa) :=
  let ⟨_, a1, a2⟩ := ha; ⟨_, fun j => pt_val (a1 j) (he j), semT_tst a2⟩
/-- a chain of two comparisons -/
def eChain (g g' : D → D → Option D) (fa fb fc : M D) : M D := bnd fa fun x => bnd fb fun y => bnd (opt (g x y)) fun z => match z with
  | .bl true => bnd fc fun w => opt (g' y w)
  | .bl false => ret (.bl false)
  | _ => fun _ => none
theorem semE_chain {r1 r2 : R2} {g g' : D → D → Option D} {ta tb tc : TE} (h1 : Prim2 T r1 g) (h2 : Prim2 T r2 g') (ha : SemE T E ta fa) (hb : SemE T E tb fb) (hc : SemE T E tc fc) : SemE T E (tChain r1 r2 ta tb tc) (eChain g g' fa fb fc) := by
  intro st σ B F H S o s h Q hQ
  refine okx_bnd h hQ (fun o1 s1 e1 q => ha st σ B F H S o1 s1 e1 _ q) fun a s1 B1 H1 _ h2' e1 S1 hQ1 v hv => ?_
  refine okx_bnd h2' hQ1 (fun o1 s2 e2 q => hb s1 σ B1 F H1 S1 o1 s2 e2 _ q) fun b s2 B2 H2 _ h3 e2 S2 hQ2 u hu => ?_
  rcases bnd_some h3 with ⟨c, e3, _⟩ | ⟨z, s3, e3, h4⟩
  · obtain ⟨_, _, h5, _⟩ := opt_some e3; cases h5
  · obtain ⟨z', hz, ez, es⟩ := opt_some e3
    cases ez
    subst es
    refine h1 a b _ v u B2 H2 _ S2.exB (Rep.mono e2 a hv) hu hz fun w B3 H3 x3 hw => ?_
    have S3 := S2.ext x3
    split at h4
    · cases rep_bl hw
      refine ⟨true, rfl, ?_⟩
      rw [if_pos rfl]
      refine okx_bnd h4 (hQ2.weak x3.b fun _ _ _ _ _ q => q) (fun o1 s4 e4 q => hc _ σ B3 F H3 S3 o1 s4 e4 _ q) fun k s4 B4 H4 _ h5 e4 S4 hQ4 y hy => ?_
      obtain ⟨z2, hz2, rfl, rfl⟩ := opt_some h5
      exact h2 b k z2 u y B4 H4 _ S4.exB (Rep.mono (x3.b.trans e4) b hu) hy hz2 fun w' B5 H5 x5 hw' => hQ4 B5 H5 x5.b (S4.ext x5) w' hw'
    · cases rep_bl hw
      refine ⟨false, rfl, ?_⟩
      rw [if_neg Bool.false_ne_true]
      cases h4
      exact hQ2 B3 H3 x3.b S3 _ rfl
    · cases h4
theorem xt_chainLe (hm : lastMarks [.LtE, .LtE] [b, c] = false := by with_unfolding_all rfl) (ha : XE T E X a fa) (hb : XE T E X b fb) (hc : XE T E X c fc) : XT T E X (.Compare a [.LtE, .LtE] [b, c] pos) (eTst (eChain dLe dLe fa fb fc)) :=
  let ⟨_, a1, a2⟩ := ha; let ⟨_, b1, b2⟩ := hb; let ⟨_, c1, c2⟩ := hc; ⟨_, fun j => pt_chain op_leA op_leA (a1 j) (b1 j) (c1 j) hm, semT_tst (semE_chain p_le p_le a2 b2 c2)⟩
theorem xe_chainLe (hm : lastMarks [.LtE, .LtE] [b, c] = false := by with_unfolding_all rfl) (ha : XE T E X a fa) (hb : XE T E X b fb) (hc : XE T E X c fc) : XE T E X (.Compare a [.LtE, .LtE] [b, c] pos) (eChain dLe dLe fa fb fc) :=
  let ⟨_, a1, a2⟩ := ha; let ⟨_, b1, b2⟩ := hb; let ⟨_, c1, c2⟩ := hc; ⟨_, fun j => pe_chain op_leA op_leA (a1 j) (b1 j) (c1 j) hm, semE_chain p_le p_le a2 b2 c2⟩
def cAnd (f g : M Bool) : M Bool := bnd f fun b => if b = true then g else ret false
def cOr (f g : M Bool) : M Bool := bnd f fun b => if b = true then ret true else g
def cNot (f : M Bool) : M Bool := bnd f fun b => ret !b
variable {f g : M Bool} {rest : List Expr}
theorem semT_and {t u : TT} (h1 : SemT T E t f) (h2 : SemT T E u g) : SemT T E (tAnd t u) (cAnd f g) := by
  intro st σ B F H S o s h Q hQ
  refine okx_bnd h hQ (fun o1 s1 e1 q => h1 st σ B F H S o1 s1 e1 _ q) fun b s1 B1 H1 _ h3 e1 S1 hQ1 => ?_
  cases b with
  | true => exact h2 s1 σ B1 F H1 S1 o s h3 Q hQ1
  | false => cases h3; exact hQ1 B1 H1 (Ex.refl _) S1
theorem semT_or {t u : TT} (h1 : SemT T E t f) (h2 : SemT T E u g) : SemT T E (tOr t u) (cOr f g) := by
  intro st σ B F H S o s h Q hQ
  refine okx_bnd h hQ (fun o1 s1 e1 q => h1 st σ B F H S o1 s1 e1 _ q) fun b s1 B1 H1 _ h3 e1 S1 hQ1 => ?_
  cases b with
  | false => exact h2 s1 σ B1 F H1 S1 o s h3 Q hQ1
  | true => cases h3; exact hQ1 B1 H1 (Ex.refl _) S1
theorem semT_not {t : TT} (h1 : SemT T E t f) : SemT T E (tNot t) (cNot f) := by
  intro st σ B F H S o s h Q hQ
  refine okx_bnd h hQ (fun o1 s1 e1 q => h1 st σ B F H S o1 s1 e1 _ q) fun b s1 B1 H1 _ h3 e1 S1 hQ1 => ?_
  cases h3
  exact hQ1 B1 H1 (Ex.refl _) S1
theorem xw_and1 (ha : XT T E X a f) : XW T E X (.BoolOp .And [a] pos) f := let ⟨_, a1, a2⟩ := ha; ⟨_, fun j => pw_and1 (a1 j), a2⟩
theorem xw_or1 (ha : XT T E X a f) : XW T E X (.BoolOp .Or [a] pos) f := let ⟨_, a1, a2⟩ := ha; ⟨_, fun j => pw_or1 (a1 j), a2⟩
theorem xw_and (ha : XT T E X a f) (hb : XW T E X (.BoolOp .And (b :: rest) pos) g) : XW T E X (.BoolOp .And (a :: b :: rest) pos) (cAnd f g) := let ⟨_, a1, a2⟩ := ha; let ⟨_, b1, b2⟩ := hb; ⟨_, fun j => pw_and (a1 j) (b1 j), semT_and a2 b2⟩
theorem xw_or (ha : XT T E X a f) (hb : XW T E X (.BoolOp .Or (b :: rest) pos) g) : XW T E X (.BoolOp .Or (a :: b :: rest) pos) (cOr f g) := let ⟨_, a1, a2⟩ := ha; let ⟨_, b1, b2⟩ := hb; ⟨_, fun j => pw_or (a1 j) (b1 j), semT_or a2 b2⟩
theorem xt_w (h : XW T E X e f) : XT T E X e f := let ⟨_, a1, a2⟩ := h; ⟨_, fun j => (a1 j).pt, a2⟩
theorem xt_not (ha : XT T E X a f) : XT T E X (.UnaryOp .Not a pos) (cNot f) := let ⟨_, a1, a2⟩ := ha; ⟨_, fun j => pt_not (a1 j), semT_not a2⟩
/-- and, or, not as values (truths) -/
def eAnd (fa fb : M D) : M D := bnd fa fun x => match x with
  | .bl true => fb
  | .bl false => ret (.bl false)
  | _ => fun _ => none
def eOr (fa fb : M D) : M D := bnd fa fun x => match x with
  | .bl false => fb
  | .bl true => ret (.bl true)
  | _ => fun _ => none
def eNot (fa : M D) : M D := bnd fa fun x => opt (match x with | .bl b => some (.bl !b) | _ => none)
theorem semE_and {ta tb : TE} (ha : SemE T E ta fa) (hb : SemE T E tb fb) : SemE T E (tAndV ta tb) (eAnd fa fb) := by
  intro st σ B F H S o s h Q hQ
  refine okx_bnd h hQ (fun o1 s1 e1 q => ha st σ B F H S o1 s1 e1 _ q) fun a s1 B1 H1 _ h2 e1 S1 hQ1 v hv => ?_
  split at h2
  · cases rep_bl hv
    refine ⟨true, rfl, ?_⟩
    rw [if_pos rfl]
    exact hb s1 σ B1 F H1 S1 o s h2 Q hQ1
  · cases rep_bl hv
    refine ⟨false, rfl, ?_⟩
    rw [if_neg Bool.false_ne_true]
    cases h2
    exact hQ1 B1 H1 (Ex.refl _) S1 _ rfl
  · cases h2
theorem semE_or {ta tb : TE} (ha : SemE T E ta fa) (hb : SemE T E tb fb) : SemE T E (tOrV ta tb) (eOr fa fb) := by
  intro st σ B F H S o s h Q hQ
  refine okx_bnd h hQ (fun o1 s1 e1 q => ha st σ B F H S o1 s1 e1 _ q) fun a s1 B1 H1 _ h2 e1 S1 hQ1 v hv => ?_
  split at h2
  · cases rep_bl hv
    refine ⟨false, rfl, ?_⟩
    rw [if_neg Bool.false_ne_true]
    exact hb s1 σ B1 F H1 S1 o s h2 Q hQ1
  · cases rep_bl hv
    refine ⟨true, rfl, ?_⟩
    rw [if_pos rfl]
    cases h2
    exact hQ1 B1 H1 (Ex.refl _) S1 _ rfl
  · cases h2
theorem semE_not {ta : TE} (ha : SemE T E ta fa) : SemE T E (tNotV ta) (eNot fa) := by
  intro st σ B F H S o s h Q hQ
  refine okx_bnd h hQ (fun o1 s1 e1 q => ha st σ B F H S o1 s1 e1 _ q) fun a s1 B1 H1 _ h2 e1 S1 hQ1 v hv => ?_
  obtain ⟨z, hz, rfl, rfl⟩ := opt_some h2
  split at hz
  · cases hz; cases rep_bl hv
    exact ⟨_, rfl, hQ1 B1 H1 (Ex.refl _) S1 _ rfl⟩
  · cases hz
theorem xe_one {op : BoolOp} (ha : XE T E X a fa) : XE T E X (.BoolOp op [a] pos) fa := let ⟨_, a1, a2⟩ := ha; ⟨_, fun j => pe_one (a1 j), a2⟩
theorem xe_and (ha : XE T E X a fa) (hb : XE T E X (.BoolOp .And (b :: rest) pos) fb) : XE T E X (.BoolOp .And (a :: b :: rest) pos) (eAnd fa fb) := let ⟨_, a1, a2⟩ := ha; let ⟨_, b1, b2⟩ := hb; ⟨_, fun j => pe_and (a1 j) (b1 j), semE_and a2 b2⟩
theorem xe_or (ha : XE T E X a fa) (hb : XE T E X (.BoolOp .Or (b :: rest) pos) fb) : XE T E X (.BoolOp .Or (a :: b :: rest) pos) (eOr fa fb) := let ⟨_, a1, a2⟩ := ha; let ⟨_, b1, b2⟩ := hb; ⟨_, fun j => pe_or (a1 j) (b1 j), semE_or a2 b2⟩
theorem xe_not (ha : XE T E X a fa) : XE T E X (.UnaryOp .Not a pos) (eNot fa) := let ⟨_, a1, a2⟩ := ha; ⟨_, fun j => pe_not (a1 j), semE_not a2⟩
def rIf (c : M Bool) (p q : M R) : M R := bnd c fun b => if b = true then p else q
def eIf (c : M Bool) (p q : M D) : M D := bnd c fun b => if b = true then p else q
theorem semE_if {tc : TT} {ta tb : TE} (hc : SemT T E tc f) (ha : SemE T E ta fa) (hb : SemE T E tb fb) : SemE T E (tIf tc ta tb) (eIf f fa fb) := by
  intro st σ B F H S o s h Q hQ
  refine okx_bnd h hQ (fun o1 s1 e1 q => hc st σ B F H S o1 s1 e1 _ q) fun b s1 B1 H1 _ h3 e1 S1 hQ1 => ?_
  cases b with
  | true => exact ha s1 σ B1 F H1 S1 o s h3 Q hQ1
  | false => exact hb s1 σ B1 F H1 S1 o s h3 Q hQ1
theorem semR_if {tc : TT} {ta tb : TE} {p q : M R} (hc : SemT T E tc f) (ha : SemR T E ta p) (hb : SemR T E tb q) : SemR T E (tIf tc ta tb) (rIf f p q) := by
  intro st σ B F H S o s h Q hQ
  rcases bnd_some h with ⟨c, e1, rfl⟩ | ⟨b, s1, e1, h2⟩
  · exact hc st σ B F H S _ _ e1 _ hQ
  · refine hc st σ B F H S _ _ e1 _ fun B1 H1 x1 S1 => ?_
    have hQ1 : Okr T (E σ) o s σ B1 F (fun v _ H' => Q v H') := by
      cases o with
      | v r => exact fun v B2 H2 x2 S2 => hQ v B2 H2 (x1.trans x2) S2
      | x c => exact fun d B2 H2 x2 S2 => hQ d B2 H2 (x1.trans x2) S2
    cases b with
    | true => exact ha s1 σ B1 F H1 S1 o s h2 Q hQ1
    | false => exact hb s1 σ B1 F H1 S1 o s h2 Q hQ1
theorem xe_if (hc : XT T E X c f) (ha : XE T E X a fa) (hb : XE T E X b fb) : XE T E X (.IfExp c a b pos) (eIf f fa fb) := let ⟨_, c1, c2⟩ := hc; let ⟨_, a1, a2⟩ := ha; let ⟨_, b1, b2⟩ := hb; ⟨_, fun j => pe_ifExp (c1 j) (a1 j) (b1 j), semE_if c2 a2 b2⟩
theorem xr_if {p q : M R} (hc : XT T E X c f) (ha : XR T E X a p) (hb : XR T E X b q) : XR T E X (.IfExp c a b pos) (rIf f p q) := let ⟨_, c1, c2⟩ := hc; let ⟨_, a1, a2⟩ := ha; let ⟨_, b1, b2⟩ := hb; ⟨_, fun j => pe_ifExp (c1 j) (a1 j) (b1 j), semR_if c2 a2 b2⟩
/-! ### displays, items, slices -/
theorem xa_nil : XA T E X [] eNil := ⟨_, fun _ => pa_nil, semA_nil⟩
theorem xa_cons (ha : XE T E X e fa) (hr : XA T E X es fs) (hs : ∀ j, starEach (e :: es) (X j).env = (false, eval e (X j).env) :: starEach es (X j).env := by intro j; rfl) : XA T E X (e :: es) (eCons fa fs) := let ⟨_, a1, a2⟩ := ha; let ⟨_, b1, b2⟩ := hr; ⟨_, fun j => pa_cons (a1 j) (b1 j) (hs j), semA_cons a2 b2⟩
theorem xaa_nil : XAA T E X [] aNil := ⟨_, fun _ => pa_nil, semAA_nil⟩
theorem xaa_v (ha : XE T E X e fa) (hr : XAA T E X es fl) (hs : ∀ j, starEach (e :: es) (X j).env = (false, eval e (X j).env) :: starEach es (X j).env := by intro j; rfl) : XAA T E X (e :: es) (aV fa fl) := let ⟨_, a1, a2⟩ := ha; let ⟨_, b1, b2⟩ := hr; ⟨_, fun j => pa_cons (a1 j) (b1 j) (hs j), semAA_v a2 b2⟩
theorem xaa_o (i : Nat) (hr : XAA T E X es fl) (hN : ∀ j, (X j).N[i]? = some x := by intro j; rfl) (hv : ∀ j, Vis (X j).env.scope x := by intro j; first | exact Or.inl rfl | exact Or.inr (Or.inl rfl) | exact Or.inr (Or.inr rfl))
    (hd : (x == ("__debug__" : Str)) = false := by decide +kernel) (hcd : (x == ("__classdict__" : Str)) = false := by decide +kernel) (hs : ∀ j, starEach (.Name x pos :: es) (X j).env = (false, eval (.Name x pos) (X j).env) :: starEach es (X j).env := by intro j; rfl) : XAA T E X (.Name x pos :: es) (aO i fl) :=
  let ⟨_, b1, b2⟩ := hr; ⟨_, fun j => pa_cons (pe_var (hN j) (hv j) hd hcd) (b1 j) (hs j), semAA_o b2⟩
theorem xe_tup {k : Nat} (h : XA T E X es fs) : XE T E X (.Tuple es k pos) (eTup fs) := let ⟨_, a1, a2⟩ := h; ⟨_, fun j => pe_tup (a1 j), semE_tup a2⟩
theorem xr_lst (h : XA T E X es fs) : XR T E X (.List es pos) (rLst fs) := let ⟨_, a1, a2⟩ := h; ⟨_, fun j => pe_lst (a1 j), semR_lst a2⟩
theorem xe_ix (hK : ∀ j, (X j).K = T.K := by intro j; rfl) (ha : XE T E X a fa) (hb : XE T E X b fb) (hs : PlainIx b := by exact fun _ _ => rfl) : XE T E X (.Subscript a b pos) (eBin dIx fa fb) :=
  let ⟨_, a1, a2⟩ := ha; let ⟨_, b1, b2⟩ := hb; ⟨_, fun j => pe_ix (by rw [← hK j]; exact ix_seq) (a1 j) (b1 j) hs, semE_op p_ix a2 b2⟩
theorem xo_none : XO T E X none oNone := ⟨_, fun _ => po_none, semO_none⟩
theorem xo_some (h : XE T E X e fa) : XO T E X (some e) (oSome fa) := let ⟨_, a1, a2⟩ := h; ⟨_, fun j => po_some (a1 j), semO_some a2⟩
theorem xe_sl {lo hi : Option Expr} {fl fh : M (Option Int)} {p2 : Pos} (hK : ∀ j, (X j).K = T.K := by intro j; rfl) (ha : XE T E X e fa) (hl : XO T E X lo fl) (hh : XO T E X hi fh) : XE T E X (.Subscript e (.Slice lo hi none p2) pos) (eSl fa fl fh) :=
  let ⟨_, a1, a2⟩ := ha; let ⟨_, b1, b2⟩ := hl; let ⟨_, c1, c2⟩ := hh; ⟨_, fun j => pe_slice (by rw [← hK j]; exact sl_ts) (a1 j) (b1 j) (c1 j), semE_sl a2 b2 c2⟩
theorem xr_sl {lo hi : Option Expr} {fl fh : M (Option Int)} {p2 : Pos} (hK : ∀ j, (X j).K = T.K := by intro j; rfl) (ha : XE T E X e fa) (hl : XO T E X lo fl) (hh : XO T E X hi fh) : XR T E X (.Subscript e (.Slice lo hi none p2) pos) (rSlL' fa fl fh) :=
  let ⟨_, a1, a2⟩ := ha; let ⟨_, b1, b2⟩ := hl; let ⟨_, c1, c2⟩ := hh; ⟨_, fun j => pe_slice (by rw [← hK j]; exact sl_list) (a1 j) (b1 j) (c1 j), semR_sl a2 b2 c2⟩
/-! ### built-ins by name -/
theorem xe_callB {id : String} {rr : List V → Hp → VK → Prop} {g : List D → Option D} {p : Pos} (hc : ∀ j, CallR (X j) (.builtin id) rr) (hp : PrimN T rr g) (hm : ∀ j, (X j).mg x = none) (hv : bootBuiltins x = some (.builtin id)) (ha : XA T E X (e :: es) fs)
    (hg : ∀ j, Gl (X j) x := by intro j; rfl) (hn : x ≠ "__name__" := by decide +kernel) (hdb : (x == ("__debug__" : Str)) = false := by decide +kernel) (he : ∀ j, starEach (e :: es) (X j).env = (false, eval e (X j).env) :: starEach es (X j).env := by intro j; rfl)
    (hpl : ∀ j, (backTo pos (starEach es (X j).env)).any (·.1) = false := by intro j; rfl) : XE T E X (.Call (.Name x p) (e :: es) [] pos) (eOp g fs) :=
  let ⟨_, a1, a2⟩ := ha; ⟨_, fun j => pe_callB (hc j) (hg j) (hm j) hv (a1 j) hn hdb (he j) (hpl j), semE_callN hp a2⟩
theorem xe_callTy {Ty : String} {rr : List V → Hp → VK → Prop} {g : List D → Option D} {p : Pos} (hc : ∀ j, CallR (X j) (.type Ty) rr) (hp : PrimN T rr g) (hm : ∀ j, (X j).mg x = none) (hv : bootBuiltins x = some (.type Ty)) (ha : XA T E X (e :: es) fs)
    (hg : ∀ j, Gl (X j) x := by intro j; rfl) (hn : x ≠ "__name__" := by decide +kernel) (hdb : (x == ("__debug__" : Str)) = false := by decide +kernel) (he : ∀ j, starEach (e :: es) (X j).env = (false, eval e (X j).env) :: starEach es (X j).env := by intro j; rfl)
    (hpl : ∀ j, (backTo pos (starEach es (X j).env)).any (·.1) = false := by intro j; rfl) : XE T E X (.Call (.Name x p) (e :: es) [] pos) (eOp g fs) :=
  let ⟨_, a1, a2⟩ := ha; ⟨_, fun j => pe_callTy (hc j) (hg j) (hm j) hv (a1 j) hn hdb (he j) (hpl j), semE_callN hp a2⟩
theorem xr_callTy {Ty : String} {rr : List V → Hp → VK → Prop} {g : List D → Option (List D)} {p : Pos} (hc : ∀ j, CallR (X j) (.type Ty) rr) (hp : PrimL T rr g) (hm : ∀ j, (X j).mg x = none) (hv : bootBuiltins x = some (.type Ty)) (ha : XA T E X (e :: es) fs)
    (hg : ∀ j, Gl (X j) x := by intro j; rfl) (hn : x ≠ "__name__" := by decide +kernel) (hdb : (x == ("__debug__" : Str)) = false := by decide +kernel) (he : ∀ j, starEach (e :: es) (X j).env = (false, eval e (X j).env) :: starEach es (X j).env := by intro j; rfl)
    (hpl : ∀ j, (backTo pos (starEach es (X j).env)).any (·.1) = false := by intro j; rfl) : XR T E X (.Call (.Name x p) (e :: es) [] pos) (rOp g fs) :=
  let ⟨_, a1, a2⟩ := ha; ⟨_, fun j => pe_callTy (hc j) (hg j) (hm j) hv (a1 j) hn hdb (he j) (hpl j), semR_callL hp a2⟩
theorem xr_callB {id : String} {rr : List V → Hp → VK → Prop} {g : List D → Option (List D)} {p : Pos} (hc : ∀ j, CallR (X j) (.builtin id) rr) (hp : PrimL T rr g) (hm : ∀ j, (X j).mg x = none) (hv : bootBuiltins x = some (.builtin id)) (ha : XA T E X (e :: es) fs)
    (hg : ∀ j, Gl (X j) x := by intro j; rfl) (hn : x ≠ "__name__" := by decide +kernel) (hdb : (x == ("__debug__" : Str)) = false := by decide +kernel) (he : ∀ j, starEach (e :: es) (X j).env = (false, eval e (X j).env) :: starEach es (X j).env := by intro j; rfl)
    (hpl : ∀ j, (backTo pos (starEach es (X j).env)).any (·.1) = false := by intro j; rfl) : XR T E X (.Call (.Name x p) (e :: es) [] pos) (rOp g fs) :=
  let ⟨_, a1, a2⟩ := ha; ⟨_, fun j => pe_callB (hc j) (hg j) (hm j) hv (a1 j) hn hdb (he j) (hpl j), semR_callL hp a2⟩
/-! ### what is walked -/
variable {tg : Expr}
theorem xi_lst (hK : ∀ j, (X j).K = T.K := by intro j; rfl) (h : XE T E X e fa) : XI T E X tg e (iLst fa) := let ⟨_, a1, a2⟩ := h; ⟨_, fun j => by rw [← hK j]; exact pi_list (a1 j), semI_lst a2⟩
theorem xi_tup (hK : ∀ j, (X j).K = T.K := by intro j; rfl) (h : XE T E X e fa) : XI T E X tg e (iTupl fa) := let ⟨_, a1, a2⟩ := h; ⟨_, fun j => by rw [← hK j]; exact pi_tup (a1 j), semI_tup a2⟩
theorem xi_seq (hK : ∀ j, (X j).K = T.K := by intro j; rfl) (h : XE T E X e fa) : XI T E X tg e (iSeq fa) := by
  obtain ⟨te, a1, a2⟩ := h
  refine ⟨_, fun j => ⟨fun pins s σ H R I h => ?_⟩, semI_seq a2⟩
  rcases h with h | h
  · exact (show PI (X j) tg e (iList T.K te) by rw [← hK j]; exact pi_list (a1 j)).run pins s σ H R I h
  · exact (show PI (X j) tg e (iTup T.K te) by rw [← hK j]; exact pi_tup (a1 j)).run pins s σ H R I h
theorem xi_str (h : XE T E X e fa) : XI T E X tg e (iText fa) := let ⟨_, a1, a2⟩ := h; ⟨_, fun j => pi_str (a1 j), semI_str a2⟩
theorem xi_r1 {p : Pos} (hm : ∀ j, (X j).mg "range" = none) (h : XA T E X [a] fs) (hg : ∀ j, Gl (X j) "range" := by intro j; rfl) (hs : ∀ j, starEach [a] (X j).env = [(false, eval a (X j).env)] := by intro j; rfl) : XI T E X tg (.Call (.Name "range" p) [a] [] pos) (iR1 fs) := let ⟨_, a1, a2⟩ := h; ⟨_, fun j => pi_range1 (hg j) (hm j) (a1 j) (hs j), semI_r1 a2⟩
theorem xi_r2 {p : Pos} (hm : ∀ j, (X j).mg "range" = none) (h : XA T E X [a, b] fs) (hg : ∀ j, Gl (X j) "range" := by intro j; rfl) (hs : ∀ j, starEach [a, b] (X j).env = [(false, eval a (X j).env), (false, eval b (X j).env)] := by intro j; rfl) (hs2 : ∀ j, starEach [b] (X j).env = [(false, eval b (X j).env)] := by intro j; rfl) : XI T E X tg (.Call (.Name "range" p) [a, b] [] pos) (iR2 fs) := let ⟨_, a1, a2⟩ := h; ⟨_, fun j => pi_range2 (hg j) (hm j) (a1 j) (hs j) (hs2 j), semI_r2 a2⟩
theorem xi_rv {p : Pos} (hK : ∀ j, (X j).K = T.K := by intro j; rfl) (hm : ∀ j, (X j).mg "reversed" = none) (h : XA T E X [a] fs) (hg : ∀ j, Gl (X j) "reversed" := by intro j; rfl) (hs : ∀ j, starEach [a] (X j).env = [(false, eval a (X j).env)] := by intro j; rfl) : XI T E X tg (.Call (.Name "reversed" p) [a] [] pos) (iRv fs) := let ⟨_, a1, a2⟩ := h; ⟨_, fun j => by rw [← hK j]; exact pi_reversed (hg j) (hm j) (a1 j) (hs j), semI_rv a2⟩
theorem xi_en {p tpos : Pos} {elts : List Expr} {kk : Nat} (hK : ∀ j, (X j).K = T.K := by intro j; rfl) (hm : ∀ j, (X j).mg "enumerate" = none) (h : XA T E X [a] fs) (hg : ∀ j, Gl (X j) "enumerate" := by intro j; rfl) (hs : ∀ j, starEach [a] (X j).env = [(false, eval a (X j).env)] := by intro j; rfl) : XI T E X (.Tuple elts kk tpos) (.Call (.Name "enumerate" p) [a] [] pos) (iEn fs) := let ⟨_, a1, a2⟩ := h; ⟨_, fun j => by rw [← hK j]; exact pi_enum (hg j) (hm j) (a1 j) (hs j), semI_en a2⟩
theorem xi_zp {p tpos : Pos} {elts : List Expr} {kk : Nat} (hK : ∀ j, (X j).K = T.K := by intro j; rfl) (hm : ∀ j, (X j).mg "zip" = none) (h : XA T E X [a, b] fs) (hg : ∀ j, Gl (X j) "zip" := by intro j; rfl) (hs : ∀ j, starEach [a, b] (X j).env = (false, eval a (X j).env) :: starEach [b] (X j).env := by intro j; rfl)
    (hpl : ∀ j, (backTo pos (starEach [b] (X j).env)).any (·.1) = false := by intro j; rfl) : XI T E X (.Tuple elts kk tpos) (.Call (.Name "zip" p) [a, b] [] pos) (iZp fs) := let ⟨_, a1, a2⟩ := h; ⟨_, fun j => by rw [← hK j]; exact pi_zip (hg j) (hm j) (a1 j) (hs j) (hpl j), semI_zp a2⟩
/-! ### targets -/
theorem xg_name (i : Nat) (hk : kp i = false := by rfl) (hN : ∀ j, (X j).N.Nodup) (hi : ∀ j, (X j).N[i]? = some x := by intro j; rfl) (hx : ∀ j, Loc (X j).env.scope x := by intro j; first | exact Or.inl rfl | exact Or.inr rfl) (hf : ∀ j, (X j).fn x = true ∨ (X j).env.scope.names.lookup x = some .local := by intro j; first | exact .inl rfl | exact .inr rfl) : XG T X kp (.Name x pos) (gN i) :=
  ⟨_, fun j => pg_name (hN j) (hi j) (hx j) (hf j), semG_name hk⟩
theorem xgs_nil : XGs T X kp [] gsN := ⟨_, fun _ => pgs_nil, semGs_nil⟩
theorem xgs_cons {f : D → Sl → Option Sl} {g : List D → Sl → Option Sl} (h1 : XG T X kp e f) (h2 : XGs T X kp es g) (hs : ∀ j, (assignEach (e :: es) (X j).env).map (·.2) = assign e (X j).env :: (assignEach es (X j).env).map (·.2) := by intro j; rfl) : XGs T X kp (e :: es) (gsC f g) := let ⟨_, a1, a2⟩ := h1; let ⟨_, b1, b2⟩ := h2; ⟨_, fun j => pgs_cons (a1 j) (b1 j) (hs j), semGs_cons a2 b2⟩
theorem xg_tup {k n : Nat} {g : List D → Sl → Option Sl} (hK : ∀ j, (X j).K = T.K := by intro j; rfl) (hc : ∀ j, (X j).calm = true := by intro j; rfl) (h : XGs T X kp es g) (hn : ∀ j, (assignEach es (X j).env).length = n := by intro j; rfl) (hst : ∀ j, (assignEach es (X j).env).findIdx? (·.1) = none := by intro j; rfl) : XG T X kp (.Tuple es k pos) (gT n g) := let ⟨_, a1, a2⟩ := h; ⟨_, fun j => by rw [← hK j]; exact pg_tup (hc j) (a1 j) (hn j) (hst j), semG_tup a2⟩
end
end Fz

-- text Fz11
set_option Elab.async false
set_option linter.all false
set_option maxRecDepth 100000
set_option maxHeartbeats 2000000
namespace Fz
open PySem L2
/-! ### C(), no __init__ of its own -/
structure MkN (K : PySem.W.Frag) (C : Addr) : Prop where
  makes : PySem.W.makesIn K C = true
  init : PySem.W.findIn K (.ref C) "__init__" = some (some (.builtin "object.__init__"))
  kp : PySem.W.keepIn K (.ref C) = true
def tMakeN (C : Addr) : TE := fun _ H Q => ∀ x dx, H x = none → H dx = none → dx ≠ x → Q (.ref x) (upd (upd H dx (.own x)) x (.ins C dx []))
theorem run_makeN {X : Cx} {C : Addr} {pins : List (Addr × Obj)} {σ : L2.St} {H : Hp} {s : Shared} {Q : VK} (M : MkN X.K C) (I : Inv X pins σ H s)
    (h : ∀ x dx, H x = none → H dx = none → dx ≠ x → Q (.ref x) (upd (upd H dx (.own x)) x (.ins C dx []))) : wpAny (model X.prog X.w) X.A (call (.ref C) []) (EP X pins σ Q) X.xe s := by
  have hq := h (s.heap.objs.size + 1) s.heap.objs.size (I.hok.fresh (Nat.le_succ _)) (I.hok.fresh (Nat.le_refl _)) (Nat.ne_of_lt (Nat.lt_succ_self _))
  have I2 := Inv.made (C := C) I
  have KX := I.kIn
  have Y := PySem.W.makes_of (M := model X.prog X.w) KX M.makes
  refine wpAny_call ?_
  obtain ⟨hh, g, d, t, os⟩ := s
  refine PySem.W.make_core Y (PySem.W.looks_findIn KX M.init) (fun self => PySem.W.Looks.of_pure (PySem.W.oi_bind self)) (.inr ⟨rfl, rfl⟩) ?_
  have hx : ((hh.push PySem.W.emptyDict).push (PySem.W.instObj C hh.objs.size)).get? (hh.objs.size + 1) = some (PySem.W.instObj C hh.objs.size) := by
    have := Heap.get?_push_size (hh.push PySem.W.emptyDict) (o := PySem.W.instObj C hh.objs.size) rfl
    rwa [Heap.size_push] at this
  have t1 : PySem.W.Looks (model X.prog X.w) ((hh.push PySem.W.emptyDict).push (PySem.W.instObj C hh.objs.size)) (typeOf (.ref (hh.objs.size + 1))) (.ref C) := (PySem.W.Looks.ld hx).andThen .now
  have t2 : PySem.W.Looks (model X.prog X.w) ((hh.push PySem.W.emptyDict).push (PySem.W.instObj C hh.objs.size)) (isInstance (.ref (hh.objs.size + 1)) (.type "object")) true := t1.andThen (Y.top.keeps fun b o e => Heap.get?_push_of_some _ (Heap.get?_push_of_some _ e))
  refine codeAny_call_builtin PySem.W.oi_plain PySem.W.entry_oi (@PySem.W.check_slot (model X.prog X.w) _ _ _ "object.__init__" "object" "__init__" (.ref (hh.objs.size + 1)) [] [] _ PySem.W.oi_kind PySem.W.oi_split t2 (PySem.W.oi_args (.ref (hh.objs.size + 1))) ?_)
  rw [PySem.W.oi_run]
  refine wpAny_pure ?_
  show Value.none = Value.none ∧ _
  exact ⟨rfl, .ref _, _, I2, rfl, hq⟩
/-! ### calls whose raise is wished for at the caller's slots -/
section
variable {X : Cx} {CX : CXT} {k : Nat} {f C : Addr} {fd : FuncData} {ps : List Str} {sp : Sp} {dvs : List V} {ds : List Value} {x m : Str} {p pos apos : Pos} {e o : Expr} {es : List Expr} {ta : TE} {t : TA} {pins : List (Addr × Obj)} {σ : L2.St} {H : Hp} {s : Shared} {Q : VK}
theorem pe_callSD0 {E : L2.St → XK} (F : FnOk X.prog X.w X.K X.mg X.base CX k f fd ps sp) (hr : Room k X.A) (hg : Gl X x) (hm : X.mg x = some (.ref f)) (hk : PySem.W.keepIn X.K (.ref f) = true) (hb : Binds X.K fd ps ds) (hd : Vals dvs ds) (hx : ∀ σ, PassesAt CX X σ (E σ))
    (hdb : (x == ("__debug__" : Str)) = false := by decide) : PE X (.Call (.Name x p) [] [] pos) (tCallSD sp dvs E tNil) := by
  refine ⟨fun pins s σ H Q I h => ?_⟩
  refine wpAny_Call_Name_kw (ld_glob I hg hm ?_ hdb)
  exact PySem.W.callWith_K0 I.kIn hk (run_fnSD (us := []) (vs := []) F hr hb hd (hx σ) I .nil h)
variable {E : XK}
theorem run_fnA {us : List Value} {vs : List V} (F : FnOk X.prog X.w X.K X.mg X.base CX k f fd ps sp) (hr : Room k X.A) (hb : Binds X.K fd ps ds) (hd : Vals dvs ds) (hx : PassesAt CX X σ E)
    (I : Inv X pins σ H s) (r : Vals vs us) (h : sp (vs ++ dvs) H Q E) : wpAny (model X.prog X.w) X.A (call (.ref f) us) (EP X pins σ Q) X.xe s := run_fnSD (E := fun _ => E) F hr hb hd hx I r h
theorem run_methS {pl : Sem Bool} (he : PE X o ta) (c : Cls X.K C) (hm : Meth X.K C m f) (F : FnOk X.prog X.w X.K X.mg X.base CX k f fd ps sp) (hr : Room k X.A) (hb : Binds X.K fd ps ds) (hd : Vals dvs ds) (hx : PassesAt CX X σ E) (ha : PA X (e :: es) t)
    (hst : starEach (e :: es) X.env = (false, eval e X.env) :: starEach es X.env) (hpl : (backTo pos (starEach es X.env)).any (·.1) = false)
    (ht : eval (.Call (.Attribute o m apos) (e :: es) [] pos) X.env = (do
      let ov ← eval o X.env
      standAt apos.atName
      let (f, first) ← holding [ov] (getMethod ov m pl)
      callWith pos f first (backTo pos (starEach (e :: es) X.env)) (backToKw pos (keywordEach [] X.env))))
    (I : Inv X pins σ H s) (h : tMeth C m sp dvs E ta t σ H Q) : wpAny (model X.prog X.w) X.A (eval (.Call (.Attribute o m apos) (e :: es) [] pos) X.env) (EP X pins σ Q) X.xe s := by
  refine PySem.W.methodCall_KW (pl := pl) (thn (he.run pins s σ H _ I h) fun u s1 ⟨x, H1, I1, rx, a, dx, fs, ex, ea, l, q⟩ => ?_) ht
  subst ex
  obtain rfl : u = Value.ref a := rx
  refine getmeth_ok I1 ea c hm l ?_
  refine PySem.W.callWith_K (first := [.ref a]) (h₀ := X.base) I.ok.mod.kin hm.kp (thn (ha.run pos pins s1 σ H1 _ I1 q) fun us s2 ⟨vs, H2, I2, r, q2⟩ => ⟨I2.kIn, ?_⟩) hst hpl
  exact run_fnA (us := .ref a :: us) (vs := .ref a :: vs) F hr hb hd hx I2 (.cons rfl r) q2
theorem run_methS0 {pl : Sem Bool} (he : PE X o ta) (c : Cls X.K C) (hm : Meth X.K C m f) (F : FnOk X.prog X.w X.K X.mg X.base CX k f fd ps sp) (hr : Room k X.A) (hb : Binds X.K fd ps ds) (hd : Vals dvs ds) (hx : PassesAt CX X σ E)
    (ht : eval (.Call (.Attribute o m apos) [] [] pos) X.env = (do
      let ov ← eval o X.env
      standAt apos.atName
      let (f, first) ← holding [ov] (getMethod ov m pl)
      callWith pos f first (backTo pos (starEach [] X.env)) (backToKw pos (keywordEach [] X.env))))
    (I : Inv X pins σ H s) (h : tMeth C m sp dvs E ta tNil σ H Q) : wpAny (model X.prog X.w) X.A (eval (.Call (.Attribute o m apos) [] [] pos) X.env) (EP X pins σ Q) X.xe s := by
  refine PySem.W.methodCall_KW (pl := pl) (thn (he.run pins s σ H _ I h) fun u s1 ⟨x, H1, I1, rx, a, dx, fs, ex, ea, l, q⟩ => ?_) ht
  subst ex
  obtain rfl : u = Value.ref a := rx
  refine getmeth_ok I1 ea c hm l ?_
  exact PySem.W.callWith_K0 (first := [.ref a]) I1.kIn hm.kp (run_fnA (us := [.ref a]) (vs := [.ref a]) F hr hb hd hx I1 (.cons rfl .nil) q)
theorem run_makeS {us : List Value} {vs : List V} (M : Mk X.K C f) (F : FnOk X.prog X.w X.K X.mg X.base CX k f fd ps sp) (hr : Room (k + 1) X.A) (hb : Binds X.K fd ps ds) (hd : Vals dvs ds)
    (hx : PassesAt CX X σ E) (I : Inv X pins σ H s) (r : Vals vs us)
    (h : ∀ x dx, H x = none → H dx = none → dx ≠ x → sp (.ref x :: (vs ++ dvs)) (upd (upd H dx (.own x)) x (.ins C dx [])) (fun v H2 => v = .non ∧ Q (.ref x) H2) E) :
    wpAny (model X.prog X.w) X.A (call (.ref C) us) (EP X pins σ Q) X.xe s := by
  have hq := h (s.heap.objs.size + 1) s.heap.objs.size (I.hok.fresh (Nat.le_succ _)) (I.hok.fresh (Nat.le_refl _)) (Nat.ne_of_lt (Nat.lt_succ_self _))
  have I2 := Inv.made (C := C) I
  have r2 : Vals (V.ref (s.heap.objs.size + 1) :: (vs ++ dvs)) (Value.ref (s.heap.objs.size + 1) :: (us ++ ds)) := .cons rfl (r.append hd)
  have hl : (Value.ref (s.heap.objs.size + 1) :: us ++ ds).length = ps.length := by
    have e := r2.length
    rw [F.len _ _ _ _ hq] at e
    exact e.symm
  refine wpAny_call (make_map (f := f) I.kIn M.makes M.init (beq_iff_eq.mp M.fn) (codeAny_mono (F.run _ X.stack _ _ ⟨Value.ref (s.heap.objs.size + 1) :: us, []⟩ (Value.ref (s.heap.objs.size + 1) :: (us ++ ds)) _ _ E (hr.make C us [])
    (I2.env0.make C us []) (hb _ (Value.ref (s.heap.objs.size + 1) :: us) I2.kIn hl) r2 hq) fun r s' hq' => ?_))
  cases r with
  | error e => exact hx pins _ _ e s' I2 hq'
  | ok fl =>
    cases fl with
    | ret u =>
      obtain ⟨v, H', I3, rv, ev, q3⟩ := I2.after hq'
      subst ev
      exact ⟨rv, ⟨V.ref (s.heap.objs.size + 1), H', I3, rfl, q3⟩⟩
    | next => exact False.elim hq'
    | brk => exact False.elim hq'
    | cont => exact False.elim hq'
def tMakeS (C : Addr) (sp : Sp) (dvs : List V) (E : L2.St → XK) (t : TA) : TE := fun σ H Q => tMake C sp dvs (E σ) t σ H Q
theorem pe_makeS {E : L2.St → XK} (M : Mk X.K C f) (F : FnOk X.prog X.w X.K X.mg X.base CX k f fd ps sp) (hr : Room (k + 1) X.A) (hg : Gl X x) (hm : X.mg x = some (.ref C)) (hb : Binds X.K fd ps ds) (hd : Vals dvs ds) (hx : ∀ σ, PassesAt CX X σ (E σ))
    (ha : PA X (e :: es) t) (hdb : (x == ("__debug__" : Str)) = false := by decide) (he : starEach (e :: es) X.env = (false, eval e X.env) :: starEach es X.env := by rfl) (hpl : (backTo pos (starEach es X.env)).any (·.1) = false := by rfl) :
    PE X (.Call (.Name x p) (e :: es) [] pos) (tMakeS C sp dvs E t) := by
  refine ⟨fun pins s σ H Q I h => ?_⟩
  refine wpAny_Call_Name_kw (ld_glob I hg hm ?_ hdb)
  refine PySem.W.callWith_K (h₀ := X.base) I.ok.mod.kin M.kp (thn (ha.run pos pins s σ H _ I h) fun us s1 ⟨vs, H1, I1, r, q⟩ => ⟨I1.kIn, ?_⟩) he hpl
  exact run_makeS M F hr hb hd (hx σ) I1 r q
end
section
variable {ι : Type} {T : Tab} {E : L2.St → XK} {X : ι → Cx} {kp : Nat → Bool} {pos apos : Pos} {e a b c o : Expr} {es : List Expr} {fa fb fc : M D} {fs : M (List D)} {fl : M (List Arg)} {r : M R} {x m : Str} {st : Sl} {σ : L2.St} {B F H B' H' : Hp}
theorem pe_makeN {Y : Cx} {C : Addr} {p : Pos} (M : MkN Y.K C) (hg : Gl Y x) (hm : Y.mg x = some (.ref C)) (hdb : (x == ("__debug__" : Str)) = false := by decide) : PE Y (.Call (.Name x p) [] [] pos) (tMakeN C) := by
  refine ⟨fun pins s σ H Q I h => ?_⟩
  refine wpAny_Call_Name_kw (ld_glob I hg hm ?_ hdb)
  exact PySem.W.callWith_K0 I.kIn M.kp (run_makeN M I h)
/-- an empty instance -/
theorem Sim.fresh_ins (S : Sim T st σ B F H) {x dx : Addr} {c : Nat} (hx : H x = none) (hd : H dx = none) (ne : dx ≠ x) : Sim T (some (.oi c []) :: st) (some (.ref x) :: σ) B F (upd (upd H dx (.own x)) x (.ins (T.cls c) dx [])) := by
  have e1 : Ext B H B (upd H dx (.own x)) := ⟨Ex.refl _, Ex.new hd, S.exB.trans (Ex.new hd), fun _ _ h => .inl h, fun b xs h => by
    by_cases z : b = dx
    · subst z; rw [upd_same] at h; cases h
    · rw [upd_ne z] at h; exact .inl h⟩
  exact (S.ext e1).alloc (by rw [upd_ne (Ne.symm ne)]; exact hx) (fun _ z => nomatch z) ⟨x, dx, [], rfl, upd_same, by simp, reps_nil⟩
def rMakeN (c : Nat) : M R := ret (.oi c [])
theorem semR_makeN {c : Nat} : SemR T E (tMakeN (T.cls c)) (rMakeN c) := by
  intro st σ B F H S o s h Q hQ
  cases h
  exact fun x dx hx hd ne => hQ _ B _ (Ex.refl B) (S.fresh_ins hx hd ne)
theorem xr_makeN {c : Nat} {p : Pos} (M : MkN T.K (T.cls c)) (hm : ∀ j, (X j).mg x = some (.ref (T.cls c))) (hK : ∀ j, (X j).K = T.K := by intro j; rfl) (hg : ∀ j, Gl (X j) x := by intro j; rfl) (hdb : (x == ("__debug__" : Str)) = false := by decide +kernel) : XR T E X (.Call (.Name x p) [] [] pos) (rMakeN c) :=
  ⟨_, fun j => pe_makeN (by rw [hK j]; exact M) (hg j) (hm j) hdb, semR_makeN⟩
/-! ### calls of defs -/
/-- x is a def that does F, callable here; dvs: its defaults -/
structure FunAt (Y : Cx) (T : Tab) (E : L2.St → XK) (x : Str) (n : Nat) (F : Fn) (ds : List Value) : Prop where
  ex : ∃ f fd ps CX k, Y.mg x = some (.ref f) ∧ PySem.W.keepIn Y.K (.ref f) = true ∧ Binds Y.K fd ps ds ∧ FnOk Y.prog Y.w Y.K Y.mg Y.base CX k f fd ps (sp T n F) ∧ Room k Y.A ∧ (∀ σ, PassesAt CX Y σ (E σ))
theorem xr_call {n : Nat} {F : Fn} {ds : List Value} {dvs : List V} {dd : List D} {p : Pos} (hf : ∀ j, FunAt (X j) T E x n F ds) (hd : Vals dvs ds) (hD : ∀ B, Reps T B dd dvs) (ha : XAA T E X (e :: es) fl)
    (hg : ∀ j, Gl (X j) x := by intro j; rfl) (hdb : (x == ("__debug__" : Str)) = false := by decide +kernel) (he : ∀ j, starEach (e :: es) (X j).env = (false, eval e (X j).env) :: starEach es (X j).env := by intro j; rfl) (hpl : ∀ j, (backTo pos (starEach es (X j).env)).any (·.1) = false := by intro j; rfl) :
    XR T E X (.Call (.Name x p) (e :: es) [] pos) (rCall n F dd fl) := by
  obtain ⟨t, a1, a2⟩ := ha
  refine ⟨tCallSD (sp T n F) dvs E t, fun j => ?_, semR_call hD a2⟩
  obtain ⟨f, fd, ps, CX, k, h1, h2, h3, h4, h5, h6⟩ := (hf j).ex
  exact pe_callSD h4 h5 (hg j) h1 h2 h3 hd h6 (a1 j) hdb (he j) (hpl j)
theorem xr_call0 {n : Nat} {F : Fn} {ds : List Value} {dvs : List V} {dd : List D} {p : Pos} (hf : ∀ j, FunAt (X j) T E x n F ds) (hd : Vals dvs ds) (hD : ∀ B, Reps T B dd dvs) (hg : ∀ j, Gl (X j) x := by intro j; rfl) (hdb : (x == ("__debug__" : Str)) = false := by decide +kernel) :
    XR T E X (.Call (.Name x p) [] [] pos) (rCall n F dd aNil) := by
  refine ⟨tCallSD (sp T n F) dvs E tNil, fun j => ?_, semR_call hD semAA_nil⟩
  obtain ⟨f, fd, ps, CX, k, h1, h2, h3, h4, h5, h6⟩ := (hf j).ex
  exact pe_callSD0 h4 h5 (hg j) h1 h2 h3 hd h6 hdb
/-! ### methods of frozen instances -/
structure MethAt (Y : Cx) (T : Tab) (E : L2.St → XK) (c : Nat) (m : Str) (n : Nat) (F : Fn) : Prop where
  ex : ∃ f fd ps CX k, Cls Y.K (T.cls c) ∧ Meth Y.K (T.cls c) m f ∧ Binds Y.K fd ps [] ∧ FnOk Y.prog Y.w Y.K Y.mg Y.base CX k f fd ps (sp T n F) ∧ Room k Y.A ∧ (∀ σ, PassesAt CX Y σ (E σ)) ∧ m ∉ T.flds c
def rMeth (n : Nat) (tab : Nat → Option Fn) (fa : M D) (fl : M (List Arg)) : M R := fun st => match fa st with
  | some (.v (.obj c fs), s1) => (match tab c with
    | some F => (bnd fl fun as => if as.length + 1 = n then callF F (.v (.obj c fs) :: as) else fun _ => none) s1
    | none => none)
  | _ => none
theorem lookup_none {fvs : List (Str × V)} {m : Str} (h : m ∉ fvs.map (·.1)) : fvs.lookup m = none := by
  induction fvs with
  | nil => rfl
  | cons p r ih =>
    obtain ⟨k, v⟩ := p
    simp only [List.map_cons, List.mem_cons, not_or] at h
    rw [List.lookup_cons]
    have : (m == k) = false := by simpa using h.1
    rw [this]
    exact ih h.2
theorem semR_meth {n : Nat} {tab : Nat → Option Fn} {ta : TE} {t : TA} (hfl : ∀ c F, tab c = some F → m ∉ T.flds c) (ha : SemE T E ta fa) (hl : SemAA T E t fl) : SemR T E (fun σ H Q => ∃ c F, tab c = some F ∧ tMeth (T.cls c) m (sp T n F) [] (E σ) ta t σ H Q) (rMeth n tab fa fl) := by
  intro st σ B F H S o s h Q hQ
  unfold rMeth at h
  split at h
  · rename_i c fs s1 e1
    split at h
    · rename_i G eG
      refine ⟨c, G, eG, ?_⟩
      refine ha st σ B F H S _ _ e1 _ fun B1 H1 x1 S1 v hv => ?_
      have hv' := hv
      unfold Rep at hv
      obtain ⟨a, dx, fvs, rfl, h2, h3, h4⟩ := hv
      refine ⟨a, dx, fvs, rfl, S1.exB a _ h2, lookup_none (by rw [h3]; exact hfl c G eG), ?_⟩
      have hQ1 : Okr T (E σ) o s σ B1 F (fun v _ H' => Q v H') := by
        cases o with
        | v r => exact fun v B2 H2 x2 S2 => hQ v B2 H2 (x1.trans x2) S2
        | x c => exact fun d B2 H2 x2 S2 => hQ d B2 H2 (x1.trans x2) S2
      rcases bnd_some h with ⟨k, e2, rfl⟩ | ⟨as, s2, e2, h5⟩
      · exact hl s1 σ B1 F H1 S1 _ _ e2 _ hQ1
      · refine hl s1 σ B1 F H1 S1 _ _ e2 _ fun B2 H2 x2 S2 vs hvs => ?_
        have hQ2 : Okr T (E σ) o s σ B2 F (fun v _ H' => Q v H') := by
          cases o with
          | v r => exact fun v B3 H3 x3 S3 => hQ1 v B3 H3 (x2.trans x3) S3
          | x c => exact fun d B3 H3 x3 S3 => hQ1 d B3 H3 (x2.trans x3) S3
        split at h5
        · rename_i hn
          have hA : ArgsAre T B2 σ (Arg.v (.obj c fs) :: as) (V.ref a :: vs) := .cons (Rep.mono x2 _ hv') hvs
          have h6 := okx_call S2 hA h5 hQ2
          have l := Paired.length hA
          rw [List.length_cons, hn] at l
          rw [← l] at h6
          rw [List.append_nil]
          exact h6
        · cases h5
    · cases h
  · cases h
theorem xr_meth {n : Nat} {tab : Nat → Option Fn} {pl : ι → Sem Bool} (hm : ∀ j c F, tab c = some F → MethAt (X j) T E c m n F) (hfl : ∀ c F, tab c = some F → m ∉ T.flds c) (ho : XE T E X o fa) (ha : XAA T E X (e :: es) fl)
    (hst : ∀ j, starEach (e :: es) (X j).env = (false, eval e (X j).env) :: starEach es (X j).env := by intro j; rfl) (hpl : ∀ j, (backTo pos (starEach es (X j).env)).any (·.1) = false := by intro j; rfl)
    (ht : ∀ j, eval (.Call (.Attribute o m apos) (e :: es) [] pos) (X j).env = (do
      let ov ← eval o (X j).env
      standAt apos.atName
      let (f, first) ← holding [ov] (getMethod ov m (pl j))
      callWith pos f first (backTo pos (starEach (e :: es) (X j).env)) (backToKw pos (keywordEach [] (X j).env))) := by intro j; rfl) : XR T E X (.Call (.Attribute o m apos) (e :: es) [] pos) (rMeth n tab fa fl) := by
  obtain ⟨ta, a1, a2⟩ := ho
  obtain ⟨t, b1, b2⟩ := ha
  refine ⟨_, fun j => ⟨fun pins s σ H Q I h => ?_⟩, semR_meth hfl a2 b2⟩
  obtain ⟨c, F, hc, h⟩ := h
  obtain ⟨f, fd, ps, CX, k, h1, h2, h3, h4, h5, h6, _⟩ := (hm j c F hc).ex
  exact run_methS (a1 j) h1 h2 h4 h5 h3 .nil (h6 σ) (b1 j) (hst j) (hpl j) (ht j) I h
theorem xr_meth0 {n : Nat} {tab : Nat → Option Fn} {pl : ι → Sem Bool} (hm : ∀ j c F, tab c = some F → MethAt (X j) T E c m n F) (hfl : ∀ c F, tab c = some F → m ∉ T.flds c) (ho : XE T E X o fa)
    (ht : ∀ j, eval (.Call (.Attribute o m apos) [] [] pos) (X j).env = (do
      let ov ← eval o (X j).env
      standAt apos.atName
      let (f, first) ← holding [ov] (getMethod ov m (pl j))
      callWith pos f first (backTo pos (starEach [] (X j).env)) (backToKw pos (keywordEach [] (X j).env))) := by intro j; rfl) : XR T E X (.Call (.Attribute o m apos) [] [] pos) (rMeth n tab fa aNil) := by
  obtain ⟨ta, a1, a2⟩ := ho
  refine ⟨_, fun j => ⟨fun pins s σ H Q I h => ?_⟩, semR_meth (t := tNil) hfl a2 semAA_nil⟩
  obtain ⟨c, F, hc, h⟩ := h
  obtain ⟨f, fd, ps, CX, k, h1, h2, h3, h4, h5, h6, _⟩ := (hm j c F hc).ex
  exact run_methS0 (a1 j) h1 h2 h4 h5 h3 .nil (h6 σ) (ht j) I h
/-! ### C(..), by its __init__ -/
def upA : Arg → Arg
  | .o i => .o (i + 1)
  | .v x => .v x
def rMake (c nf n : Nat) (F : Fn) (fl : M (List Arg)) : M R := bnd fl fun as => fun st => if as.length + 1 = n then (match callF F (.o 0 :: as.map upA) (some (.oi c []) :: st) with
  | some (.v (.d .non), some (.oi c' fs) :: s) => if c' = c ∧ fs.length = nf then some (.v (.oi c fs), s) else none
  | some (.x k, _ :: s) => some (.x k, s)
  | _ => none) else none
theorem args_up {as : List Arg} {vs : List V} {v : Option V} (h : ArgsAre T B σ as vs) : ArgsAre T B (v :: σ) (as.map upA) vs := by
  induction h with
  | nil => exact .nil
  | cons r t ih =>
    refine .cons ?_ ih
    rename_i a b _ _
    cases a with
    | v x => exact r
    | o i => exact r
theorem semR_make {c nf n : Nat} {F : Fn} {ta : TA} (ha : SemAA T E ta fl) : SemR T E (tMakeS (T.cls c) (sp T n F) [] E ta) (rMake c nf n F fl) := by
  intro st σ B Fr H S o s h Q hQ
  rcases bnd_some h with ⟨k, e1, rfl⟩ | ⟨as, s1, e1, h2⟩
  · exact ha st σ B Fr H S _ _ e1 _ hQ
  · refine ha st σ B Fr H S _ _ e1 _ fun B1 H1 x1 S1 vs hvs => ?_
    intro x dx hx hd ne
    have hQ1 : Okr T (E σ) o s σ B1 Fr (fun v _ H' => Q v H') := by
      cases o with
      | v r => exact fun v B2 H2 x2 S2 => hQ v B2 H2 (x1.trans x2) S2
      | x c => exact fun d B2 H2 x2 S2 => hQ d B2 H2 (x1.trans x2) S2
    split at h2
    · rename_i hn
      have SI := S1.fresh_ins (T := T) (c := c) hx hd ne
      have hA : ArgsAre T B1 (some (V.ref x) :: σ) (Arg.o 0 :: as.map upA) (V.ref x :: vs) := .cons rfl (args_up hvs)
      have l := Paired.length hA
      rw [List.length_cons, List.length_map, hn] at l
      rw [List.append_nil, l]
      split at h2
      · rename_i c' fs s' ec
        split at h2
        · rename_i hc
          obtain ⟨rfl, hnf⟩ := hc
          cases h2
          refine okx_call SI hA ec fun v B2 H2 x2 S2 => ?_
          have e0 : Rep T B2 .non v := S2.top
          cases rep_non e0
          exact ⟨rfl, hQ1 _ B2 H2 x2 S2.pop⟩
        · cases h2
      · rename_i k s0 s' ec
        cases h2
        exact okx_call SI hA ec fun d B2 H2 x2 S2 => hQ1 d B2 H2 x2 S2.pop
      · cases h2
    · cases h2
/-- x is a class, made by an __init__ that does F -/
structure MakeAt (Y : Cx) (T : Tab) (E : L2.St → XK) (x : Str) (c n : Nat) (F : Fn) : Prop where
  ex : ∃ f fd ps CX k, Y.mg x = some (.ref (T.cls c)) ∧ Mk Y.K (T.cls c) f ∧ Binds Y.K fd ps [] ∧ FnOk Y.prog Y.w Y.K Y.mg Y.base CX k f fd ps (sp T n F) ∧ Room (k + 1) Y.A ∧ (∀ σ, PassesAt CX Y σ (E σ))
theorem xr_make {c nf n : Nat} {F : Fn} {p : Pos} (hf : ∀ j, MakeAt (X j) T E x c n F) (ha : XAA T E X (e :: es) fl)
    (hg : ∀ j, Gl (X j) x := by intro j; rfl) (hdb : (x == ("__debug__" : Str)) = false := by decide +kernel) (he : ∀ j, starEach (e :: es) (X j).env = (false, eval e (X j).env) :: starEach es (X j).env := by intro j; rfl) (hpl : ∀ j, (backTo pos (starEach es (X j).env)).any (·.1) = false := by intro j; rfl) :
    XR T E X (.Call (.Name x p) (e :: es) [] pos) (rMake c nf n F fl) := by
  obtain ⟨t, a1, a2⟩ := ha
  refine ⟨tMakeS (T.cls c) (sp T n F) [] E t, fun j => ?_, semR_make a2⟩
  obtain ⟨f, fd, ps, CX, k, h1, h2, h3, h4, h5, h6⟩ := (hf j).ex
  exact pe_makeS h2 h4 h5 (hg j) h1 h3 .nil h6 (a1 j) hdb (he j) (hpl j)
/-! ### attributes -/
structure ClsOk (T : Tab) (c : Nat) : Prop where
  cls : Cls T.K (T.cls c)
  nd : (T.flds c).Nodup
  small : (T.flds c).length ≤ 100
  no : ∀ f ∈ T.flds c, NoAttr T.K (T.cls c) f
def eFld (ix : Nat → Option Nat) (fa : M D) : M D := bnd fa fun x => opt (match x with
  | .obj c fs => (match ix c with
    | some i => fs[i]?
    | none => none)
  | _ => none)
theorem lookup_at {fvs : List (Str × V)} {f : Str} {i : Nat} {v : V} (nd : (fvs.map (·.1)).Nodup) (h1 : (fvs.map (·.1))[i]? = some f) (h2 : (fvs.map (·.2))[i]? = some v) : fvs.lookup f = some v := by
  induction fvs generalizing i with
  | nil => simp at h1
  | cons p r ih =>
    obtain ⟨k, u⟩ := p
    have nd' := List.nodup_cons.mp nd
    cases i with
    | zero =>
      simp at h1 h2
      subst h1; subst h2
      simp [List.lookup_cons]
    | succ i =>
      have h1' : (r.map (·.1))[i]? = some f := by simpa using h1
      have hne : f ≠ k := by
        rintro rfl
        exact nd'.1 (List.mem_of_getElem? h1')
      rw [List.lookup_cons]
      have : (f == k) = false := by simpa using hne
      rw [this]
      exact ih nd'.2 h1' (by simpa using h2)
theorem semE_fld {ix : Nat → Option Nat} {f : Str} {ta : TE} (hx : ∀ c i, ix c = some i → ClsOk T c ∧ (T.flds c)[i]? = some f) (ha : SemE T E ta fa) : SemE T E (tFld T.K ta f) (eFld ix fa) := by
  intro st σ B F H S o s h Q hQ
  refine okx_bnd h hQ (fun o1 s1 e1 q => ha st σ B F H S o1 s1 e1 _ q) fun a s1 B1 H1 _ h2 e1 S1 hQ1 v hv => ?_
  obtain ⟨z, hz, rfl, rfl⟩ := opt_some h2
  cases a with
  | obj c fs =>
    dsimp only at hz
    split at hz
    · rename_i i hi
      obtain ⟨ok, hf⟩ := hx c i hi
      unfold Rep at hv
      obtain ⟨p, dx, fvs, rfl, g2, g3, g4⟩ := hv
      obtain ⟨v, hv, rv⟩ := g4.get hz
      exact ⟨p, T.cls c, dx, fvs, v, rfl, S1.exB p _ g2, ok.cls, ok.no f (List.mem_of_getElem? hf), lookup_at (by rw [g3]; exact ok.nd) (by rw [g3]; exact hf) hv, hQ1 B1 H1 (Ex.refl _) S1 v rv⟩
    · cases hz
  | _ => cases hz
theorem xe_fld {ix : Nat → Option Nat} {f : Str} (hx : ∀ c i, ix c = some i → ClsOk T c ∧ (T.flds c)[i]? = some f) (ha : XE T E X e fa) (hK : ∀ j, (X j).K = T.K := by intro j; rfl) (hb : ∀ j, attributeBase e f (X j).env (eval e (X j).env) = eval e (X j).env := by intro j; rfl) : XE T E X (.Attribute e f pos) (eFld ix fa) :=
  let ⟨_, a1, a2⟩ := ha; ⟨_, fun j => by rw [← hK j]; exact pe_fld (a1 j) (hb j), semE_fld hx a2⟩
/-- self.f read while it is made -/
def eFldO (i : Nat) (ix : Nat → Option Nat) : M D := fun st => match st[i]? with
  | some (some (.oi c fs)) => (match ix c with
    | some k => (match fs[k]? with
      | some x => some (.v x, st)
      | none => none)
    | none => none)
  | _ => none
theorem take_nodup {α : Type} {l : List α} (n : Nat) (h : l.Nodup) : (l.take n).Nodup := h.sublist (List.take_sublist n l)
theorem semE_fldO {i : Nat} {ix : Nat → Option Nat} {f : Str} (hx : ∀ c i, ix c = some i → ClsOk T c ∧ (T.flds c)[i]? = some f) : SemE T E (tFld T.K (tVar i) f) (eFldO i ix) := by
  intro st σ B F H S o s h Q hQ
  unfold eFldO at h
  split at h
  · rename_i c fs hi
    split at h
    · rename_i k hk
      split at h
      · rename_i x hx'
        cases h
        obtain ⟨ok, hf⟩ := hx c k hk
        obtain ⟨v, hv, p, dx, fvs, rfl, g2, g3, g4⟩ := S.rel i _ hi
        obtain ⟨u, hu, ru⟩ := g4.get hx'
        have hk' : k < fs.length := (List.getElem?_eq_some_iff.mp hx').1
        exact ⟨_, hv, p, T.cls c, dx, fvs, u, rfl, g2, ok.cls, ok.no f (List.mem_of_getElem? hf), lookup_at (by rw [g3]; exact take_nodup _ ok.nd) (by rw [g3, List.getElem?_take_of_lt hk']; exact hf) hu, hQ B H (Ex.refl _) S u ru⟩
      · cases h
    · cases h
  · cases h
theorem xe_fldO (i : Nat) {ix : Nat → Option Nat} {f : Str} {ps : Pos} (hx : ∀ c i, ix c = some i → ClsOk T c ∧ (T.flds c)[i]? = some f) (hN : ∀ j, (X j).N[i]? = some x := by intro j; rfl) (hv : ∀ j, Vis (X j).env.scope x := by intro j; first | exact Or.inl rfl | exact Or.inr (Or.inl rfl) | exact Or.inr (Or.inr rfl))
    (hd : (x == ("__debug__" : Str)) = false := by decide +kernel) (hcd : (x == ("__classdict__" : Str)) = false := by decide +kernel) (hK : ∀ j, (X j).K = T.K := by intro j; rfl) (hb : ∀ j, attributeBase (.Name x ps) f (X j).env (eval (.Name x ps) (X j).env) = eval (.Name x ps) (X j).env := by intro j; rfl) : XE T E X (.Attribute (.Name x ps) f pos) (eFldO i ix) :=
  ⟨_, fun j => by rw [← hK j]; exact pe_fld (pe_var (hN j) (hv j) hd hcd) (hb j), semE_fldO hx⟩
/-- self.f = e -/
def sFldSet (i : Nat) (ix : Nat → Option Nat) (m : M D) : MS := fun st => match m st with
  | some (.v x, s) => (match s[i]? with
    | some (some (.oi c fs)) => (match ix c with
      | some k => if k = fs.length then some (.nx, s.set i (some (.oi c (fs ++ [x])))) else if k < fs.length then some (.nx, s.set i (some (.oi c (fs.set k x)))) else none
      | none => none)
    | _ => none)
  | some (.x c, s) => some (.x c, s)
  | none => none
theorem putF_new {fvs : List (Str × V)} {f : Str} {v : V} (h : f ∉ fvs.map (·.1)) : putF f v fvs = fvs ++ [(f, v)] := by
  induction fvs with
  | nil => rfl
  | cons p r ih =>
    obtain ⟨k, u⟩ := p
    simp only [List.map_cons, List.mem_cons, not_or] at h
    unfold putF
    rw [if_neg (fun e => h.1 e.symm), ih h.2]; rfl
theorem putF_old {fvs : List (Str × V)} {f : Str} {v : V} {k : Nat} (nd : (fvs.map (·.1)).Nodup) (h : (fvs.map (·.1))[k]? = some f) : (putF f v fvs).map (·.1) = fvs.map (·.1) ∧ (putF f v fvs).map (·.2) = (fvs.map (·.2)).set k v := by
  induction fvs generalizing k with
  | nil => simp at h
  | cons p r ih =>
    obtain ⟨g, u⟩ := p
    have nd' := List.nodup_cons.mp nd
    unfold putF
    cases k with
    | zero =>
      simp at h; subst h
      rw [if_pos rfl]; exact ⟨rfl, rfl⟩
    | succ k =>
      have h' : (r.map (·.1))[k]? = some f := by simpa using h
      rw [if_neg (by rintro rfl; exact nd'.1 (List.mem_of_getElem? h'))]
      obtain ⟨a, b⟩ := ih nd'.2 h'
      exact ⟨by simp only [List.map_cons, a], by simp only [List.map_cons, List.set_cons_succ, b]⟩
theorem semS_fld {i : Nat} {ix : Nat → Option Nat} {f : Str} {tv : TE} {m : M D} (hx : ∀ c i, ix c = some i → ClsOk T c ∧ (T.flds c)[i]? = some f) (h : SemE T E tv m) : SemS T E kp (sFld T.K (tVar i) tv f) (sFldSet i ix m) := by
  intro st σ B F H S fl s hf D hD
  unfold sFldSet at hf
  split at hf
  · rename_i x s1 e
    split at hf
    · rename_i c fs hi
      split at hf
      · rename_i k hk
        obtain ⟨ok, hfk⟩ := hx c k hk
        refine h st σ B F H S _ _ e _ fun B1 H1 e1 S1 v hv => ?_
        obtain ⟨u, hu, p, dx, fvs, rfl, g2, g3, g4⟩ := S1.rel i _ hi
        have lf : fvs.length = fs.length := by have := g4.length; simpa using this.symm
        have lt : fs.length ≤ (T.flds c).length := by
          have := congrArg List.length g3
          rw [List.length_map, List.length_take] at this
          omega
        have sm := ok.small
        refine ⟨_, hu, p, T.cls c, dx, fvs, rfl, g2, ok.cls, ok.no f (List.mem_of_getElem? hfk), by omega, ?_⟩
        split at hf
        · rename_i ek
          subst ek
          cases hf
          have hnew : f ∉ fvs.map (·.1) := by
            rw [g3]
            intro hm
            obtain ⟨j, hj⟩ := List.getElem?_of_mem hm
            have hjl : j < fs.length := by have := (List.getElem?_eq_some_iff.mp hj).1; rw [List.length_take] at this; omega
            rw [List.getElem?_take_of_lt hjl] at hj
            have := nodup_ix ok.nd hj hfk
            omega
          refine hD σ B1 _ e1 (Kp.refl _ _) (S1.change hi hu rfl (fun _ z => nomatch z) ⟨p, dx, _, rfl, upd_same, ?_, ?_⟩)
          · rw [putF_new hnew, List.map_append, g3, List.length_append]
            show _ = (T.flds c).take (fs.length + 1)
            rw [List.take_succ, hfk]; rfl
          · rw [putF_new hnew, List.map_append]
            exact g4.append (reps_cons hv reps_nil)
        · split at hf
          · rename_i hlt
            cases hf
            obtain ⟨q1, q2⟩ := putF_old (v := v) (k := k) (f := f) (fvs := fvs) (by rw [g3]; exact take_nodup _ ok.nd) (by rw [g3, List.getElem?_take_of_lt hlt]; exact hfk)
            refine hD σ B1 _ e1 (Kp.refl _ _) (S1.change hi hu rfl (fun _ z => nomatch z) ⟨p, dx, _, rfl, upd_same, ?_, ?_⟩)
            · rw [q1, g3, List.length_set]
            · rw [q2]; exact g4.set hv
          · cases hf
      · cases hf
    · cases hf
  · rename_i c s1 e
    cases hf
    exact h st σ B F H S _ _ e _ fun d B1 H1 e1 S1 => hD d σ B1 H1 e1 (Kp.refl _ _) S1
  · cases hf
end
end Fz

-- text Fz12
set_option Elab.async false
set_option linter.all false
set_option maxRecDepth 100000
set_option maxHeartbeats 2000000
namespace Fz
open PySem L2 PySem.Spec PyProof.Rows
section
variable {ι : Type} {T : Tab} {E : L2.St → XK} {X : ι → Cx} {kp : Nat → Bool} {pos apos : Pos} {e a b c o elt tg iter : Expr} {es : List Expr} {fa fb fc : M D} {fs : M (List D)} {fl : M (List Arg)} {r : M R} {x y m : Str}
/-! ### comprehensions -/
/-- the contexts of a block -/
abbrev Blk (X : ι → Cx) (scope : Scope) : ι × Shared × Hp × Addr × List (Str × Addr) × List Addr → Cx := fun q => (X q.1).blk q.2.1 q.2.2.1 scope (compEnvC scope q.2.2.2.2.1 q.2.2.2.1 (X q.1).env) q.2.2.2.2.2
def XTs {κ : Type} (T : Tab) (E : L2.St → XK) (Y : κ → Cx) (ifs : List Expr) (f : M Bool) : Prop := ∃ te, (∀ i, PTs (Y i) ifs te) ∧ SemT T E te f
def XGB {κ : Type} (T : Tab) (Y : κ → Cx) (vs : List Nat) (tg : Expr) (f : D → Sl → Option Sl) : Prop := ∃ g, (∀ i, PG (Y i) tg g) ∧ SemGB T vs g f
theorem xts_nil {κ : Type} {Y : κ → Cx} : XTs T E Y [] cYes := ⟨_, fun _ => pts_nil, semT_yes⟩
theorem xts_one {κ : Type} {Y : κ → Cx} {f : M Bool} (h : XT T E Y c f) : XTs T E Y [c] f := let ⟨_, a1, a2⟩ := h; ⟨_, fun j => pts_one (a1 j), a2⟩
theorem wipe_set (i : Nat) : ∀ (vs : List Nat) (σ : L2.St) (v : Option V), i ∈ vs → L2.wipe (σ.set i v) vs = L2.wipe σ vs
  | [], _, _, h => by simp at h
  | w :: vs, σ, v, h => by
    unfold L2.wipe
    rcases List.mem_cons.mp h with rfl | h
    · have : ∀ (vs : List Nat) (σ : L2.St), (L2.wipe (σ.set i v) vs).set i none = (L2.wipe σ vs).set i none := by
        intro vs
        induction vs with
        | nil => intro σ; show (σ.set i v).set i none = σ.set i none; rw [List.set_set]
        | cons w vs ih =>
          intro σ
          unfold L2.wipe
          by_cases e : w = i
          · subst e; rw [List.set_set, List.set_set]; exact ih σ
          · rw [List.set_comm _ _ e, ih σ, List.set_comm _ _ (Ne.symm e)]
      exact this vs σ
    · rw [wipe_set i vs σ v h]
theorem wipe_idem : ∀ (vs : List Nat) (σ : L2.St), L2.wipe (L2.wipe σ vs) vs = L2.wipe σ vs := by
  intro vs
  have gen : ∀ (ws vs : List Nat) (σ : L2.St), (∀ i ∈ ws, i ∈ vs) → L2.wipe (L2.wipe σ ws) vs = L2.wipe σ vs := by
    intro ws
    induction ws with
    | nil => intro vs σ _; rfl
    | cons w ws ih =>
      intro vs σ h
      show L2.wipe ((L2.wipe σ ws).set w none) vs = _
      rw [wipe_set w vs _ none (h w List.mem_cons_self), ih vs σ fun i hi => h i (List.mem_cons_of_mem _ hi)]
  exact fun σ => gen vs vs σ fun _ h => h
theorem xgb_name {κ : Type} {Y : κ → Cx} {vs : List Nat} (i : Nat) (hm : i ∈ vs) (hN : ∀ j, (Y j).N.Nodup) (hi : ∀ j, (Y j).N[i]? = some x := by intro j; rfl) (hx : ∀ j, Loc (Y j).env.scope x := by intro j; first | exact Or.inl rfl | exact Or.inr rfl) (hf : ∀ j, (Y j).fn x = true ∨ (Y j).env.scope.names.lookup x = some .local := by intro j; first | exact .inl rfl | exact .inr rfl) : XGB T Y vs (.Name x pos) (gN i) :=
  ⟨_, fun j => pg_name (hN j) (hi j) (hx j) (hf j), semGB_name fun σ v => wipe_set i vs σ (some v) hm⟩
/-- several names as a target within a block -/
def SemGBs (T : Tab) (vs : List Nat) (g : TGs) (gf : List D → Sl → Option Sl) : Prop := ∀ st σ B F H, Sim T st σ B F H → ∀ ds ws s, Reps T B ds ws → gf ds st = some s → ∀ Q : L2.St → Hp → Prop, (∀ σ', L2.wipe σ' vs = L2.wipe σ vs → Sim T s σ' B F H → Q σ' H) → g ws σ H Q
def XGBs {κ : Type} (T : Tab) (Y : κ → Cx) (vs : List Nat) (tgs : List Expr) (f : List D → Sl → Option Sl) : Prop := ∃ g, (∀ i, PGs (Y i) tgs g) ∧ SemGBs T vs g f
theorem xgbs_nil {κ : Type} {Y : κ → Cx} {vs : List Nat} : XGBs T Y vs [] gsN := ⟨_, fun _ => pgs_nil, fun st σ B F H S ds ws s r h Q q => by
  cases ds with
  | nil =>
    unfold Reps at r
    cases h
    exact ⟨r, q _ rfl S⟩
  | cons d ds => cases h⟩
theorem xgbs_cons {κ : Type} {Y : κ → Cx} {vs : List Nat} {f : D → Sl → Option Sl} {g : List D → Sl → Option Sl} (h1 : XGB T Y vs e f) (h2 : XGBs T Y vs es g) (hs : ∀ j, (assignEach (e :: es) (Y j).env).map (·.2) = assign e (Y j).env :: (assignEach es (Y j).env).map (·.2) := by intro j; rfl) : XGBs T Y vs (e :: es) (gsC f g) := by
  obtain ⟨_, a1, a2⟩ := h1
  obtain ⟨_, b1, b2⟩ := h2
  refine ⟨_, fun j => pgs_cons (a1 j) (b1 j) (hs j), fun st σ B F H S ds ws s r h Q q => ?_⟩
  cases ds with
  | nil => cases h
  | cons d ds =>
    unfold Reps at r
    obtain ⟨v, r', rfl, rd, rr⟩ := r
    have h : (f d st).bind (g ds) = some s := h
    cases e : f d st with
    | none => rw [e] at h; cases h
    | some s1 =>
      rw [e] at h
      exact ⟨v, r', rfl, a2 st σ B F H S d v s1 rd e _ fun σ1 k1 S1 => b2 s1 σ1 B F H S1 ds r' s rr h _ fun σ2 k2 S2 => q σ2 (k2.trans k1) S2⟩
theorem xgb_tup {κ : Type} {Y : κ → Cx} {vs : List Nat} {k n : Nat} {g : List D → Sl → Option Sl} (hK : ∀ j, (Y j).K = T.K := by intro j; rfl) (hc : ∀ j, (Y j).calm = true := by intro j; rfl) (h : XGBs T Y vs es g) (hn : ∀ j, (assignEach es (Y j).env).length = n := by intro j; rfl) (hst : ∀ j, (assignEach es (Y j).env).findIdx? (·.1) = none := by intro j; rfl) : XGB T Y vs (.Tuple es k pos) (gT n g) := by
  obtain ⟨gs, a1, a2⟩ := h
  refine ⟨gTup T.K n gs, fun j => by rw [← hK j]; exact pg_tup (hc j) (a1 j) (hn j) (hst j), fun st σ B F H S d v s r h Q q => ?_⟩
  unfold gT at h
  split at h
  · rename_i ds
    split at h
    · rename_i hl
      unfold Rep at r
      obtain ⟨a, xs, rfl, ht, hr⟩ := r
      exact ⟨a, xs, rfl, (S.exB.tu ht).sq, by rw [← hr.length]; exact hl, a2 st σ B F H S ds xs s hr h Q q⟩
    · cases h
  · cases h
theorem xr_lc {ifs : List Expr} {scope : Scope} {own : List (Str × Nat)} {it : M (List D)} {gf : D → Sl → Option Sl} {f : M Bool} {fe : M D} (hN : ∀ j, (X j).N.Nodup) (hi : XI T E X tg iter it) (ok : ∀ j, BlkOk (X j).N (X j).env.scope scope own)
    (hg : XGB T (Blk X scope) (own.map (·.2)) tg gf) (ht : XTs T (fun _ => E0) (Blk X scope) ifs f) (he : XE T (fun _ => E0) (Blk X scope) elt fe) (hc : ∀ j, (X j).calm = true := by intro j; rfl) (hs : ∀ j x, foldedSetIterable iter (X j).env x = pure x := by intro _ _; rfl) :
    XR T E X (.ListComp elt [⟨tg, iter, ifs, 0⟩] scope pos) (rLc it gf f fe (own.map (·.2))) := by
  obtain ⟨_, i1, i2⟩ := hi
  obtain ⟨_, g1, g2⟩ := hg
  obtain ⟨_, t1, t2⟩ := ht
  obtain ⟨_, e1, e2⟩ := he
  exact ⟨_, fun j => pe_lc (hc j) (hN j) (i1 j) (ok j) (fun s H C cl fp => g1 (j, s, H, C, cl, fp)) (fun s H C cl fp => t1 (j, s, H, C, cl, fp)) (fun s H C cl fp => e1 (j, s, H, C, cl, fp)) (hs j), semR_lc i2 g2 t2 e2 (wipe_idem _)⟩
/-! ### statements -/
variable {st : Stmt} {rest : List Stmt} {f g : MS}
theorem xss_nil : XSs T E X kp [] sNext := ⟨_, fun _ => pss_nil, semS_next⟩
theorem xss_cons (h1 : XS T E X kp st f) (h2 : XSs T E X kp rest g) : XSs T E X kp (st :: rest) (sSeq f g) := let ⟨_, a1, a2⟩ := h1; let ⟨_, b1, b2⟩ := h2; ⟨_, fun j => pss_cons (a1 j) (b1 j), semS_seq a2 b2⟩
theorem xss_one (h1 : XS T E X kp st f) : XSs T E X kp [st] f := let ⟨_, a1, a2⟩ := h1; ⟨_, fun j => pss_one (a1 j), a2⟩
def sNever : MS := fun _ => none
theorem xs_never : XS T E X kp st sNever := ⟨_, fun _ => ps_never, fun _ _ _ _ _ _ _ _ h => nomatch h⟩
theorem xss_never : XSs T E X kp rest sNever := ⟨_, fun _ => pss_never, fun _ _ _ _ _ _ _ _ h => nomatch h⟩
theorem xs_pass : XS T E X kp (.Pass pos) sNext := ⟨_, fun _ => ps_pass, semS_next⟩
theorem xs_brk : XS T E X kp (.Break pos) sBrk := ⟨_, fun _ => ps_break, semS_brk⟩
theorem xs_ct : XS T E X kp (.Continue pos) sCt := ⟨_, fun _ => ps_continue, semS_ct⟩
theorem xs_set (i : Nat) {pos' : Pos} (hN : ∀ j, (X j).N.Nodup) (he : XR T E X e r) (hk : kp i = false := by rfl) (hi : ∀ j, (X j).N[i]? = some x := by intro j; rfl) (hx : ∀ j, Loc (X j).env.scope x := by intro j; first | exact Or.inl rfl | exact Or.inr rfl) (hs : ∀ j, swapsWith e (some (.Name x pos')) pos.line (X j).env = pure false := by intro j; rfl)
    (hf : ∀ j, (X j).fn x = true ∨ (X j).env.scope.names.lookup x = some .local := by intro j; first | exact .inl rfl | exact .inr rfl) : XS T E X kp (.Assign [.Name x pos'] e pos) (sSet i r) :=
  let ⟨_, a1, a2⟩ := he; ⟨_, fun j => ps_set (hN j) (hi j) (hx j) (a1 j) (hs j) (hf j), semS_set hk a2⟩
theorem xs_setLc (i : Nat) {py spos : Pos} {ifs : List Expr} {scope : Scope} {own : List (Str × Nat)} {it : M (List D)} {gf : D → Sl → Option Sl} {f : M Bool} {fe : M D} (hN : ∀ j, (X j).N.Nodup) (hi : XI T E X tg iter it) (ok : ∀ j, BlkOk (X j).N (X j).env.scope scope own)
    (hg : XGB T (Blk X scope) (own.map (·.2)) tg gf) (ht : XTs T (fun _ => E0) (Blk X scope) ifs f) (he : XE T (fun _ => E0) (Blk X scope) elt fe)
    (hsw : ∀ j, swapsWith (.ListComp elt [⟨tg, iter, ifs, 0⟩] scope pos) (some (.Name y py)) spos.line (X j).env = pure true) (hk : kp i = false := by rfl) (hy : ∀ j, (X j).N[i]? = some y := by intro j; rfl) (hyl : ∀ j, (X j).env.scope.names.lookup y = some .local := by intro j; rfl) (hc : ∀ j, (X j).calm = true := by intro j; rfl) (hs : ∀ j x, foldedSetIterable iter (X j).env x = pure x := by intro _ _; rfl) :
    XS T E X kp (.Assign [.Name y py] (.ListComp elt [⟨tg, iter, ifs, 0⟩] scope pos) spos) (sSet i (rLc it gf f fe (own.map (·.2)))) := by
  obtain ⟨_, i1, i2⟩ := hi
  obtain ⟨_, g1, g2⟩ := hg
  obtain ⟨_, t1, t2⟩ := ht
  obtain ⟨_, e1, e2⟩ := he
  exact ⟨_, fun j => ps_setLc (hc j) (hN j) (hy j) (hyl j) (hsw j) (i1 j) (ok j) (fun s H C cl fp => g1 (j, s, H, C, cl, fp)) (fun s H C cl fp => t1 (j, s, H, C, cl, fp)) (fun s H C cl fp => e1 (j, s, H, C, cl, fp)) (hs j), semS_set hk (semR_lc i2 g2 t2 e2 (wipe_idem _))⟩
theorem xs_asg {gf : D → Sl → Option Sl} (he : XE T E X e fa) (hg : XG T X kp tg gf) (hs : ∀ j, swapsWithSole [tg] e pos.line (X j).env = pure false := by intro j; rfl) (hw : ∀ j, swappedStores [tg] e (X j).env = pure none := by intro j; rfl) (h1 : ∀ j, (assignEach [tg] (X j).env).map (·.2) = [assign tg (X j).env] := by intro j; rfl) : XS T E X kp (.Assign [tg] e pos) (sAsg fa gf) :=
  let ⟨_, a1, a2⟩ := he; let ⟨_, b1, b2⟩ := hg; ⟨_, fun j => ps_asg (a1 j) (b1 j) (hs j) (hw j) (h1 j), semS_asg a2 b2⟩
theorem xs_fld (i : Nat) {ix : Nat → Option Nat} {f : Str} {p pos' : Pos} (hx : ∀ c i, ix c = some i → ClsOk T c ∧ (T.flds c)[i]? = some f) (hv : XE T E X e fa) (hN : ∀ j, (X j).N[i]? = some x := by intro j; rfl) (hvis : ∀ j, Vis (X j).env.scope x := by intro j; first | exact Or.inl rfl | exact Or.inr (Or.inl rfl) | exact Or.inr (Or.inr rfl))
    (hd : (x == ("__debug__" : Str)) = false := by decide +kernel) (hcd : (x == ("__classdict__" : Str)) = false := by decide +kernel) (hK : ∀ j, (X j).K = T.K := by intro j; rfl) (hs : ∀ j, swapsWith e (some (.Attribute (.Name x p) f pos')) pos.line (X j).env = pure false := by intro j; rfl) : XS T E X kp (.Assign [.Attribute (.Name x p) f pos'] e pos) (sFldSet i ix fa) :=
  let ⟨_, a1, a2⟩ := hv; ⟨_, fun j => by rw [← hK j]; exact ps_fld (pe_var (hN j) (hvis j) hd hcd) (a1 j) (hs j), semS_fld hx a2⟩
theorem xs_if {c : Expr} {p q : List Stmt} {fc : M Bool} (hc : XT T E X c fc) (h1 : XSs T E X kp p f) (h2 : XSs T E X kp q g) : XS T E X kp (.If c p q pos) (sIf fc f g) := let ⟨_, c1, c2⟩ := hc; let ⟨_, a1, a2⟩ := h1; let ⟨_, b1, b2⟩ := h2; ⟨_, fun j => ps_if (c1 j) (a1 j) (b1 j), semS_if c2 a2 b2⟩
theorem xs_ret (h : XR T E X e r) : XS T E X kp (.Return (some e) pos) (sRet r) := let ⟨_, a1, a2⟩ := h; ⟨_, fun j => ps_ret (a1 j), semS_ret a2⟩
theorem xs_retN : XS T E X kp (.Return none pos) sRetN := ⟨_, fun _ => ps_retN, semS_retN⟩
theorem xs_expr (h : XR T E X e r) (hs : ∀ j, swapsWith e none pos.line (X j).env = pure false := by intro j; rfl) : XS T E X kp (.Expr e pos) (sDrop r) := let ⟨_, a1, a2⟩ := h; ⟨_, fun j => ps_expr (a1 j) (hs j), semS_drop a2⟩
theorem xs_for {it : M (List D)} {gf : D → Sl → Option Sl} {body : List Stmt} (hi : XI T E X tg iter it) (hg : XG T X kp tg gf) (hb : XSs T E X kp body f) (hp : ∀ j, PassesOwn (model (X j).prog (X j).w) (X j).A (X j).env (X j).xe) (hc : ∀ j, (X j).calm = true := by intro j; rfl) (hs : ∀ j x, foldedSetIterable iter (X j).env x = pure x := by intro _ _; rfl) : XS T E X kp (.For tg iter body [] pos) (sFor it gf f) :=
  let ⟨_, a1, a2⟩ := hi; let ⟨_, b1, b2⟩ := hg; let ⟨_, c1, c2⟩ := hb; ⟨_, fun j => ps_for (hp j) (hc j) (a1 j) (b1 j) (c1 j) (hs j), semS_for a2 b2 c2⟩
theorem xs_while (n : Nat) {c : Expr} {fc : M Bool} {body : List Stmt} (hc : XT T E X c fc) (hb : XSs T E X kp body f) (hp : ∀ j, PassesOwn (model (X j).prog (X j).w) (X j).A (X j).env (X j).xe) : XS T E X kp (.While c body [] pos) (whileL fc f n) := let ⟨_, c1, c2⟩ := hc; let ⟨_, a1, a2⟩ := hb; ⟨_, fun j => ps_while (hp j) (c1 j) (a1 j), semS_while c2 a2 n⟩
/-! ### what a name owns is changed -/
def sApp (i : Nat) (m : M D) : MS := fun st => match m st with
  | some (.v x, s) => (match s[i]? with
    | some (some (.ol xs)) => if xs.length < sizeLine then some (.nx, s.set i (some (.ol (xs ++ [x])))) else none
    | _ => none)
  | some (.x c, s) => some (.x c, s)
  | none => none
theorem ty_ol {H : Hp} {p : Addr} {ys : List V} (h : H p = some (.lst ys)) : tyV T.K "list" (.ref p) H := Or.inl ⟨rfl, _, SqL.of h⟩
/-- the list at a name is there ahead of the argument, and behind it -/
theorem ol_before {st s1 : Sl} {σ : L2.St} {B F H : Hp} {i : Nat} (S : Sim T st σ B F H) (h : ∃ r, st[i]? = some (some r) ∧ ((∃ xs, r = .ol xs) ∨ ∃ xs, r = .d (.lst xs))) : ∃ p, σ[i]? = some (some (.ref p)) ∧ tyV T.K "list" (.ref p) H := by
  obtain ⟨r, hi, hr⟩ := h
  obtain ⟨v, hv, rel⟩ := S.rel i r hi
  rcases hr with ⟨xs, rfl⟩ | ⟨xs, rfl⟩
  · obtain ⟨p, ys, rfl, hp, _⟩ := rel
    exact ⟨p, hv, ty_ol hp⟩
  · have rel : Rep T B (.lst xs) v := rel
    unfold Rep at rel
    obtain ⟨p, ys, rfl, hp, _⟩ := rel
    exact ⟨p, hv, Or.inl ⟨rfl, _, S.exB.sqL hp⟩⟩
def isL (s : Option (Option R)) : Bool := match s with
  | some (some (.ol _)) => true
  | some (some (.d (.lst _))) => true
  | _ => false
theorem isL_of {s : Option (Option R)} (h : isL s = true) : ∃ r, s = some (some r) ∧ ((∃ xs, r = .ol xs) ∨ ∃ xs, r = .d (.lst xs)) := by
  unfold isL at h
  split at h
  · exact ⟨_, rfl, .inl ⟨_, rfl⟩⟩
  · exact ⟨_, rfl, .inr ⟨_, rfl⟩⟩
  · cases h
def sApp' (i : Nat) (m : M D) : MS := fun st => if isL st[i]? then sApp i m st else none
theorem semS_app {i : Nat} {te : TE} {m : M D} (h : SemE T E te m) : SemS T E kp (tDrop (tBM T.K "list" rAppend (tVar i) (tCons te tNil))) (sApp' i m) := by
  intro st σ B F H S fl s hf D hD
  unfold sApp' at hf
  split at hf
  · rename_i hl
    obtain ⟨p, hv, ty⟩ := ol_before (s1 := st) S (isL_of hl)
    refine ⟨_, hv, ty, ?_⟩
    unfold sApp at hf
    split at hf
    · rename_i x s1 e
      split at hf
      · rename_i xs hi
        split at hf
        · rename_i hsz
          cases hf
          refine h st σ B F H S _ _ e _ fun B1 H1 e1 S1 v hx => ?_
          obtain ⟨u, hu, q, ys, rfl, hq, hr⟩ := S1.rel i _ hi
          rw [hu] at hv; cases hv
          exact ⟨p, ys, v, rfl, rfl, hq, by rw [← hr.length]; exact hsz, hD σ B1 _ e1 (Kp.refl _ _) (S1.change hi hu rfl (fun _ z => nomatch z) ⟨p, _, rfl, upd_same, hr.append (reps_cons hx reps_nil)⟩)⟩
        · cases hf
      · cases hf
    · rename_i c s1 e
      cases hf
      exact h st σ B F H S _ _ e _ fun d B1 H1 e1 S1 => hD d σ B1 H1 e1 (Kp.refl _ _) S1
    · cases hf
  · cases hf
theorem xs_app (i : Nat) {p ap cp : Pos} (h : XE T E X e fa) (hN : ∀ j, (X j).N[i]? = some x := by intro j; rfl) (hvis : ∀ j, Vis (X j).env.scope x := by intro j; first | exact Or.inl rfl | exact Or.inr (Or.inl rfl) | exact Or.inr (Or.inr rfl))
    (hd : (x == ("__debug__" : Str)) = false := by decide +kernel) (hcd : (x == ("__classdict__" : Str)) = false := by decide +kernel) (hK : ∀ j, (X j).K = T.K := by intro j; rfl)
    (hbase : ∀ j, attributeBase (.Name x p) "append" (X j).env (eval (.Name x p) (X j).env) = eval (.Name x p) (X j).env := by intro j; rfl)
    (hfew : ∀ j, ((backTo cp (starEach [e] (X j).env)).all (fun x => !x.1) && (backToKw cp (keywordEach [] (X j).env)).all (fun x => x.1.isSome)
      && decide (([e] : List Expr).length + ([] : List Keyword).length + (if ([] : List Keyword).isEmpty then 0 else 1) < 30)) = true := by intro j; rfl)
    (hline : (ap.endLine == cp.line) = true := by rfl) (hss : ∀ j, starEach [e] (X j).env = (false, eval e (X j).env) :: starEach [] (X j).env := by intro j; rfl) (hplain : ∀ j, (backTo cp (starEach [] (X j).env)).any (·.1) = false := by intro j; rfl)
    (hs : ∀ j, swapsWith (.Call (.Attribute (.Name x p) "append" ap) [e] [] cp) none pos.line (X j).env = pure false := by intro j; rfl) : XS T E X kp (.Expr (.Call (.Attribute (.Name x p) "append" ap) [e] [] cp) pos) (sApp' i fa) := by
  obtain ⟨_, a1, a2⟩ := h
  exact ⟨_, fun j => by rw [← hK j]; exact ps_expr (pe_bm PySem.F.plainAttrs_list PySem.F.slot_list_append PySem.F.type_list_append mt_append (pe_var (hN j) (hvis j) hd hcd) (pa_cons (a1 j) pa_nil (hss j)) (hbase j) (hfew j) hline (hss j) (hplain j)) (hs j), semS_app a2⟩
/-- xs.extend(ys), ys any list -/
def sExt (i : Nat) (m : M D) : MS := fun st => if isL st[i]? then (match m st with
  | some (.v (.lst ys), s) => (match s[i]? with
    | some (some (.ol xs)) => if xs.length + ys.length ≤ sizeLine then some (.nx, s.set i (some (.ol (xs ++ ys)))) else none
    | _ => none)
  | some (.x c, s) => some (.x c, s)
  | _ => none) else none
/-- xs[k] = e -/
def sSub (i : Nat) (mi : M D) (m : M D) : MS := fun st => match m st with
  | some (.v x, s1) => (match mi s1 with
    | some (.v (.int k), s2) => (match s2[i]? with
      | some (some (.ol xs)) => (match ixN xs.length k with
        | some j => if isL s1[i]? then some (.nx, s2.set i (some (.ol (xs.set j x)))) else none
        | none => none)
      | _ => none)
    | some (.x c, s) => if isL s1[i]? then some (.x c, s) else none
    | _ => none)
  | some (.x c, s) => some (.x c, s)
  | none => none
theorem semS_sub {i : Nat} {te ti : TE} {m mi : M D} (h : SemE T E te m) (h2 : SemE T E ti mi) : SemS T E kp (tAsg te (gSub (tVar i) ti rSetL)) (sSub i mi m) := by
  intro st σ B F H S fl s hf D hD
  unfold sSub at hf
  split at hf
  · rename_i x s1 e
    refine h st σ B F H S _ _ e _ fun B1 H1 e1 S1 v hx => ?_
    split at hf
    · rename_i k s2 ei
      split at hf
      · rename_i xs hi
        split at hf
        · rename_i j hj
          split at hf
          · rename_i hl
            cases hf
            obtain ⟨p, hv, _⟩ := ol_before (s1 := st) S1 (isL_of hl)
            refine ⟨_, hv, ?_⟩
            refine h2 s1 σ B1 F H1 S1 _ _ ei _ fun B2 H2 e2 S2 w hw => ?_
            cases rep_int hw
            obtain ⟨u, hu, q, ys, rfl, hq, hr⟩ := S2.rel i _ hi
            rw [hu] at hv; cases hv
            exact ⟨p, ys, k, j, rfl, rfl, hq, by rw [← hr.length]; exact hj, hD σ B2 _ (e1.trans e2) (Kp.refl _ _) (S2.change hi hu rfl (fun _ z => nomatch z) ⟨p, _, rfl, upd_same, hr.set (Rep.mono e2 x hx)⟩)⟩
          · cases hf
        · cases hf
      · cases hf
    · rename_i c s2 ei
      split at hf
      · rename_i hl
        cases hf
        obtain ⟨p, hv, _⟩ := ol_before (s1 := st) S1 (isL_of hl)
        refine ⟨_, hv, ?_⟩
        exact h2 s1 σ B1 F H1 S1 _ _ ei _ fun d B2 H2 e2 S2 => hD d σ B2 H2 (e1.trans e2) (Kp.refl _ _) S2
      · cases hf
    · cases hf
  · rename_i c s1 e
    cases hf
    exact h st σ B F H S _ _ e _ fun d B1 H1 e1 S1 => hD d σ B1 H1 e1 (Kp.refl _ _) S1
  · cases hf
theorem xs_sub (i : Nat) {p sp' : Pos} {ei : Expr} (hv : XE T E X e fa) (hi : XE T E X ei fb) (hN : ∀ j, (X j).N[i]? = some x := by intro j; rfl) (hvis : ∀ j, Vis (X j).env.scope x := by intro j; first | exact Or.inl rfl | exact Or.inr (Or.inl rfl) | exact Or.inr (Or.inr rfl))
    (hd : (x == ("__debug__" : Str)) = false := by decide +kernel) (hcd : (x == ("__classdict__" : Str)) = false := by decide +kernel)
    (ha : ∀ j v, assign (.Subscript (.Name x p) ei sp') (X j).env v = (do
      let ov ← holding [v] (eval (.Name x p) (X j).env)
      let iv ← holding [v, ov] (eval ei (X j).env)
      standAt sp'
      holding [v, ov, iv] (setItem ov iv v)
      release [v, ov, iv] []) := by intro _ _; rfl)
    (hs : ∀ j, swapsWithSole [.Subscript (.Name x p) ei sp'] e pos.line (X j).env = pure false := by intro j; rfl) (hw : ∀ j, swappedStores [.Subscript (.Name x p) ei sp'] e (X j).env = pure none := by intro j; rfl) (h1 : ∀ j, (assignEach [.Subscript (.Name x p) ei sp'] (X j).env).map (·.2) = [assign (.Subscript (.Name x p) ei sp') (X j).env] := by intro j; rfl) : XS T E X kp (.Assign [.Subscript (.Name x p) ei sp'] e pos) (sSub i fb fa) := by
  obtain ⟨_, a1, a2⟩ := hv
  obtain ⟨_, b1, b2⟩ := hi
  exact ⟨_, fun j => ps_asg (a1 j) (pg_sub (pe_var (hN j) (hvis j) hd hcd) (b1 j) set_list (ha j)) (hs j) (hw j) (h1 j), semS_sub a2 b2⟩
end
/-! ### THE RULE for a def of the text -/
/-- a def's context at its entry -/
abbrev CxD (P : Program) (w : World) (T : Tab) (mg : Str → Option Value) (base : Heap) (N : List Str) (qual : Str) (st : Stmt) (f : Addr) (cdv : Value) (A : Around) (outer : List Env) (s : Shared) (H : Hp) (E : XK) : Unit → Cx := fun _ => cxOf (L2.CX P w) P w T.K mg base N qual (defScope st) f cdv A outer s H E
theorem ok_def {P : Program} {w : World} {T : Tab} {mg : Str → Option Value} {base : Heap} {x qual : Str} {st : Stmt} {f : Addr} {fd : FuncData} {N ps : List Str} {k : Nat} {kp : Nat → Bool} {body : MS} (F : Fun T.K x qual st f fd) (S : FnScope N ps (defScope st))
    (h : ∀ (cdv : Value) (A : Around) (outer : List Env) (s : Shared) (H : Hp) (E : XK), Room k (A.deeper (envOfC qual (defScope st) s.heap.objs.size f cdv)) →
      XSs T (fun _ => E) (CxD P w T mg base N qual st f cdv A outer s H E) kp (defBody st) body) : FnOk P w T.K mg base (L2.CX P w) (k + 1) f fd ps (sp T ps.length (fnOf ps.length N.length kp body)) := by
  refine F.okX S (fun vs H Q E h => h.1) fun cdv A outer s H vs Q E hr hsp => ?_
  obtain ⟨t, a1, a2⟩ := h cdv A outer s H E hr
  exact ⟨t, a1 (), read_fn hsp a2⟩
/-- what a def's body may use -/
theorem rm_def {P : Program} {w : World} {T : Tab} {mg : Str → Option Value} {base : Heap} {N : List Str} {qual : Str} {st : Stmt} {f : Addr} {cdv : Value} {A : Around} {outer : List Env} {s : Shared} {H : Hp} {E : XK} {k : Nat} (hr : Room k (A.deeper (envOfC qual (defScope st) s.heap.objs.size f cdv))) :
    Rm (CxD P w T mg base N qual st f cdv A outer s H E) := fun _ => by
  have h : (A.deeper (envOfC qual (defScope st) s.heap.objs.size f cdv)).units + 16 * k + 200 < cLine := hr.un
  show (A.deeper (envOfC qual (defScope st) s.heap.objs.size f cdv)).units + 65 < cLine
  omega
theorem pass_def {P : Program} {w : World} {T : Tab} {mg : Str → Option Value} {base : Heap} {N : List Str} {qual : Str} {st : Stmt} {f : Addr} {cdv : Value} {A : Around} {outer : List Env} {s : Shared} {H : Hp} {E : XK} {j : Unit} (σ : L2.St) :
    PassesAt (L2.CX P w) (CxD P w T mg base N qual st f cdv A outer s H E j) σ E :=
  passAt (W := fun cls d _ H => E cls d H) (X := CxD P w T mg base N qual st f cdv A outer s H E j) (takes_of rfl rfl rfl rfl) σ
theorem own_def {P : Program} {w : World} {T : Tab} {mg : Str → Option Value} {base : Heap} {N : List Str} {qual : Str} {st : Stmt} {f : Addr} {cdv : Value} {A : Around} {outer : List Env} {s : Shared} {H : Hp} {E : XK} (j : Unit) :
    PassesOwn (model (CxD P w T mg base N qual st f cdv A outer s H E j).prog (CxD P w T mg base N qual st f cdv A outer s H E j).w) (CxD P w T mg base N qual st f cdv A outer s H E j).A (CxD P w T mg base N qual st f cdv A outer s H E j).env (CxD P w T mg base N qual st f cdv A outer s H E j).xe :=
  passes_of (X := CxD P w T mg base N qual st f cdv A outer s H E j) rfl
/-- within a comprehension's block nothing may be raised -/
theorem pass_blk {Y : Cx} {P : Program} {w : World} (σ : L2.St) : PassesAt (L2.CX P w) Y σ E0 := fun _ _ _ _ _ _ h => by
  obtain ⟨_, _, _, _, _, _, _, _, _, _, _, _, z⟩ := h
  exact z.elim
end Fz

-- text Fz13
set_option Elab.async false
set_option linter.all false
set_option maxRecDepth 100000
set_option maxHeartbeats 2000000
namespace Fz
open PySem L2 PySem.Spec PyProof.Rows
/-! ### the defs around, by what they do -/
section
variable (P : Program) (w : World) (T : Tab) (mg : Str → Option Value) (base : Heap)
structure FnG (x : Str) (n : Nat) (F : Fn) (k : Nat) : Prop where
  ex : ∃ f fd ps, mg x = some (.ref f) ∧ PySem.W.keepIn T.K (.ref f) = true ∧ Binds T.K fd ps [] ∧ FnOk P w T.K mg base (L2.CX P w) k f fd ps (sp T n F)
structure MtG (c : Nat) (m : Str) (n : Nat) (F : Fn) (k : Nat) : Prop where
  ex : ∃ f fd ps, Meth T.K (T.cls c) m f ∧ Binds T.K fd ps [] ∧ FnOk P w T.K mg base (L2.CX P w) k f fd ps (sp T n F)
  cl : ClsOk T c
  nf : m ∉ T.flds c
structure MkG (x : Str) (c n : Nat) (F : Fn) (k : Nat) : Prop where
  ex : ∃ f fd ps, mg x = some (.ref (T.cls c)) ∧ Mk T.K (T.cls c) f ∧ Binds T.K fd ps [] ∧ FnOk P w T.K mg base (L2.CX P w) k f fd ps (sp T n F)
end
section
variable {P : Program} {w : World} {T : Tab} {mg : Str → Option Value} {base : Heap} {N : List Str} {qual : Str} {st : Stmt} {f : Addr} {cdv : Value} {A : Around} {outer : List Env} {s : Shared} {H : Hp} {E : XK} {x m : Str} {n c k : Nat} {F : Fn}
theorem FnG.mono {j : Nat} (G : FnG P w T mg base x n F j) (h : j ≤ k) : FnG P w T mg base x n F k := let ⟨f, fd, ps, a, b, c, d⟩ := G.ex; ⟨f, fd, ps, a, b, c, d.mono h⟩
theorem FnG.sub {F' : Fn} (G : FnG P w T mg base x n F k) (h : ∀ rs o, F' rs = some o → F rs = some o) : FnG P w T mg base x n F' k := let ⟨f, fd, ps, a, b, c, d⟩ := G.ex; ⟨f, fd, ps, a, b, c, fn_sub d h⟩
theorem MtG.mono {j : Nat} (G : MtG P w T mg base c m n F j) (h : j ≤ k) : MtG P w T mg base c m n F k := ⟨let ⟨f, fd, ps, a, b, d⟩ := G.ex; ⟨f, fd, ps, a, b, d.mono h⟩, G.cl, G.nf⟩
theorem MtG.sub {F' : Fn} (G : MtG P w T mg base c m n F k) (h : ∀ rs o, F' rs = some o → F rs = some o) : MtG P w T mg base c m n F' k := ⟨let ⟨f, fd, ps, a, b, d⟩ := G.ex; ⟨f, fd, ps, a, b, fn_sub d h⟩, G.cl, G.nf⟩
theorem MkG.sub {F' : Fn} (G : MkG P w T mg base x c n F k) (h : ∀ rs o, F' rs = some o → F rs = some o) : MkG P w T mg base x c n F' k := let ⟨f, fd, ps, a, b, b', d⟩ := G.ex; ⟨f, fd, ps, a, b, b', fn_sub d h⟩
/-- from a def's body -/
theorem FnG.d {j : Nat} (G : FnG P w T mg base x n F j) (hr : Room k (A.deeper (envOfC qual (defScope st) s.heap.objs.size f cdv))) (h : j ≤ k) (i : Unit) : FunAt (CxD P w T mg base N qual st f cdv A outer s H E i) T (fun _ => E) x n F [] :=
  let ⟨f, fd, ps, a, b, c, d⟩ := G.ex; ⟨f, fd, ps, _, j, a, b, c, d, hr.mono h, fun σ => pass_def σ⟩
theorem MtG.d {j : Nat} (G : MtG P w T mg base c m n F j) (hr : Room k (A.deeper (envOfC qual (defScope st) s.heap.objs.size f cdv))) (h : j ≤ k) (i : Unit) : MethAt (CxD P w T mg base N qual st f cdv A outer s H E i) T (fun _ => E) c m n F :=
  let ⟨f, fd, ps, a, b, d⟩ := G.ex; ⟨f, fd, ps, _, j, G.cl.cls, a, b, d, hr.mono h, fun σ => pass_def σ, G.nf⟩
theorem MkG.d {j : Nat} (G : MkG P w T mg base x c n F j) (hr : Room k (A.deeper (envOfC qual (defScope st) s.heap.objs.size f cdv))) (h : j + 1 ≤ k) (i : Unit) : MakeAt (CxD P w T mg base N qual st f cdv A outer s H E i) T (fun _ => E) x c n F :=
  let ⟨f, fd, ps, a, b, b', d⟩ := G.ex; ⟨f, fd, ps, _, j, a, b, b', d, hr.mono h, fun σ => pass_def σ⟩
/-- from a comprehension's block -/
theorem FunAt.blk {ι : Type} {X : ι → Cx} {E : L2.St → XK} (h : ∀ i, FunAt (X i) T E x n F []) {scope : Scope} (hc : ∀ i, (X i).prog = P) (G : FnG P w T mg base x n F k) (hr : ∀ i, Room k (X i).A) (hw : ∀ i, (X i).w = w) (hm : ∀ i, (X i).mg = mg) (hb : ∀ i, (X i).base = base) (hK : ∀ i, (X i).K = T.K) (i) : FunAt (Blk X scope i) T (fun _ => E0) x n F [] := by
  obtain ⟨f, fd, ps, a, b, c, d⟩ := G.ex
  refine ⟨f, fd, ps, _, k, ?_, ?_, ?_, ?_, hr i.1, fun σ => pass_blk (P := P) (w := w) σ⟩
  · show (X i.1).mg x = _; rw [hm]; exact a
  · show PySem.W.keepIn (X i.1).K _ = _; rw [hK]; exact b
  · show Binds (X i.1).K _ _ _; rw [hK]; exact c
  · show FnOk (X i.1).prog (X i.1).w (X i.1).K (X i.1).mg (X i.1).base _ _ _ _ _ _; rw [hc, hw, hK, hm, hb]; exact d
theorem FnG.b {j : Nat} {scope : Scope} (G : FnG P w T mg base x n F j) (hr : Room k (A.deeper (envOfC qual (defScope st) s.heap.objs.size f cdv))) (h : j ≤ k) (i) : FunAt (Blk (CxD P w T mg base N qual st f cdv A outer s H E) scope i) T (fun _ => E0) x n F [] :=
  let ⟨f, fd, ps, a, b, c, d⟩ := G.ex; ⟨f, fd, ps, _, j, a, b, c, d, hr.mono h, fun σ => pass_blk (P := P) (w := w) σ⟩
theorem MtG.b {j : Nat} {scope : Scope} (G : MtG P w T mg base c m n F j) (hr : Room k (A.deeper (envOfC qual (defScope st) s.heap.objs.size f cdv))) (h : j ≤ k) (i) : MethAt (Blk (CxD P w T mg base N qual st f cdv A outer s H E) scope i) T (fun _ => E0) c m n F :=
  let ⟨f, fd, ps, a, b, d⟩ := G.ex; ⟨f, fd, ps, _, j, G.cl.cls, a, b, d, hr.mono h, fun σ => pass_blk (P := P) (w := w) σ, G.nf⟩
theorem MkG.b {j : Nat} {scope : Scope} (G : MkG P w T mg base x c n F j) (hr : Room k (A.deeper (envOfC qual (defScope st) s.heap.objs.size f cdv))) (h : j + 1 ≤ k) (i) : MakeAt (Blk (CxD P w T mg base N qual st f cdv A outer s H E) scope i) T (fun _ => E0) x c n F :=
  let ⟨f, fd, ps, a, b, b', d⟩ := G.ex; ⟨f, fd, ps, _, j, a, b, b', d, hr.mono h, fun σ => pass_blk (P := P) (w := w) σ⟩
/-- a table of methods by class: built entry by entry -/
def MtT (P : Program) (w : World) (T : Tab) (mg : Str → Option Value) (base : Heap) (m : Str) (n k : Nat) (tab : Nat → Option Fn) : Prop := ∀ c F, tab c = some F → MtG P w T mg base c m n F k
theorem MtT.d {j : Nat} {tab : Nat → Option Fn} (G : MtT P w T mg base m n j tab) (hr : Room k (A.deeper (envOfC qual (defScope st) s.heap.objs.size f cdv))) (h : j ≤ k) : ∀ (i : Unit) c F, tab c = some F → MethAt (CxD P w T mg base N qual st f cdv A outer s H E i) T (fun _ => E) c m n F := fun i c F hc => (G c F hc).d hr h i
theorem MtT.b {j : Nat} {scope : Scope} {tab : Nat → Option Fn} (G : MtT P w T mg base m n j tab) (hr : Room k (A.deeper (envOfC qual (defScope st) s.heap.objs.size f cdv))) (h : j ≤ k) : ∀ i c F, tab c = some F → MethAt (Blk (CxD P w T mg base N qual st f cdv A outer s H E) scope i) T (fun _ => E0) c m n F := fun i c F hc => (G c F hc).b hr h i
theorem MtT.nf {j : Nat} {tab : Nat → Option Fn} (G : MtT P w T mg base m n j tab) : ∀ c F, tab c = some F → m ∉ T.flds c := fun c F hc => (G c F hc).nf
theorem MtT.mono {j : Nat} {tab : Nat → Option Fn} (G : MtT P w T mg base m n j tab) (h : j ≤ k) : MtT P w T mg base m n k tab := fun c F hc => (G c F hc).mono h
/-- a def of the text, by the rule -/
theorem fng_of {fa : Addr} {fd : FuncData} {ps : List Str} (hm : mg x = some (.ref fa)) {x' qual' : Str} {st' : Stmt} (Fu : Fun T.K x' qual' st' fa fd) (hb : Binds T.K fd ps []) (h : FnOk P w T.K mg base (L2.CX P w) k fa fd ps (sp T n F)) : FnG P w T mg base x n F k := ⟨fa, fd, ps, hm, Fu.kp, hb, h⟩
end
section
variable {ι : Type} {T : Tab} {E : L2.St → XK} {X : ι → Cx} {kp : Nat → Bool} {pos apos : Pos} {e a b c o : Expr} {es : List Expr} {fa fb : M D} {fs : M (List D)} {r : M R} {x : Str}
/-! ### built-ins, one by one -/
theorem xe_len {p : Pos} (hm : ∀ j, (X j).mg "len" = none) (ha : XA T E X [e] fs) (hK : ∀ j, (X j).K = T.K := by intro j; rfl) (hg : ∀ j, Gl (X j) "len" := by intro j; rfl) (he : ∀ j, starEach [e] (X j).env = (false, eval e (X j).env) :: starEach [] (X j).env := by intro j; rfl) (hpl : ∀ j, (backTo pos (starEach [] (X j).env)).any (·.1) = false := by intro j; rfl) : XE T E X (.Call (.Name "len" p) [e] [] pos) (eOp dLen fs) :=
  xe_callB (fun j => by rw [← hK j]; exact call_len) p_len hm PySem.boot_len ha hg (by decide +kernel) (by decide +kernel) he hpl
theorem xe_all {p : Pos} (hm : ∀ j, (X j).mg "all" = none) (ha : XA T E X [e] fs) (hc : ∀ j, (X j).calm = true := by intro j; rfl) (hK : ∀ j, (X j).K = T.K := by intro j; rfl) (hg : ∀ j, Gl (X j) "all" := by intro j; rfl) (he : ∀ j, starEach [e] (X j).env = (false, eval e (X j).env) :: starEach [] (X j).env := by intro j; rfl) (hpl : ∀ j, (backTo pos (starEach [] (X j).env)).any (·.1) = false := by intro j; rfl) : XE T E X (.Call (.Name "all" p) [e] [] pos) (eOp dAll fs) :=
  xe_callB (fun j => by rw [← hK j]; exact cr_all (hc j)) p_all hm (by decide +kernel) ha hg (by decide +kernel) (by decide +kernel) he hpl
theorem xe_any {p : Pos} (hm : ∀ j, (X j).mg "any" = none) (ha : XA T E X [e] fs) (hc : ∀ j, (X j).calm = true := by intro j; rfl) (hK : ∀ j, (X j).K = T.K := by intro j; rfl) (hg : ∀ j, Gl (X j) "any" := by intro j; rfl) (he : ∀ j, starEach [e] (X j).env = (false, eval e (X j).env) :: starEach [] (X j).env := by intro j; rfl) (hpl : ∀ j, (backTo pos (starEach [] (X j).env)).any (·.1) = false := by intro j; rfl) : XE T E X (.Call (.Name "any" p) [e] [] pos) (eOp dAny fs) :=
  xe_callB (fun j => by rw [← hK j]; exact cr_any (hc j)) p_any hm (by decide +kernel) ha hg (by decide +kernel) (by decide +kernel) he hpl
theorem xe_intc {p : Pos} (hm : ∀ j, (X j).mg "int" = none) (ha : XA T E X [e] fs) (hg : ∀ j, Gl (X j) "int" := by intro j; rfl) (he : ∀ j, starEach [e] (X j).env = (false, eval e (X j).env) :: starEach [] (X j).env := by intro j; rfl) (hpl : ∀ j, (backTo pos (starEach [] (X j).env)).any (·.1) = false := by intro j; rfl) : XE T E X (.Call (.Name "int" p) [e] [] pos) (eOp dInt fs) :=
  xe_callTy (fun j => call_int1) p_int hm boot_int ha hg (by decide +kernel) (by decide +kernel) he hpl
theorem xe_tuple {p : Pos} (hm : ∀ j, (X j).mg "tuple" = none) (ha : XA T E X [e] fs) (hK : ∀ j, (X j).K = T.K := by intro j; rfl) (hg : ∀ j, Gl (X j) "tuple" := by intro j; rfl) (he : ∀ j, starEach [e] (X j).env = (false, eval e (X j).env) :: starEach [] (X j).env := by intro j; rfl) (hpl : ∀ j, (backTo pos (starEach [] (X j).env)).any (·.1) = false := by intro j; rfl) : XE T E X (.Call (.Name "tuple" p) [e] [] pos) (eOp dTuple fs) :=
  xe_callTy (fun j => by rw [← hK j]; exact call_tuple_of) p_tuple hm (by decide +kernel) ha hg (by decide +kernel) (by decide +kernel) he hpl
theorem xr_list {p : Pos} (hm : ∀ j, (X j).mg "list" = none) (ha : XA T E X [e] fs) (hK : ∀ j, (X j).K = T.K := by intro j; rfl) (hg : ∀ j, Gl (X j) "list" := by intro j; rfl) (he : ∀ j, starEach [e] (X j).env = (false, eval e (X j).env) :: starEach [] (X j).env := by intro j; rfl) (hpl : ∀ j, (backTo pos (starEach [] (X j).env)).any (·.1) = false := by intro j; rfl) : XR T E X (.Call (.Name "list" p) [e] [] pos) (rOp dList fs) :=
  xr_callTy (fun j => by rw [← hK j]; exact call_list_of) p_list hm (by decide +kernel) ha hg (by decide +kernel) (by decide +kernel) he hpl
end
end Fz

-- text Fz14
set_option Elab.async false
set_option linter.all false
set_option maxRecDepth 100000
set_option maxHeartbeats 2000000
namespace PySem.AutoSeq1
open PySem
set_option maxRecDepth 8000 in
theorem list_extend_tupW (l : Addr) (items : Array Value) (n : Nat) (b : Addr) (items2 : Array Value) (n2 : Nat) (dd : Option Addr) (sl : Array (Option Value)) (hs0 : ¬(!items.isEmpty && Builtin.List.listTooLong (items.size + items2.size)) = true) (hs1 : items.size ≤ sizeLine) (hs2 : items.size + items2.size ≤ sizeLine + 1) :
    Meets (Builtin.«list.extend» ⟨[.ref l, .ref b], []⟩) (fun _ R s => s.heap.get? l = some { cls := .type "list", dict := none, data := .seq items n, slots := #[] } ∧ s.heap.get? b = some { cls := .type "tuple", dict := dd, data := .seq items2 n2, slots := sl } ∧ R (.ok (.ret Value.none)) { s with heap := s.heap.update l (Obj.mapSeq fun x => x ++ items2), toks := s.toks }) :=
  .of_wp fun prog w A R s h => by
    obtain ⟨hp, g, d, tk, os⟩ := s; obtain ⟨hl, hb, h⟩ := h; have f1 := idx_int; have f2 := sub_tuple_tuple; have f3 := sub_list_list; have f4 := sub_tuple_list; have f5 := sub_list_tuple;
    have hz' : (items ++ items2).size ≤ sizeLine + 1 := by rw [Array.size_append]; exact hs2
    wp_walk using (wpAny_updateSeq hl rfl (hz := hs1) (_hz' := hz')), wpAny_loadPart' hl, wpAny_loadPart' hb; exact ⟨_, rfl, h⟩
set_option maxRecDepth 8000 in
theorem list_extend_lstW (l : Addr) (items : Array Value) (n : Nat) (b : Addr) (items2 : Array Value) (n2 : Nat) (dd : Option Addr) (sl : Array (Option Value)) (hs0 : ¬(!items.isEmpty && Builtin.List.listTooLong (items.size + items2.size)) = true) (hs1 : items.size ≤ sizeLine) (hs2 : items.size + items2.size ≤ sizeLine + 1) :
    Meets (Builtin.«list.extend» ⟨[.ref l, .ref b], []⟩) (fun _ R s => s.heap.get? l = some { cls := .type "list", dict := none, data := .seq items n, slots := #[] } ∧ s.heap.get? b = some { cls := .type "list", dict := dd, data := .seq items2 n2, slots := sl } ∧ R (.ok (.ret Value.none)) { s with heap := s.heap.update l (Obj.mapSeq fun x => x ++ items2), toks := s.toks }) :=
  .of_wp fun prog w A R s h => by
    obtain ⟨hp, g, d, tk, os⟩ := s; obtain ⟨hl, hb, h⟩ := h; have f1 := idx_int; have f2 := sub_tuple_tuple; have f3 := sub_list_list; have f4 := sub_tuple_list; have f5 := sub_list_tuple;
    have hz' : (items ++ items2).size ≤ sizeLine + 1 := by rw [Array.size_append]; exact hs2
    wp_walk using (wpAny_updateSeq hl rfl (hz := hs1) (_hz' := hz')), wpAny_loadPart' hl, wpAny_loadPart' hb; exact ⟨_, rfl, h⟩
end PySem.AutoSeq1
namespace Fz
open PySem L2 PySem.Spec PyProof.Rows
section
variable {X : Cx}
/-- xs.extend(ys), ys any list or tuple -/
def rExtA (K : PySem.W.Frag) : V → List V → Hp → VK → Prop := fun x vs H Q => ∃ l b xs zs, x = .ref l ∧ vs = [.ref b] ∧ H l = some (.lst xs) ∧ (SqL K H b zs ∨ SqT K H b zs) ∧ xs.length + zs.length ≤ sizeLine ∧ Q .non (upd H l (.lst (xs ++ zs)))
theorem mt_extA : MtM X "list.extend" (rExtA X.K) := by
  intro pins s σ H x vs v us Q I rx rv h
  obtain ⟨l, b, xs, zs, rfl, rfl, hH, hB, hz, q⟩ := h
  cases rx
  obtain ⟨u, rfl, ru⟩ := rv.one
  cases ru
  obtain ⟨z, its, n, r, hl, e⟩ := I.lstM hH
  rcases hB with hB | hB
  · obtain ⟨its2, r2, ⟨⟨cls2, dd2, data2, sl2⟩, n2, e2, hc2, hk2, hd2⟩, _⟩ := I.list hB
    simp only at hc2 hd2 hk2
    subst hc2 hd2 hk2
    have hl2 := r2.length
    have hsz : its.toArray.size + its2.toArray.size ≤ sizeLine := by rw [List.size_toArray, List.size_toArray]; omega
    have hlong : ¬ (!its.toArray.isEmpty && Builtin.List.listTooLong (its.toArray.size + its2.toArray.size)) = true := by
      rw [notLongL hsz, Bool.and_false]
      exact Bool.false_ne_true
    refine call_meets F.slot_list_extend ⟨_, e, rfl⟩ F.entry_list_extend (F.args_list_extend_2 _ _)
      (AutoSeq1.list_extend_lstW l its.toArray n b its2.toArray n2 _ _ hlong (by rw [List.size_toArray]; omega) (by omega)) ⟨e, e2, ?_⟩
    refine ⟨.non, _, I.lset (its' := its ++ its2) hH e (by simp) (r.append r2) ?_, rfl, q⟩
    rw [List.length_append]
    omega
  · obtain ⟨its2, r2, p2, _⟩ := I.tuple hB
    obtain ⟨⟨cls2, dd2, data2, sl2⟩, e2, hc2, n2, hd2⟩ := id p2
    simp only at hc2 hd2
    subst hc2 hd2
    have hl2 := r2.length
    have hsz : its.toArray.size + its2.toArray.size ≤ sizeLine := by rw [List.size_toArray, List.size_toArray]; omega
    have hlong : ¬ (!its.toArray.isEmpty && Builtin.List.listTooLong (its.toArray.size + its2.toArray.size)) = true := by
      rw [notLongL hsz, Bool.and_false]
      exact Bool.false_ne_true
    refine call_meets F.slot_list_extend ⟨_, e, rfl⟩ F.entry_list_extend (F.args_list_extend_2 _ _)
      (AutoSeq1.list_extend_tupW l its.toArray n b its2.toArray n2 _ _ hlong (by rw [List.size_toArray]; omega) (by omega)) ⟨e, e2, ?_⟩
    refine ⟨.non, _, I.lset (its' := its ++ its2) hH e (by simp) (r.append r2) ?_, rfl, q⟩
    rw [List.length_append]
    omega
/-- list + list, either written, frozen or tracked -/
def rCatL (K : PySem.W.Frag) : R2 := fun x y H Q => ∃ l b xs zs, x = .ref l ∧ y = .ref b ∧ SqL K H l xs ∧ SqL K H b zs ∧ xs.length + zs.length ≤ sizeLine ∧ ∀ p, H p = none → Q (.ref p) (upd H p (.lst (xs ++ zs)))
theorem op_catL : OpR X (binaryOp .Add) (rCatL X.K) := by
  intro pins s σ H x y v u Q I rx ry h
  obtain ⟨l, b, xs, zs, rfl, rfl, hH, hB, hz, q⟩ := h
  cases rx
  cases ry
  obtain ⟨its, r, ⟨⟨cls, dd, data, sl⟩, n, e, hc, hk, hd⟩, hl⟩ := I.list hH
  obtain ⟨its2, r2, ⟨⟨cls2, dd2, data2, sl2⟩, n2, e2, hc2, hk2, hd2⟩, hl2⟩ := I.list hB
  simp only at hc hd hc2 hd2
  subst hc hd hc2 hd2
  have l1 := r.length
  have l2 := r2.length
  have ea : its.toArray ++ its2.toArray = (its ++ its2).toArray := by simp
  refine concat_meets ⟨_, e, rfl⟩ ⟨_, e2, rfl⟩ noFill_list_add seq_list_add PySem.F.slot_list_add PySem.F.entry_list_add (PySem.F.args_list_add_2 _ _) (list_addW l b its.toArray its2.toArray n n2 dd dd2 sl sl2 (by rw [List.size_toArray, List.size_toArray]; omega)) ⟨e, e2, ?_⟩
  rw [ea]
  exact ⟨.ref _, _, I.lnew (t' := s.toks) (r.append r2) (by rw [List.length_append]; omega), rfl, q _ I.fresh⟩
end
end Fz

-- text Fz15
set_option Elab.async false
set_option linter.all false
set_option maxRecDepth 100000
set_option maxHeartbeats 2000000
namespace Fz
open PySem L2 PySem.Spec PyProof.Rows
/-- minus -/
def dNeg (x : D) : Option D := match x with | .int i => some (.int (-i)) | _ => none
/-! ### types -/
def tyD : D → Option String
  | .non => some "NoneType"
  | .bl _ => some "bool"
  | .int _ => some "int"
  | .str _ => some "str"
  | .tup _ => some "tuple"
  | .lst _ => some "list"
  | .dct _ _ => some "dict"
  | .obj _ _ => none
theorem tyx_of {T : Tab} {B H : Hp} {x : D} {v : V} {t : String} (e : Ex B H) (r : Rep T B x v) (h : tyD x = some t) : TyX T.K H v (.type t) := by
  cases x with
  | non => cases h; cases rep_non r; exact .base .non
  | bl b => cases h; cases rep_bl r; exact .base (.bl b)
  | int i => cases h; cases rep_int r; exact .base (.int i)
  | str s => cases h; obtain ⟨rfl, _⟩ := rep_str r; exact .base (.str s)
  | tup ds =>
    cases h
    unfold Rep at r
    obtain ⟨a, xs, rfl, h2, _⟩ := r
    rcases h2 with h2 | ⟨o, its, n, h3, h4, _⟩
    · exact .base (.tup (e a _ h2))
    · exact .kTuple h3 h4
  | lst ds =>
    cases h
    unfold Rep at r
    obtain ⟨a, xs, rfl, h2, _⟩ := r
    rcases h2 with (h2 | ⟨o, h2⟩) | ⟨o, its, n, h3, h4, _⟩
    · exact .base (.lst (e a _ h2))
    · exact .base (.frz (e a _ h2))
    · exact .kList h3 h4
  | dct ks vs =>
    cases h
    unfold Rep at r
    obtain ⟨a, kvs, rfl, h2, _⟩ := r
    exact .base (.dK (e a _ h2))
  | obj c fs => cases h
/-- is a value of type t one of type c -/
def isTy (t c : String) : Bool := t == c || (t == "bool" && c == "int")
def tyNames : List String := ["NoneType", "bool", "int", "str", "tuple", "list", "dict"]
theorem tyD_mem {x : D} {t : String} (h : tyD x = some t) : t ∈ tyNames := by
  cases x <;> cases h <;> decide
theorem kit_all : (tyNames.all fun t => ["str", "int", "bool", "list", "tuple", "dict"].all fun c => kitB t c == some (isTy t c)) = true := by decide +kernel
theorem kit_is {t c : String} (ht : t ∈ tyNames) (hc : c ∈ ["str", "int", "bool", "list", "tuple", "dict"]) : kitB t c = some (isTy t c) := by
  have := List.all_eq_true.mp (List.all_eq_true.mp kit_all t ht) c hc
  exact eq_of_beq this
def dIsi (c : String) (x : D) : Option D := (tyD x).map fun t => .bl (isTy t c)
def dIsi2 (c c' : String) (x : D) : Option D := (tyD x).map fun t => .bl (isTy t c || isTy t c')
section
variable {ι : Type} {T : Tab} {E : L2.St → XK} {X : ι → Cx} {kp : Nat → Bool} {pos apos : Pos} {e a b c o : Expr} {es : List Expr} {fa fb fc : M D} {fs : M (List D)} {fl : M (List Arg)} {r : M R} {x m : Str} {te ta : TE} {t : TA}
theorem semE_isi {c : String} (hc : c ∈ ["str", "int", "bool", "list", "tuple", "dict"]) (ha : SemE T E te fa) : SemE T E (tCB (rIsi T.K) (tCons te (tCons (tC (.ty c)) tNil))) (eUn (dIsi c) fa) := by
  intro st σ B F H S o s h Q hQ
  refine okx_bnd h hQ (fun o1 s1 e1 q => ha st σ B F H S o1 s1 e1 _ q) fun a s1 B1 H1 _ h2 e1 S1 hQ1 v hv => ?_
  obtain ⟨z, hz, rfl, rfl⟩ := opt_some h2
  unfold dIsi at hz
  cases ht : tyD a with
  | none => rw [ht] at hz; cases hz
  | some t =>
    rw [ht] at hz; cases hz
    exact ⟨v, .ty c, .type t, .type c, _, rfl, .ty c, tyx_of S1.exB hv ht, kit_ty (kit_is (tyD_mem ht) hc), hQ1 B1 H1 (Ex.refl _) S1 _ rfl⟩
theorem semE_isi2 {c c' : String} (hc : c ∈ ["str", "int", "bool", "list", "tuple", "dict"]) (hc' : c' ∈ ["str", "int", "bool", "list", "tuple", "dict"]) (ha : SemE T E te fa) : SemE T E (tCB (rIsiT T.K) (tCons te (tCons (tTup (tCons (tC (.ty c)) (tCons (tC (.ty c')) tNil))) tNil))) (eUn (dIsi2 c c') fa) := by
  intro st σ B F H S o s h Q hQ
  refine okx_bnd h hQ (fun o1 s1 e1 q => ha st σ B F H S o1 s1 e1 _ q) fun a s1 B1 H1 _ h2 e1 S1 hQ1 v hv => ?_
  obtain ⟨z, hz, rfl, rfl⟩ := opt_some h2
  unfold dIsi2 at hz
  cases ht : tyD a with
  | none => rw [ht] at hz; cases hz
  | some t =>
    rw [ht] at hz; cases hz
    refine ⟨by show 2 ≤ sizeLine; decide, fun p hp => ?_⟩
    have w := Ext.newT (o := .tup [.ty c, .ty c']) S1.exB hp
    refine ⟨v, p, [.ty c, .ty c'], .type t, [.type c, .type c'], _, rfl, upd_same, .cons (.ty c) (.cons (.ty c') .nil), tyx_of w.bh (Rep.mono w.b _ hv) ht, ?_, hQ1 _ _ w.b (S1.ext w) _ rfl⟩
    have k1 := kit_ty (K := T.K) (kit_is (tyD_mem ht) hc)
    have k2 := kit_ty (K := T.K) (kit_is (tyD_mem ht) hc')
    refine kitAny_cons k1 (fun z => kitAny_cons k2 (fun z' => ?_) (fun z' => ?_)) (fun z => ?_)
    · rw [z, z']; exact kitAny_nil
    · rw [z, z']; rfl
    · rw [z]; rfl
theorem xe_isi {c : String} {cx : Str} {p p2 : Pos} (hc : c ∈ ["str", "int", "bool", "list", "tuple", "dict"]) (hv : bootBuiltins cx = some (.type c)) (hm : ∀ j, (X j).mg "isinstance" = none) (hm2 : ∀ j, (X j).mg cx = none) (ha : XE T E X e fa) (hK : ∀ j, (X j).K = T.K := by intro j; rfl)
    (hg : ∀ j, Gl (X j) "isinstance" := by intro j; rfl) (hg2 : ∀ j, Gl (X j) cx := by intro j; rfl) (hn2 : cx ≠ "__name__" := by decide +kernel) (hdb2 : (cx == ("__debug__" : Str)) = false := by decide +kernel)
    (hs1 : ∀ j, starEach [e, .Name cx p2] (X j).env = (false, eval e (X j).env) :: starEach [.Name cx p2] (X j).env := by intro j; rfl) (hs2 : ∀ j, starEach [.Name cx p2] (X j).env = (false, eval (.Name cx p2) (X j).env) :: starEach [] (X j).env := by intro j; rfl)
    (hpl : ∀ j, (backTo pos (starEach [.Name cx p2] (X j).env)).any (·.1) = false := by intro j; rfl) : XE T E X (.Call (.Name "isinstance" p) [e, .Name cx p2] [] pos) (eUn (dIsi c) fa) :=
  let ⟨_, a1, a2⟩ := ha
  ⟨_, fun j => pe_callB (by rw [← hK j]; exact call_isi) (hg j) (hm j) (by decide +kernel) (pa_cons (a1 j) (pa_cons (pe_bltn (v := .ty c) (hg2 j) (hm2 j) hv rfl hn2 hdb2) pa_nil (hs2 j)) (hs1 j)) (by decide +kernel) (by decide +kernel) (hs1 j) (hpl j), semE_isi hc a2⟩
theorem xe_isi2 {c c' : String} {cx cx' : Str} {p p2 p3 p4 : Pos} {kk : Nat} (hc : c ∈ ["str", "int", "bool", "list", "tuple", "dict"]) (hc' : c' ∈ ["str", "int", "bool", "list", "tuple", "dict"]) (hv : bootBuiltins cx = some (.type c)) (hv' : bootBuiltins cx' = some (.type c')) (hm : ∀ j, (X j).mg "isinstance" = none) (hm2 : ∀ j, (X j).mg cx = none) (hm3 : ∀ j, (X j).mg cx' = none) (ha : XE T E X e fa) (hK : ∀ j, (X j).K = T.K := by intro j; rfl)
    (hg : ∀ j, Gl (X j) "isinstance" := by intro j; rfl) (hg2 : ∀ j, Gl (X j) cx := by intro j; rfl) (hg3 : ∀ j, Gl (X j) cx' := by intro j; rfl) (hn2 : cx ≠ "__name__" := by decide +kernel) (hdb2 : (cx == ("__debug__" : Str)) = false := by decide +kernel) (hn3 : cx' ≠ "__name__" := by decide +kernel) (hdb3 : (cx' == ("__debug__" : Str)) = false := by decide +kernel)
    (hs1 : ∀ j, starEach [e, .Tuple [.Name cx p2, .Name cx' p3] kk p4] (X j).env = (false, eval e (X j).env) :: starEach [.Tuple [.Name cx p2, .Name cx' p3] kk p4] (X j).env := by intro j; rfl) (hs2 : ∀ j, starEach [.Tuple [.Name cx p2, .Name cx' p3] kk p4] (X j).env = (false, eval (.Tuple [.Name cx p2, .Name cx' p3] kk p4) (X j).env) :: starEach [] (X j).env := by intro j; rfl)
    (hs3 : ∀ j, starEach [.Name cx p2, .Name cx' p3] (X j).env = (false, eval (.Name cx p2) (X j).env) :: starEach [.Name cx' p3] (X j).env := by intro j; rfl) (hs4 : ∀ j, starEach [.Name cx' p3] (X j).env = (false, eval (.Name cx' p3) (X j).env) :: starEach [] (X j).env := by intro j; rfl)
    (hpl : ∀ j, (backTo pos (starEach [.Tuple [.Name cx p2, .Name cx' p3] kk p4] (X j).env)).any (·.1) = false := by intro j; rfl) : XE T E X (.Call (.Name "isinstance" p) [e, .Tuple [.Name cx p2, .Name cx' p3] kk p4] [] pos) (eUn (dIsi2 c c') fa) :=
  let ⟨_, a1, a2⟩ := ha
  ⟨_, fun j => pe_callB (by rw [← hK j]; exact call_isiT) (hg j) (hm j) (by decide +kernel) (pa_cons (a1 j) (pa_cons (pe_tup (pa_cons (pe_bltn (v := .ty c) (hg2 j) (hm2 j) hv rfl hn2 hdb2) (pa_cons (pe_bltn (v := .ty c') (hg3 j) (hm3 j) hv' rfl hn3 hdb3) pa_nil (hs4 j)) (hs3 j))) pa_nil (hs2 j)) (hs1 j)) (by decide +kernel) (by decide +kernel) (hs1 j) (hpl j), semE_isi2 hc hc' a2⟩
/-! ### tests told over the full view -/
def tFull (n : Nat → Nat) (f : M Bool) : M Bool := fun st => match f (vwN n st) with
  | some (.v b, _) => some (.v b, st)
  | some (.x c, _) => some (.x c, st)
  | none => none
theorem semT_all {tt : TT} {f : M Bool} (h : SemT T E tt f) : SemT T E tt (tFull (fun c => (T.flds c).length) f) := by
  intro st σ B F H S o s hf Q hQ
  unfold tFull at hf
  split at hf
  · rename_i x s1 e1
    cases hf
    refine h _ σ H _ H S.full _ _ e1 Q fun B1 H1 x1 S1 => ?_
    obtain ⟨b1, b2, b3⟩ := S.back (x1.trans S1.exB)
    exact hQ _ H1 b1 b2
  · rename_i c s1 e1
    cases hf
    refine h _ σ H _ H S.full _ _ e1 Q fun d B1 H1 x1 S1 => ?_
    obtain ⟨b1, b2, b3⟩ := S.back (x1.trans S1.exB)
    exact hQ d _ H1 b1 b2
  · cases hf
theorem xt_full {f : M Bool} (h : XT T E X e f) : XT T E X e (tFull (fun c => (T.flds c).length) f) := let ⟨_, h1, h2⟩ := h; ⟨_, h1, semT_all h2⟩
theorem xw_full {f : M Bool} (h : XW T E X e f) : XW T E X e (tFull (fun c => (T.flds c).length) f) := let ⟨_, h1, h2⟩ := h; ⟨_, h1, semT_all h2⟩
/-! ### operators that make lists -/
def Prim2L (T : Tab) (r : R2) (g : D → D → Option (List D)) : Prop := ∀ x y zs vx vy B H (Q : VK), Ex B H → Rep T B x vx → Rep T B y vy → g x y = some zs →
  (∀ p ys B1 H1, Ext B H B1 H1 → H1 p = none → Reps T B1 zs ys → Q (.ref p) (upd H1 p (.lst ys))) → r vx vy H Q
def rBin (g : D → D → Option (List D)) (fa fb : M D) : M R := bnd fa fun x => bnd fb fun y => opt ((g x y).map .ol)
theorem semR_op {rr : R2} {g : D → D → Option (List D)} {tb : TE} (hr : Prim2L T rr g) (ha : SemE T E ta fa) (hb : SemE T E tb fb) : SemR T E (tOp rr ta tb) (rBin g fa fb) := by
  intro st σ B F H S o s h Q hQ
  rcases bnd_some h with ⟨c, e1, rfl⟩ | ⟨a, s1, e1, h2⟩
  · exact ha st σ B F H S _ _ e1 _ hQ
  · refine ha st σ B F H S _ _ e1 _ fun B1 H1 x1 S1 v hv => ?_
    rcases bnd_some h2 with ⟨c, e2, rfl⟩ | ⟨b, s2, e2, h3⟩
    · exact hb s1 σ B1 F H1 S1 _ _ e2 _ fun d B2 H2 x2 S2 => hQ d B2 H2 (x1.trans x2) S2
    · refine hb s1 σ B1 F H1 S1 _ _ e2 _ fun B2 H2 x2 S2 u hu => ?_
      obtain ⟨z, hz, rfl, rfl⟩ := opt_some h3
      cases hg : g a b with
      | none => rw [hg] at hz; cases hz
      | some zs =>
        rw [hg] at hz; cases hz
        exact hr a b zs v u B2 H2 Q S2.exB (Rep.mono x2 _ hv) hu hg fun p ys B3 H3 x3 hp hy => hQ _ B3 _ (x1.trans (x2.trans x3.b)) ((S2.ext x3).alloc hp (fun _ z => nomatch z) (relR_ol upd_same hy))
def gCat : D → D → Option (List D)
  | .lst xs, .lst ys => if xs.length + ys.length ≤ sizeLine then some (xs ++ ys) else none
  | _, _ => none
theorem p_cat : Prim2L T (rCatL T.K) gCat := by
  intro x y zs vx vy B H Q e hx hy hz k
  unfold gCat at hz
  split at hz
  · rename_i xs ys
    split at hz
    · rename_i hl
      cases hz
      unfold Rep at hx hy
      obtain ⟨a, us, rfl, t1, r1⟩ := hx
      obtain ⟨b, ws, rfl, t2, r2⟩ := hy
      exact ⟨a, b, us, ws, rfl, rfl, e.sqL t1, e.sqL t2, by rw [← r1.length, ← r2.length]; exact hl, fun p hp => k p _ B H (.refl e) hp (r1.append r2)⟩
    · cases hz
  · cases hz
theorem xr_bin {op : Operator} {rr : R2} {g : D → D → Option (List D)} (ho : ∀ j, OpR (X j) (binaryOp op) rr) (hp : Prim2L T rr g) (ha : XE T E X a fa) (hb : XE T E X b fb) : XR T E X (.BinOp a op b pos) (rBin g fa fb) :=
  let ⟨_, a1, a2⟩ := ha; let ⟨_, b1, b2⟩ := hb; ⟨_, fun j => pe_op (ho j) (a1 j) (b1 j), semR_op hp a2 b2⟩
theorem xr_cat (ha : XE T E X a fa) (hb : XE T E X b fb) (hK : ∀ j, (X j).K = T.K := by intro j; rfl) : XR T E X (.BinOp a .Add b pos) (rBin gCat fa fb) := xr_bin (fun j => by rw [← hK j]; exact op_catL) p_cat ha hb
/-! ### methods of data -/
def tyOk (ty : String) (x : D) : Bool := match x with
  | .str _ => ty == "str"
  | .lst _ => ty == "list"
  | .dct _ _ => ty == "dict"
  | _ => false
theorem tyV_of {ty : String} {B H : Hp} {x : D} {v : V} (e : Ex B H) (r : Rep T B x v) (h : tyOk ty x = true) : tyV T.K ty v H := by
  cases x with
  | str s => obtain ⟨rfl, _⟩ := rep_str r; exact eq_of_beq h
  | lst ds =>
    unfold Rep at r
    obtain ⟨a, xs, rfl, h2, _⟩ := r
    exact .inl ⟨eq_of_beq h, xs, e.sqL h2⟩
  | dct ks vs =>
    unfold Rep at r
    obtain ⟨a, kvs, rfl, h2, _⟩ := r
    exact .inr (.inr (.inl ⟨eq_of_beq h, .inl ⟨kvs, e a _ h2⟩⟩))
  | _ => cases h
def PrimM (T : Tab) (r : V → List V → Hp → VK → Prop) (g : D → List D → Option D) : Prop := ∀ x xs z v vs B H (Q : VK), Ex B H → Rep T B x v → Reps T B xs vs → g x xs = some z → (∀ u B' H', Ext B H B' H' → Rep T B' z u → Q u H') → r v vs H Q
def PrimML (T : Tab) (r : V → List V → Hp → VK → Prop) (g : D → List D → Option (List D)) : Prop := ∀ x xs zs v vs B H (Q : VK), Ex B H → Rep T B x v → Reps T B xs vs → g x xs = some zs →
  (∀ p ys B1 H1, Ext B H B1 H1 → H1 p = none → Reps T B1 zs ys → Q (.ref p) (upd H1 p (.lst ys))) → r v vs H Q
def eMt (ty : String) (g : D → List D → Option D) (fa : M D) (fs : M (List D)) : M D := bnd fa fun x => if tyOk ty x = true then bnd fs fun xs => opt (g x xs) else fun _ => none
def rMt (ty : String) (g : D → List D → Option (List D)) (fa : M D) (fs : M (List D)) : M R := bnd fa fun x => if tyOk ty x = true then bnd fs fun xs => opt ((g x xs).map .ol) else fun _ => none
theorem semE_mt {ty : String} {rr : V → List V → Hp → VK → Prop} {g : D → List D → Option D} (hr : PrimM T rr g) (ha : SemE T E ta fa) (hs : SemA T E t fs) : SemE T E (tBM T.K ty rr ta t) (eMt ty g fa fs) := by
  intro st σ B F H S o s h Q hQ
  refine okx_bnd h hQ (fun o1 s1 e1 q => ha st σ B F H S o1 s1 e1 _ q) fun a s1 B1 H1 _ h2 e1 S1 hQ1 v hv => ?_
  split at h2
  · rename_i ht
    refine ⟨tyV_of S1.exB hv ht, ?_⟩
    refine okx_bnd h2 hQ1 (fun o1 s2 e2 q => hs s1 σ B1 F H1 S1 o1 s2 e2 _ q) fun b s2 B2 H2 _ h3 e2 S2 hQ2 us hu => ?_
    obtain ⟨z, hz, rfl, rfl⟩ := opt_some h3
    exact hr a b z v us B2 H2 Q S2.exB (Rep.mono e2 a hv) hu hz fun u B3 H3 e3 hu => hQ2 B3 H3 e3.b (S2.ext e3) u hu
  · cases h2
theorem semR_mt {ty : String} {rr : V → List V → Hp → VK → Prop} {g : D → List D → Option (List D)} (hr : PrimML T rr g) (ha : SemE T E ta fa) (hs : SemA T E t fs) : SemR T E (tBM T.K ty rr ta t) (rMt ty g fa fs) := by
  intro st σ B F H S o s h Q hQ
  rcases bnd_some h with ⟨c, e1, rfl⟩ | ⟨a, s1, e1, h2⟩
  · exact ha st σ B F H S _ _ e1 _ hQ
  · refine ha st σ B F H S _ _ e1 _ fun B1 H1 x1 S1 v hv => ?_
    split at h2
    · rename_i ht
      refine ⟨tyV_of S1.exB hv ht, ?_⟩
      rcases bnd_some h2 with ⟨c, e2, rfl⟩ | ⟨b, s2, e2, h3⟩
      · exact hs s1 σ B1 F H1 S1 _ _ e2 _ fun d B2 H2 x2 S2 => hQ d B2 H2 (x1.trans x2) S2
      · refine hs s1 σ B1 F H1 S1 _ _ e2 _ fun B2 H2 x2 S2 us hu => ?_
        obtain ⟨z, hz, rfl, rfl⟩ := opt_some h3
        cases hg : g a b with
        | none => rw [hg] at hz; cases hz
        | some zs =>
          rw [hg] at hz; cases hz
          exact hr a b zs v us B2 H2 Q S2.exB (Rep.mono x2 _ hv) hu hg fun p ys B3 H3 x3 hp hy => hQ _ B3 _ (x1.trans (x2.trans x3.b)) ((S2.ext x3).alloc hp (fun _ z => nomatch z) (relR_ol upd_same hy))
    · cases h2
/-- the conditions of the text on a method's call -/
structure MtOk (X : ι → Cx) (o e : Expr) (es : List Expr) (m : Str) (apos pos : Pos) : Prop where
  base : ∀ j, attributeBase o m (X j).env (eval o (X j).env) = eval o (X j).env
  few : ∀ j, ((backTo pos (starEach (e :: es) (X j).env)).all (fun x => !x.1) && (backToKw pos (keywordEach [] (X j).env)).all (fun x => x.1.isSome)
      && decide ((e :: es).length + ([] : List Keyword).length + (if ([] : List Keyword).isEmpty then 0 else 1) < 30)) = true
  line : (apos.endLine == pos.line) = true
  st : ∀ j, starEach (e :: es) (X j).env = (false, eval e (X j).env) :: starEach es (X j).env
  pl : ∀ j, (backTo pos (starEach es (X j).env)).any (·.1) = false
theorem xe_mt {ty id : String} {rr : V → List V → Hp → VK → Prop} {g : D → List D → Option D} (pa : PlainAttrs ty) (slot : Slot ty m id) (hty : typeOf (.builtin id) = pure (.type "method_descriptor")) (hp : PrimM T rr g) (hm : ∀ j, MtR (X j) id rr) (ho : XE T E X o fa) (ha : XA T E X (e :: es) fs)
    (hK : ∀ j, (X j).K = T.K := by intro j; rfl) (k : MtOk X o e es m apos pos := by exact ⟨fun j => rfl, fun j => rfl, rfl, fun j => rfl, fun j => rfl⟩) : XE T E X (.Call (.Attribute o m apos) (e :: es) [] pos) (eMt ty g fa fs) :=
  let ⟨_, a1, a2⟩ := ho; let ⟨_, b1, b2⟩ := ha; ⟨_, fun j => by rw [← hK j]; exact pe_bm pa slot hty (hm j) (a1 j) (b1 j) (k.base j) (k.few j) k.line (k.st j) (k.pl j), semE_mt hp a2 b2⟩
theorem xr_mt {ty id : String} {rr : V → List V → Hp → VK → Prop} {g : D → List D → Option (List D)} (pa : PlainAttrs ty) (slot : Slot ty m id) (hty : typeOf (.builtin id) = pure (.type "method_descriptor")) (hp : PrimML T rr g) (hm : ∀ j, MtR (X j) id rr) (ho : XE T E X o fa) (ha : XA T E X (e :: es) fs)
    (hK : ∀ j, (X j).K = T.K := by intro j; rfl) (k : MtOk X o e es m apos pos := by exact ⟨fun j => rfl, fun j => rfl, rfl, fun j => rfl, fun j => rfl⟩) : XR T E X (.Call (.Attribute o m apos) (e :: es) [] pos) (rMt ty g fa fs) :=
  let ⟨_, a1, a2⟩ := ho; let ⟨_, b1, b2⟩ := ha; ⟨_, fun j => by rw [← hK j]; exact pe_bm pa slot hty (hm j) (a1 j) (b1 j) (k.base j) (k.few j) k.line (k.st j) (k.pl j), semR_mt hp a2 b2⟩
/-! ### text.split(sign), text.index(text) -/
/-- parts between the signs c -/
def splitOn (c : Nat) : List Nat → List (List Nat)
  | [] => [[]]
  | a :: l => if a = c then [] :: splitOn c l else match splitOn c l with
    | [] => [[a]]
    | p :: r => (a :: p) :: r
/-- where b first stands in a -/
def dSIndex : D → List D → Option D
  | .str a, [.str b] => match Builtin.Str.occurrences a b 0 a.length 1 with
    | i :: _ => some (.int (i : Nat))
    | [] => none
  | _, _ => none
theorem p_sindex : PrimM T (fun x xs H Q => ∃ a b i rest, x = V.str a ∧ xs = [V.str b] ∧ Builtin.Str.occurrences a b 0 a.length 1 = i :: rest ∧ Q (.int (i : Nat)) H) dSIndex := by
  intro x xs z v vs B H Q e hx hy hz k
  unfold dSIndex at hz
  split at hz
  · rename_i a b
    split at hz
    · rename_i i rest h1
      cases hz
      obtain ⟨rfl, _⟩ := rep_str hx
      obtain ⟨u, rfl, hu⟩ := reps1 hy
      obtain ⟨rfl, _⟩ := rep_str hu
      exact ⟨a, b, i, rest, rfl, rfl, h1, k _ B H (.refl e) rfl⟩
    · cases hz
  · cases hz
theorem xe_sindex (ho : XE T E X o fa) (ha : XA T E X [e] fs) (hK : ∀ j, (X j).K = T.K := by intro j; rfl) (k : MtOk X o e [] "index" apos pos := by exact ⟨fun j => rfl, fun j => rfl, rfl, fun j => rfl, fun j => rfl⟩) : XE T E X (.Call (.Attribute o "index" apos) [e] [] pos) (eMt "str" dSIndex fa fs) :=
  xe_mt PySem.F.plainAttrs_str PySem.F.slot_str_index PySem.F.type_str_index p_sindex (fun j => mt_sindex) ho ha hK k
theorem reps_strs {B : Hp} : ∀ {l : List Str}, (∀ s ∈ l, PyData.strOk s = true) → Reps T B (l.map D.str) (l.map V.str)
  | [], _ => reps_nil
  | s :: l, h => reps_cons ⟨rfl, h s (.head _)⟩ (reps_strs fun z hz => h z (.tail _ hz))
def gSplit : D → List D → Option (List D)
  | .str a, [.str b] => if (b.length == 0) = false ∧ a.length + 2 ≤ sizeLine ∧ (Txt.split a b).all PyData.strOk = true then some ((Txt.split a b).map .str) else none
  | _, _ => none
theorem p_split : PrimML T (fun x xs H Q => ∃ a b, x = V.str a ∧ xs = [V.str b] ∧ (b.length == 0) = false ∧ a.length + 2 ≤ sizeLine ∧ rNewStrs (Txt.split a b) H Q) gSplit := by
  intro x xs zs v vs B H Q e hx hy hz k
  unfold gSplit at hz
  split at hz
  · rename_i a b
    split at hz
    · rename_i hc
      cases hz
      obtain ⟨rfl, _⟩ := rep_str hx
      obtain ⟨u, rfl, hu⟩ := reps1 hy
      obtain ⟨rfl, _⟩ := rep_str hu
      exact ⟨a, b, rfl, rfl, hc.1, hc.2.1, fun p hp => k p _ B H (.refl e) hp (reps_strs fun s hs => List.all_eq_true.mp hc.2.2 s hs)⟩
    · cases hz
  · cases hz
theorem xr_split (ho : XE T E X o fa) (ha : XA T E X [e] fs) (hK : ∀ j, (X j).K = T.K := by intro j; rfl) (k : MtOk X o e [] "split" apos pos := by exact ⟨fun j => rfl, fun j => rfl, rfl, fun j => rfl, fun j => rfl⟩) : XR T E X (.Call (.Attribute o "split" apos) [e] [] pos) (rMt "str" gSplit fa fs) :=
  xr_mt PySem.F.plainAttrs_str PySem.F.slot_str_split PySem.F.type_str_split p_split (fun j => mt_split) ho ha hK k
/-! ### a written dict by text keys -/
def dGd (tab : List (Str × D)) : D → Option D
  | .str s => tab.lookup s
  | _ => none
theorem semE_gd {w : World} {ad : Addr} {tab : List (Str × D)} {tb : TE} (hk : ∀ s d, tab.lookup s = some d → ∃ v, KDct T.K w ad s v ∧ ∀ B, Rep T B d v) (hb : SemE T E tb fb) : SemE T E (tOp (rIxD T.K w) (tC (.ref ad)) tb) (eUn (dGd tab) fb) := by
  intro st σ B F H S o s h Q hQ
  refine okx_bnd h hQ (fun o1 s1 e1 q => hb st σ B F H S o1 s1 e1 _ q) fun a s1 B1 H1 _ h2 e1 S1 hQ1 v hv => ?_
  obtain ⟨z, hz, rfl, rfl⟩ := opt_some h2
  unfold dGd at hz
  split at hz
  · obtain ⟨rfl, _⟩ := rep_str hv
    obtain ⟨u, ku, ru⟩ := hk _ _ hz
    exact ⟨ad, _, u, rfl, rfl, ku, hQ1 B1 H1 (Ex.refl _) S1 u (ru B1)⟩
  · cases hz
theorem xe_gdict {w : World} {p : Pos} {ad : Addr} {tab : List (Str × D)} (hm : ∀ j, (X j).mg x = some (.ref ad)) (hk : ∀ s d, tab.lookup s = some d → ∃ v, KDct T.K w ad s v ∧ ∀ B, Rep T B d v) (hb : XE T E X b fb)
    (hK : ∀ j, (X j).K = T.K := by intro j; rfl) (hw : ∀ j, (X j).w = w := by intro j; rfl) (hg : ∀ j, Gl (X j) x := by intro j; rfl) (hd : (x == ("__debug__" : Str)) = false := by decide +kernel) (hs : PlainIx b := by exact fun _ _ => rfl) : XE T E X (.Subscript (.Name x p) b pos) (eUn (dGd tab) fb) :=
  let ⟨_, b1, b2⟩ := hb
  ⟨_, fun j => by rw [← hK j, ← hw j]; exact pe_ix ix_kdict (pe_glob (v := .ref ad) (hg j) (hm j) rfl hd) (b1 j) hs, semE_gd hk b2⟩
/-! ### xs.extend(ys) -/
def sExtA (i : Nat) (m : M D) : MS := fun st => if isL st[i]? then (match m st with
  | some (.v y, s) => (match (match y with | .lst ys => some ys | .tup ys => some ys | _ => none), s[i]? with
    | some ys, some (some (.ol xs)) => if xs.length + ys.length ≤ sizeLine then some (.nx, s.set i (some (.ol (xs ++ ys)))) else none
    | _, _ => none)
  | some (.x c, s) => some (.x c, s)
  | none => none) else none
theorem semS_ext {i : Nat} {te : TE} {m : M D} (h : SemE T E te m) : SemS T E kp (tDrop (tBM T.K "list" (rExtA T.K) (tVar i) (tCons te tNil))) (sExtA i m) := by
  intro st σ B F H S fl s hf D hD
  unfold sExtA at hf
  split at hf
  · rename_i hl
    obtain ⟨p, hv, ty⟩ := ol_before (s1 := st) S (isL_of hl)
    refine ⟨_, hv, ty, ?_⟩
    split at hf
    · rename_i y s1 e
      split at hf
      · rename_i ys xs hy hi
        split at hf
        · rename_i hsz
          cases hf
          refine h st σ B F H S _ _ e _ fun B1 H1 e1 S1 v hx => ?_
          obtain ⟨u, hu, q, us, rfl, hq, hr⟩ := S1.rel i _ hi
          rw [hu] at hv; cases hv
          have key : ∃ b ws, v = .ref b ∧ (SqL T.K H1 b ws ∨ SqT T.K H1 b ws) ∧ Reps T B1 ys ws := by
            split at hy
            · cases hy
              unfold Rep at hx
              obtain ⟨b, ws, rfl, t1, r1⟩ := hx
              exact ⟨b, ws, rfl, .inl (S1.exB.sqL t1), r1⟩
            · cases hy
              unfold Rep at hx
              obtain ⟨b, ws, rfl, t1, r1⟩ := hx
              exact ⟨b, ws, rfl, .inr (S1.exB.tu t1).sq, r1⟩
            · cases hy
          obtain ⟨b, ws, rfl, hb, hw⟩ := key
          exact ⟨p, b, us, ws, rfl, rfl, hq, hb, by rw [← hr.length, ← hw.length]; exact hsz, hD σ B1 _ e1 (Kp.refl _ _) (S1.change hi hu rfl (fun _ z => nomatch z) ⟨p, _, rfl, upd_same, hr.append hw⟩)⟩
        · cases hf
      · cases hf
    · rename_i c s1 e
      cases hf
      exact h st σ B F H S _ _ e _ fun d B1 H1 e1 S1 => hD d σ B1 H1 e1 (Kp.refl _ _) S1
    · cases hf
  · cases hf
theorem xs_ext (i : Nat) {p ap cp : Pos} (h : XE T E X e fa) (hN : ∀ j, (X j).N[i]? = some x := by intro j; rfl) (hvis : ∀ j, Vis (X j).env.scope x := by intro j; first | exact Or.inl rfl | exact Or.inr (Or.inl rfl) | exact Or.inr (Or.inr rfl))
    (hd : (x == ("__debug__" : Str)) = false := by decide +kernel) (hcd : (x == ("__classdict__" : Str)) = false := by decide +kernel) (hK : ∀ j, (X j).K = T.K := by intro j; rfl)
    (hbase : ∀ j, attributeBase (.Name x p) "extend" (X j).env (eval (.Name x p) (X j).env) = eval (.Name x p) (X j).env := by intro j; rfl)
    (hfew : ∀ j, ((backTo cp (starEach [e] (X j).env)).all (fun x => !x.1) && (backToKw cp (keywordEach [] (X j).env)).all (fun x => x.1.isSome)
      && decide (([e] : List Expr).length + ([] : List Keyword).length + (if ([] : List Keyword).isEmpty then 0 else 1) < 30)) = true := by intro j; rfl)
    (hline : (ap.endLine == cp.line) = true := by rfl) (hss : ∀ j, starEach [e] (X j).env = (false, eval e (X j).env) :: starEach [] (X j).env := by intro j; rfl) (hplain : ∀ j, (backTo cp (starEach [] (X j).env)).any (·.1) = false := by intro j; rfl)
    (hs : ∀ j, swapsWith (.Call (.Attribute (.Name x p) "extend" ap) [e] [] cp) none pos.line (X j).env = pure false := by intro j; rfl) : XS T E X kp (.Expr (.Call (.Attribute (.Name x p) "extend" ap) [e] [] cp) pos) (sExtA i fa) := by
  obtain ⟨_, a1, a2⟩ := h
  exact ⟨_, fun j => by rw [← hK j]; exact ps_expr (pe_bm PySem.F.plainAttrs_list PySem.F.slot_list_extend PySem.F.type_list_extend mt_extA (pe_var (hN j) (hvis j) hd hcd) (pa_cons (a1 j) pa_nil (hss j)) (hbase j) (hfew j) hline (hss j) (hplain j)) (hs j), semS_ext a2⟩
/-! ### list == list, by lengths where the items are no data -/
def rEqLen (K : PySem.W.Frag) : R2 := fun x y H Q => ∃ l b xs zs, x = .ref l ∧ y = .ref b ∧ SqL K H l xs ∧ SqL K H b zs ∧ xs.length ≠ zs.length ∧ Q (.bl false) H
theorem op_eqLen {Y : Cx} (hu : Y.A.units < cLine) : OpR Y (compareOp .Eq) (rEqLen Y.K) := by
  intro pins s σ H x y v u Q I rx ry h
  obtain ⟨l, b, xs, zs, rfl, rfl, hH, hB, hz, q⟩ := h
  cases rx
  cases ry
  obtain ⟨its, r, ⟨o, n, e, hc, hk, hd⟩, hl⟩ := I.list hH
  obtain ⟨its2, r2, ⟨o2, n2, e2, hc2, hk2, hd2⟩, hl2⟩ := I.list hB
  have l1 := r.length
  have l2 := r2.length
  refine SeqAt.eq_list_lengthsAt (items := its.toArray) (items2 := its2.toArray) ⟨o, e, hc, n, hd⟩ ⟨o2, e2, hc2, n2, hd2⟩ (by simp only [List.size_toArray, bne_iff_ne, ne_eq]; omega) hu ⟨.bl false, H, I, rfl, q⟩
def dEqL (x y : D) : Option D := match dEq x y with
  | some z => some z
  | none => (match x, y with
    | .lst a, .lst b => if a.length = b.length then none else some (.bl false)
    | _, _ => none)
theorem p_eqL : Prim2 T (fun x y H Q => rEqD T.K x y H Q ∨ rEqLen T.K x y H Q) dEqL := by
  intro x y z vx vy B H Q e hx hy hz k
  unfold dEqL at hz
  split at hz
  · rename_i z' h1
    cases hz
    exact .inl (p_eq x y z vx vy B H Q e hx hy h1 k)
  · split at hz
    · split at hz
      · cases hz
      · rename_i hn
        cases hz
        unfold Rep at hx hy
        obtain ⟨a, us, rfl, t1, r1⟩ := hx
        obtain ⟨b, ws, rfl, t2, r2⟩ := hy
        exact .inr ⟨a, b, us, ws, rfl, rfl, e.sqL t1, e.sqL t2, by rw [← r1.length, ← r2.length]; exact hn, k _ B H (.refl e) rfl⟩
    · cases hz
theorem xe_eqL (hu : Rm X) (hK : ∀ j, (X j).K = T.K := by intro j; rfl) (ha : XE T E X a fa) (hb : XE T E X b fb) : XE T E X (.Compare a [.Eq] [b] pos) (eBin dEqL fa fb) := xe_cmp (fun j => by rw [← hK j]; exact (op_eqD (by have := hu j; omega)).or (op_eqLen (by have := hu j; omega))) p_eqL (nomark _) ha hb
theorem xt_eqL (hu : Rm X) (hK : ∀ j, (X j).K = T.K := by intro j; rfl) (ha : XE T E X a fa) (hb : XE T E X b fb) : XT T E X (.Compare a [.Eq] [b] pos) (eTst (eBin dEqL fa fb)) := xt_cmp (fun j => by rw [← hK j]; exact (op_eqD (by have := hu j; omega)).or (op_eqLen (by have := hu j; omega))) p_eqL (nomark _) ha hb
end
end Fz

-- text Fz16
set_option Elab.async false
set_option linter.all false
set_option maxRecDepth 100000
set_option maxHeartbeats 2000000
namespace Fz
open PySem L2 PySem.Spec PyProof.Rows
/-! ### what the top has left, def by def -/
section
variable (T : Tab) (mg : Str → Option Value)
def GFun (x : Str) (st : Stmt) (ps : List Str) : Prop := ∃ f fd, mg x = some (.ref f) ∧ Fun T.K x x st f fd ∧ Binds T.K fd ps []
def GMth (c : Nat) (m qual : Str) (st : Stmt) (ps : List Str) : Prop := ∃ f fd, Meth T.K (T.cls c) m f ∧ Fun T.K m qual st f fd ∧ Binds T.K fd ps []
def GMk (x : Str) (c : Nat) (qual : Str) (st : Stmt) (ps : List Str) : Prop := ∃ f fd, mg x = some (.ref (T.cls c)) ∧ Mk T.K (T.cls c) f ∧ Fun T.K "__init__" qual st f fd ∧ Binds T.K fd ps []
def GMkN (x : Str) (c : Nat) : Prop := mg x = some (.ref (T.cls c)) ∧ MkN T.K (T.cls c)
/-- a constant of the module -/
def GlobD (x : Str) (d : D) : Prop := ∃ v u, mg x = some u ∧ RelV v u ∧ ∀ B, Rep T B d v
/-- a dict of the module, by text keys -/
def GlobK (w : World) (x : Str) (tab : List (Str × D)) : Prop := ∃ ad, mg x = some (.ref ad) ∧ ∀ s d, tab.lookup s = some d → ∃ v, KDct T.K w ad s v ∧ ∀ B, Rep T B d v
end
section
variable {P : Program} {w : World} {T : Tab} {mg : Str → Option Value} {base : Heap} {x m qual : Str} {st : Stmt} {N ps : List Str} {k c : Nat} {kp : Nat → Bool} {body : MS}
/-- what a def's body does, at every call -/
abbrev Does (P : Program) (w : World) (T : Tab) (mg : Str → Option Value) (base : Heap) (N : List Str) (qual : Str) (st : Stmt) (k : Nat) (kp : Nat → Bool) (body : MS) : Prop :=
  ∀ (f : Addr) (cdv : Value) (A : Around) (outer : List Env) (s : Shared) (H : Hp) (E : XK), Room k (A.deeper (envOfC qual (defScope st) s.heap.objs.size f cdv)) → XSs T (fun _ => E) (CxD P w T mg base N qual st f cdv A outer s H E) kp (defBody st) body
theorem fng_g (G : GFun T mg x st ps) (S : FnScope N ps (defScope st)) (h : Does P w T mg base N x st k kp body) : FnG P w T mg base x ps.length (fnOf ps.length N.length kp body) (k + 1) := by
  obtain ⟨f, fd, h1, h2, h3⟩ := G
  exact ⟨f, fd, ps, h1, h2.kp, h3, ok_def h2 S (h f)⟩
theorem mtg_g (G : GMth T c m qual st ps) (C : ClsOk T c) (nf : m ∉ T.flds c) (S : FnScope N ps (defScope st)) (h : Does P w T mg base N qual st k kp body) : MtG P w T mg base c m ps.length (fnOf ps.length N.length kp body) (k + 1) := by
  obtain ⟨f, fd, h1, h2, h3⟩ := G
  exact ⟨⟨f, fd, ps, h1, h3, ok_def h2 S (h f)⟩, C, nf⟩
theorem mkg_g (G : GMk T mg x c qual st ps) (S : FnScope N ps (defScope st)) (h : Does P w T mg base N qual st k kp body) : MkG P w T mg base x c ps.length (fnOf ps.length N.length kp body) (k + 1) := by
  obtain ⟨f, fd, h0, h1, h2, h3⟩ := G
  exact ⟨f, fd, ps, h0, h1, h3, ok_def h2 S (h f)⟩
end
section
variable {ι : Type} {T : Tab} {E : L2.St → XK} {X : ι → Cx} {kp : Nat → Bool} {pos apos : Pos} {e a b c o : Expr} {es : List Expr} {fa fb : M D} {fs : M (List D)} {r : M R} {x : Str}
theorem xe_gd {d : D} {mg : Str → Option Value} (G : GlobD T mg x d) (hm : ∀ j, (X j).mg x = mg x := by intro j; rfl) (hg : ∀ j, Gl (X j) x := by intro j; rfl) (hd : (x == ("__debug__" : Str)) = false := by decide +kernel) : XE T E X (.Name x pos) (ret d) :=
  let ⟨v, u, h1, h2, h3⟩ := G; xe_glob (u := u) (fun j => (hm j).trans h1) h2 h3 hg hd
theorem xe_gk {w : World} {p : Pos} {tab : List (Str × D)} {mg : Str → Option Value} (G : GlobK T mg w x tab) (hb : XE T E X b fb) (hm : ∀ j, (X j).mg x = mg x := by intro j; rfl)
    (hK : ∀ j, (X j).K = T.K := by intro j; rfl) (hw : ∀ j, (X j).w = w := by intro j; rfl) (hg : ∀ j, Gl (X j) x := by intro j; rfl) (hd : (x == ("__debug__" : Str)) = false := by decide +kernel) (hs : PlainIx b := by exact fun _ _ => rfl) : XE T E X (.Subscript (.Name x p) b pos) (eUn (dGd tab) fb) :=
  let ⟨ad, h1, h2⟩ := G; xe_gdict (ad := ad) (fun j => (hm j).trans h1) h2 hb hK hw hg hd hs
theorem rm_blk {scope : Scope} (h : Rm X) : Rm (Blk X scope) := fun q => h q.1
end
end Fz
namespace Fz
open PySem L2 PySem.Spec PyProof.Rows
section
variable {T : Tab} {K : PySem.W.Frag} {h : Heap} {mg : Str → Option Value}
theorem fun_of {x qual : Str} {st : Stmt} {f : Addr} {fd : FuncData} (F : FunD K x qual (defArgs st) (defBody st) (defScope st) [] [] f fd) : Fun K x qual st f fd := by
  obtain ⟨oc, od, dV, kV, doc, pm, an, cdv, ct, osl, rfl, lk, hcd, hD, _⟩ := F.ex
  rcases hD with ⟨_, rfl⟩ | ⟨e, _⟩
  · exact ⟨⟨oc, od, kV, doc, pm, an, cdv, ct, osl, rfl, lk, hcd⟩, F.kp⟩
  · exact absurd rfl e
end
end Fz

-- text Fz17
set_option Elab.async false
set_option linter.all false
set_option maxRecDepth 100000
set_option maxHeartbeats 2000000
namespace Fz
open PySem L2 PySem.Spec PyProof.Rows
/-! ### a law's end -/
/-- the promise of law: a list of ints is handed in, True comes out -/
def LawDoes (F : Fn) : Prop := ∀ ns : List Int, ns.length ≤ 63 → ∃ rs, F [.d (.lst (ns.map D.int))] = some (.v (.d (.bl true)), rs)
theorem reps_ints {T : Tab} {B : Hp} : ∀ ns : List Int, Reps T B (ns.map D.int) (ns.map V.int)
  | [] => reps_nil
  | _ :: r => reps_cons rfl (reps_ints r)
theorem law_sp {T : Tab} {F : Fn} {H : Hp} {a : Addr} {ns : List Int} (h : LawDoes F) (hl : ns.length ≤ 63) (hO : Only H) (hS : SqL T.K H a (ns.map V.int)) : sp T 1 F [.ref a] H (fun v _ => v = .bl true) fun _ _ _ => False := by
  obtain ⟨rs, e⟩ := h ns hl
  refine ⟨rfl, [.d (.lst (ns.map D.int))], H, fun _ => none, _, rs, ?_, e, fun v B' H' _ S => ?_⟩
  · refine ⟨Ex.refl H, fun _ _ z => (nomatch z), fun _ _ z => (nomatch z), fun _ _ z => z, rfl, fun i r h => ?_, fun i r v a h1 h2 h3 => ?_, fun i j r q v u b n h1 h2 h3 h4 h5 h6 => ?_⟩
    · cases i with
      | zero =>
        simp at h; subst h
        exact ⟨_, rfl, by show Rep T H (.lst _) _; unfold Rep; exact ⟨a, _, rfl, hS, reps_ints ns⟩⟩
      | succ i => simp at h
    · cases i with
      | zero => simp at h1; subst h1; exact h3.elim
      | succ i => simp at h1
    · cases i with
      | zero => simp at h1; subst h1; exact h5.elim
      | succ i => simp at h1
  · have := S.rel 0 _ rfl
    obtain ⟨u, hu, r⟩ := this
    cases hu
    exact rep_bl (T := T) (B := B') r
theorem walk_ofW {l : PySem.W.OpenLaw} {k : Nat} {q : Program} {loose : List Str} {XP : (Str → Option Value) → Heap → Prop} {YP : World → Heap → Prop} {d : DefRec} {x : Str}
    (hn : l.most = some 63) (hdf : d.params.defaults = []) (hr : Room k callerA)
    (F : ∀ (w : World) (mg : Str → Option Value) (fa : Addr) (h : Heap), YP w h → h.Ns mainGlobals mg → mg d.name = some (.ref fa) →
      ∃ (T : Tab) (fd : FuncData) (F : Fn), T.K.In h ∧ (∀ (s : Shared) (u : Value), BindsTo s fd ⟨[u], []⟩ [(x, u)]) ∧ LawDoes F ∧
        ∀ base : Heap, T.K.In base → base.Ns mainGlobals mg → FnOk l.prog w T.K mg base (L2.CX l.prog w) k fa fd [x] (sp T 1 F)) :
    PySem.W.WalkO q loose XP YP l.row.toRowW d [] (fun f vs => PySem.call f vs) := by
  refine Att.attach_call hn hdf fun w s₀ s₁ mg mb fa o pm cd doc a vs ns G Y ho hd hcd hmg hobj hints hlen hg => ?_
  obtain ⟨T, fd, F0, KX, hb, hL, hF⟩ := F w mg fa _ Y G.T.g hmg
  exact law_call KX G.T.g G.T.b G.T.builtins G.T.nolimit hg hobj hints (Nat.le_trans hlen (by decide)) hr hF hb (fun H hO hS => law_sp hL hlen hO hS) fun H e s' h => by
    obtain ⟨_, _, _, _, _, _, _, _, _, _, _, _, z⟩ := h
    exact z.elim
/-! ### facts from the head -/
section
variable {K : PySem.W.Frag} {h : Heap} {mg : Str → Option Value}
theorem globD_str {T : Tab} (hK : T.K = K) (X : K.In h) (G : h.Ns mainGlobals mg) {x z : Str} (c : (He.Fa.str x z).ok K = true) (ok : PyData.strOk z = true) : GlobD T mg x (.str z) := by
  obtain ⟨t, e⟩ := He.str_ok X G c
  exact ⟨.str z, .str z t, e, ⟨t, rfl⟩, fun B => ⟨rfl, ok⟩⟩
theorem globD_int {T : Tab} (hK : T.K = K) (X : K.In h) (G : h.Ns mainGlobals mg) {x : Str} {i : Int} (c : (He.Fa.int x i).ok K = true) : GlobD T mg x (.int i) := by
  obtain ⟨t, e⟩ := He.int_ok X G c
  exact ⟨.int i, .int i t, e, ⟨t, rfl⟩, fun B => rfl⟩
theorem globD_tup {T : Tab} (hK : T.K = K) (X : K.In h) (G : h.Ns mainGlobals mg) {x : Str} {zs : List Str} (g : (He.Fa.glo x).ok K = true) (c : He.tupB K x (zs.map He.Dv.str) = true) (ok : zs.all PyData.strOk = true) : GlobD T mg x (.tup (zs.map D.str)) := by
  subst hK
  refine ⟨.ref (He.ga T.K x), .ref (He.ga T.K x), He.glo_ok X G g, rfl, fun B => ?_⟩
  unfold Rep
  have q := He.tupB_ok c (fun _ => none)
  have e : (zs.map He.Dv.str).map (He.Dv.v T.K) = zs.map V.str := by rw [List.map_map]; rfl
  rw [e] at q
  refine ⟨_, zs.map V.str, rfl, .inr ?_, reps_strs fun s hs => List.all_eq_true.mp ok s hs⟩
  rcases q with (q | ⟨_, q⟩) | q
  · cases q
  · cases q
  · exact q
theorem lookup_mem {β : Type} : ∀ {l : List (Str × β)} {s : Str} {d : β}, l.lookup s = some d → (s, d) ∈ l
  | [], _, _, h => by cases h
  | (k, v) :: r, s, d, h => by
    rw [List.lookup_cons] at h
    cases e : s == k with
    | true =>
      rw [e] at h; cases h
      rw [eq_of_beq e]; exact List.mem_cons_self
    | false => rw [e] at h; exact List.mem_cons_of_mem _ (lookup_mem h)
theorem globK_str {T : Tab} {w : World} (hK : T.K = K) (X : K.In h) (G : h.Ns mainGlobals mg) {x : Str} {kvs : List (Str × Str)} {es : Array DictEntry} {n : Nat} (g : (He.Fa.glo x).ok K = true) (d : KDict K w (He.ga K x) es n)
    (c : He.valsB K (He.ga K x) (kvs.map fun p => (p.1, He.Dv.str p.2)) = true) (ok : kvs.all (fun p => PyData.strOk p.2) = true) : GlobK T mg w x (kvs.map fun p => (p.1, D.str p.2)) := by
  subst hK
  refine ⟨He.ga T.K x, He.glo_ok X G g, fun s dd hs => ?_⟩
  have m := lookup_mem hs
  rw [List.mem_map] at m
  obtain ⟨⟨k, v⟩, hm, e⟩ := m
  cases e
  obtain ⟨u, h1, h2⟩ := He.valsB_ok c (q := (k, He.Dv.str v)) (List.mem_map.mpr ⟨(k, v), hm, rfl⟩)
  exact ⟨.str v, ⟨es, n, u, d.at_, d.lit, h1, h2⟩, fun B => ⟨rfl, List.all_eq_true.mp ok (k, v) hm⟩⟩
theorem mkn_ok {x : Str} (c : mknB x K = true) : MkN K (He.ga K x) := by
  obtain ⟨c1, c⟩ := He.ba c
  obtain ⟨c2, c3⟩ := He.ba c
  exact ⟨c1, He.eqO_ok c2, c3⟩
end
end Fz

-- text Fz18
set_option Elab.async false
set_option linter.all false
set_option maxRecDepth 100000
set_option maxHeartbeats 2000000
namespace Fz
open PySem L2
/-! ### what a term gives, by its end -/
def wp {α : Type} (m : M α) (st : Sl) (Q : Oc α → Sl → Prop) : Prop := match m st with
  | some (o, s) => Q o s
  | none => False
def ws (m : MS) (st : Sl) (Q : Fl → Sl → Prop) : Prop := match m st with
  | some (o, s) => Q o s
  | none => False
def wf (F : Fn) (rs : List R) (Q : Oc R → List R → Prop) : Prop := match F rs with
  | some (o, s) => Q o s
  | none => False
/-- the same, the state first -/
def wpe {α : Type} (m : M α) (st : Sl) (Q : Oc α → Sl → Prop) : Prop := wp m st Q
def wse (m : MS) (st : Sl) (Q : Fl → Sl → Prop) : Prop := ws m st Q
theorem wpe_congr {α : Type} {m : M α} {st st' : Sl} {Q : Oc α → Sl → Prop} (h : st = st') : wpe m st Q = wpe m st' Q := by rw [h]
theorem wse_congr {m : MS} {st st' : Sl} {Q : Fl → Sl → Prop} (h : st = st') : wse m st Q = wse m st' Q := by rw [h]
theorem wf_congr {F : Fn} {rs rs' : List R} {Q : Oc R → List R → Prop} (h : rs = rs') : wf F rs Q = wf F rs' Q := by rw [h]
theorem wp_congr {α : Type} {m : M α} {st st' : Sl} {Q : Oc α → Sl → Prop} (h : st = st') : wp m st Q = wp m st' Q := by rw [h]
theorem ws_congr {m : MS} {st st' : Sl} {Q : Fl → Sl → Prop} (h : st = st') : ws m st Q = ws m st' Q := by rw [h]
/-- an option's content -/
def wo {α : Type} (o : Option α) (k : α → Prop) : Prop := ∃ a, o = some a ∧ k a
theorem wo_congr {α : Type} {o o' : Option α} {k : α → Prop} (h : o = o') : wo o k = wo o' k := by rw [h]
/-- two ways -/
def wb (b : Bool) (p q : Prop) : Prop := if b = true then p else q
theorem wb_congr {b b' : Bool} {p q : Prop} (h : b = b') : wb b p q = wb b' p q := by rw [h]
/-- first this, then that -/
def wa (c p : Prop) : Prop := c ∧ p
theorem wa_congr {c c' p : Prop} (h : c = c') : wa c p = wa c' p := by rw [h]
def vx {α β : Type} (Q : Oc β → Sl → Prop) (k : α → Sl → Prop) : Oc α → Sl → Prop
  | .v a, s => k a s
  | .x c, s => Q (.x c) s
def vs {α : Type} (Q : Fl → Sl → Prop) (k : α → Sl → Prop) : Oc α → Sl → Prop
  | .v a, s => k a s
  | .x c, s => Q (.x c) s
def nx (Q : Fl → Sl → Prop) (k : Sl → Prop) : Fl → Sl → Prop
  | .nx, s => k s
  | f, s => Q f s
/-- the ends of a loop's round -/
def lp (Q : Fl → Sl → Prop) (k : Sl → Prop) : Fl → Sl → Prop
  | .nx, s => k s
  | .ct, s => k s
  | .bk, s => Q .nx s
  | f, s => Q f s
def gt : Sl → Nat → Option (Option R)
  | [], _ => none
  | a :: _, 0 => some a
  | _ :: l, i + 1 => gt l i
def stt : Sl → Nat → Option R → Sl
  | [], _, _ => []
  | _ :: l, 0, x => x :: l
  | a :: l, i + 1, x => a :: stt l i x
theorem gt_eq : ∀ (s : Sl) (i : Nat), s[i]? = gt s i
  | [], _ => by simp [gt]
  | a :: _, 0 => rfl
  | _ :: l, i + 1 => by simp [gt, gt_eq l i]
theorem stt_eq : ∀ (s : Sl) (i : Nat) (x : Option R), s.set i x = stt s i x
  | [], _, _ => rfl
  | a :: _, 0, _ => rfl
  | a :: l, i + 1, x => by rw [List.set_cons_succ, stt_eq l i]; rfl
def vr (o : Option (Option R)) (i : Nat) (st : Sl) (Q : Oc D → Sl → Prop) : Prop := match o with
  | some (some (.d x)) => Q (.v x) st
  | some (some (.ol xs)) => Q (.v (.lst xs)) (stt st i (some (.d (.lst xs))))
  | some (some (.od ks vs)) => Q (.v (.dct ks vs)) (stt st i (some (.d (.dct ks vs))))
  | _ => False
theorem vr_congr {o o' : Option (Option R)} {i : Nat} {st st' : Sl} {Q : Oc D → Sl → Prop} (h : o = o') (h2 : st = st') : vr o i st Q = vr o' i st' Q := by rw [h, h2]
section
variable {α β : Type} {st s : Sl} {Q : Oc D → Sl → Prop} {QR : Oc R → Sl → Prop} {QB : Oc Bool → Sl → Prop} {QL : Oc (List D) → Sl → Prop} {QA : Oc (List Arg) → Sl → Prop} {QS : Fl → Sl → Prop} {fa fb fc : M D} {fs : M (List D)} {r : M R}
-- ends
theorem vx_v {Q : Oc β → Sl → Prop} {k : α → Sl → Prop} {a : α} : vx Q k (.v a) s = k a s := rfl
theorem vx_x {Q : Oc β → Sl → Prop} {k : α → Sl → Prop} {c : Nat} : vx Q k (.x c) s = Q (.x c) s := rfl
theorem vs_v {k : α → Sl → Prop} {a : α} : vs QS k (.v a) s = k a s := rfl
theorem vs_x {k : α → Sl → Prop} {c : Nat} : vs QS k (.x c) s = QS (.x c) s := rfl
theorem nx_nx {k : Sl → Prop} : nx QS k .nx s = k s := rfl
theorem nx_rt {k : Sl → Prop} {v : R} : nx QS k (.rt v) s = QS (.rt v) s := rfl
theorem nx_bk {k : Sl → Prop} : nx QS k .bk s = QS .bk s := rfl
theorem nx_ct {k : Sl → Prop} : nx QS k .ct s = QS .ct s := rfl
theorem nx_x {k : Sl → Prop} {c : Nat} : nx QS k (.x c) s = QS (.x c) s := rfl
theorem lp_nx {k : Sl → Prop} : lp QS k .nx s = k s := rfl
theorem lp_rt {k : Sl → Prop} {v : R} : lp QS k (.rt v) s = QS (.rt v) s := rfl
theorem lp_bk {k : Sl → Prop} : lp QS k .bk s = QS .nx s := rfl
theorem lp_ct {k : Sl → Prop} : lp QS k .ct s = k s := rfl
theorem lp_x {k : Sl → Prop} {c : Nat} : lp QS k (.x c) s = QS (.x c) s := rfl
theorem wo_some {k : α → Prop} {a : α} : wo (some a) k = k a := propext ⟨fun ⟨_, e, h⟩ => by cases e; exact h, fun h => ⟨_, rfl, h⟩⟩
theorem wo_none {k : α → Prop} : wo (none : Option α) k = False := propext ⟨fun ⟨_, e, h⟩ => (nomatch e), fun h => h.elim⟩
theorem wo_if {c : Prop} [Decidable c] {k : α → Prop} {a : α} : wo (if c then some a else none) k = wa c (k a) := by
  refine propext ⟨fun ⟨_, e, h⟩ => ?_, fun h => ⟨_, if_pos h.1, h.2⟩⟩
  split at e
  · rename_i hc; cases e; exact ⟨hc, h⟩
  · cases e
theorem wb_t {p q : Prop} : wb true p q = p := rfl
theorem wb_f {p q : Prop} : wb false p q = q := by unfold wb; simp
theorem wb_of {b : Bool} {p q : Prop} (h1 : b = true → p) (h2 : b = false → q) : wb b p q := by
  cases b with
  | true => exact h1 rfl
  | false => rw [wb_f]; exact h2 rfl
theorem wa_t {p : Prop} : wa True p = p := by unfold wa; simp
theorem wf_of {F : Fn} {rs rs' : List R} {o : Oc R} {Q : Oc R → List R → Prop} (h : F rs = some (o, rs')) : wf F rs Q = Q o rs' := by unfold wf; rw [h]
theorem wf_get {F : Fn} {rs : List R} {Q : Oc R → List R → Prop} (h : wf F rs Q) : ∃ o rs', F rs = some (o, rs') ∧ Q o rs' := by
  unfold wf at h
  split at h
  · rename_i o s e; exact ⟨o, s, e, h⟩
  · exact h.elim
/-- a promise in the shape of an end -/
theorem wf_eq {F : Fn} {rs rs' : List R} {o : Oc R} (h : wf F rs (fun p q => p = o ∧ q = rs')) : F rs = some (o, rs') := by
  obtain ⟨p, q, e, rfl, rfl⟩ := wf_get h
  exact e
theorem wpe_eq {m : M α} {Q : Oc α → Sl → Prop} : wpe m st Q = wp m st Q := rfl
theorem wse_eq {m : MS} : wse m st QS = ws m st QS := rfl
-- terms
theorem wp_ret {a : α} {Q : Oc α → Sl → Prop} : wp (ret a) st Q = Q (.v a) st := rfl
theorem wp_bnd {m : M α} {k : α → M β} {Q : Oc β → Sl → Prop} : wp (bnd m k) st Q = wp m st (vx Q fun a s => wp (k a) s Q) := by
  unfold wp bnd
  cases m st with
  | none => rfl
  | some p => obtain ⟨o, s⟩ := p; cases o <;> rfl
theorem wp_opt {o : Option α} {Q : Oc α → Sl → Prop} : wp (opt o) st Q = wo o fun a => Q (.v a) st := by
  unfold wp opt
  cases o with
  | none => rw [wo_none]
  | some a => rw [wo_some]
theorem wp_eUn {g : D → Option D} : wp (eUn g fa) st Q = wp fa st (vx Q fun x s => wo (g x) fun z => Q (.v z) s) := by
  unfold eUn; rw [wp_bnd]; simp only [wp_opt]
theorem wp_eBin {g : D → D → Option D} : wp (eBin g fa fb) st Q = wp fa st (vx Q fun x s => wp fb s (vx Q fun y s => wo (g x y) fun z => Q (.v z) s)) := by
  unfold eBin; rw [wp_bnd]; simp only [wp_bnd, wp_opt]
theorem wp_eCons {fr : M (List D)} : wp (eCons fa fr) st QL = wp fa st (vx QL fun x s => wp fr s (vx QL fun xs s => QL (.v (x :: xs)) s)) := by
  unfold eCons; rw [wp_bnd]; simp only [wp_bnd, wp_ret]
theorem wp_eNil : wp eNil st QL = QL (.v []) st := rfl
theorem wp_eOp {g : List D → Option D} : wp (eOp g fs) st Q = wp fs st (vx Q fun x s => wo (g x) fun z => Q (.v z) s) := by
  unfold eOp; rw [wp_bnd]; simp only [wp_opt]
theorem wp_eTup : wp (eTup fs) st Q = wp fs st (vx Q fun x s => wa (x.length ≤ sizeLine) (Q (.v (.tup x)) s)) := by
  unfold eTup; rw [wp_bnd]; simp only [wp_opt, wo_if]
theorem wp_rD : wp (rD fa) st QR = wp fa st (vx QR fun x s => QR (.v (.d x)) s) := by unfold rD; rw [wp_bnd]; rfl
theorem wp_rOp {g : List D → Option (List D)} : wp (rOp g fs) st QR = wp fs st (vx QR fun x s => wo (g x) fun z => QR (.v (.ol z)) s) := by
  unfold rOp; rw [wp_bnd]; simp only [wp_opt]
  congr 1; congr 1; funext x s
  cases g x with
  | none => (simp only [Option.map_none]; rw [wo_none, wo_none])
  | some z => (simp only [Option.map_some]; rw [wo_some, wo_some])
theorem wp_rLst : wp (rLst fs) st QR = wp fs st (vx QR fun x s => wa (x.length ≤ sizeLine) (QR (.v (.ol x)) s)) := by
  unfold rLst; rw [wp_bnd]; simp only [wp_opt, wo_if]
theorem wp_eFz {n : Nat → Nat} : wp (eFz n r) st Q = wp r st (vx Q fun x s => wa (wholeB n x = true) (Q (.v (vw x)) s)) := by
  unfold eFz; rw [wp_bnd]; simp only [wp_opt, wo_if]
theorem wp_eVar {i : Nat} : wp (eVar i) st Q = vr (gt st i) i st Q := by
  unfold wp eVar vr
  rw [gt_eq]
  cases gt st i with
  | none => rfl
  | some o => cases o with
    | none => rfl
    | some r => cases r <;> first | rfl | (simp only [stt_eq])
theorem vr_d {i : Nat} {x : D} : vr (some (some (.d x))) i st Q = Q (.v x) st := rfl
theorem vr_ol {i : Nat} {xs : List D} : vr (some (some (.ol xs))) i st Q = Q (.v (.lst xs)) (stt st i (some (.d (.lst xs)))) := rfl
theorem vr_od {i : Nat} {ks vs : List D} : vr (some (some (.od ks vs))) i st Q = Q (.v (.dct ks vs)) (stt st i (some (.d (.dct ks vs)))) := rfl
theorem gt_0 {a : Option R} {l : Sl} : gt (a :: l) 0 = some a := rfl
theorem gt_s {a : Option R} {l : Sl} {i : Nat} : gt (a :: l) (i + 1) = gt l i := rfl
theorem stt_0 {a x : Option R} {l : Sl} : stt (a :: l) 0 x = x :: l := rfl
theorem stt_s {a x : Option R} {l : Sl} {i : Nat} : stt (a :: l) (i + 1) x = a :: stt l i x := rfl
def fx {α : Type} (Q : Oc α → Sl → Prop) (st : Sl) (k : α → Prop) : Oc α → Sl → Prop
  | .v x, _ => k x
  | .x c, _ => Q (.x c) st
theorem fx_v {Q : Oc α → Sl → Prop} {k : α → Prop} {x : α} : fx Q st k (.v x) s = k x := rfl
theorem fx_x {Q : Oc α → Sl → Prop} {k : α → Prop} {c : Nat} : fx Q st k (.x c) s = Q (.x c) st := rfl
theorem wp_eFull {n : Nat → Nat} : wp (eFull n fa) st Q = wpe fa (vwN n st) (fx Q st fun x => wa (imm x = true) (Q (.v x) st)) := by
  unfold wpe wp eFull
  cases fa (vwN n st) with
  | none => rfl
  | some p =>
    obtain ⟨o, s⟩ := p
    cases o with
    | v x =>
      simp only [fx, wa]
      cases imm x <;> simp
    | x c => rfl
theorem wp_tFull {n : Nat → Nat} {f : M Bool} : wp (tFull n f) st QB = wpe f (vwN n st) (fx QB st fun x => QB (.v x) st) := by
  unfold wpe wp tFull
  cases f (vwN n st) with
  | none => rfl
  | some p => obtain ⟨o, s⟩ := p; cases o <;> rfl
def rfx (Q : Oc R → Sl → Prop) (st : Sl) : Oc R → Sl → Prop
  | .v (.ol xs), _ => wa (imms xs = true) (Q (.v (.ol xs)) st)
  | .v (.d x), _ => wa (imm x = true) (Q (.v (.d x)) st)
  | .x c, _ => Q (.x c) st
  | _, _ => False
theorem rfx_ol {xs : List D} : rfx QR st (.v (.ol xs)) s = wa (imms xs = true) (QR (.v (.ol xs)) st) := rfl
theorem rfx_d {x : D} : rfx QR st (.v (.d x)) s = wa (imm x = true) (QR (.v (.d x)) st) := rfl
theorem rfx_x {c : Nat} : rfx QR st (.x c) s = QR (.x c) st := rfl
theorem wp_rFull {n : Nat → Nat} : wp (rFull n r) st QR = wpe r (vwN n st) (rfx QR st) := by
  unfold wpe wp rFull
  cases r (vwN n st) with
  | none => rfl
  | some p =>
    obtain ⟨o, s⟩ := p
    cases o with
    | v x =>
      cases x with
      | d x =>
        simp only [rfx, wa]
        cases imm x <;> simp
      | ol xs =>
        simp only [rfx, wa]
        cases imms xs <;> simp
      | oi c fs => rfl
      | od a b => rfl
    | x c => rfl
theorem vwN_nil {n : Nat → Nat} : vwN n [] = [] := rfl
theorem vwN_d {n : Nat → Nat} {x : D} {l : Sl} : vwN n (some (.d x) :: l) = some (.d x) :: vwN n l := rfl
theorem vwN_ol {n : Nat → Nat} {x : List D} {l : Sl} : vwN n (some (.ol x) :: l) = some (.d (.lst x)) :: vwN n l := rfl
theorem vwN_od {n : Nat → Nat} {x y : List D} {l : Sl} : vwN n (some (.od x y) :: l) = some (.d (.dct x y)) :: vwN n l := rfl
theorem vwN_no {n : Nat → Nat} {l : Sl} : vwN n (none :: l) = none :: vwN n l := rfl
theorem vwN_oi {n : Nat → Nat} {c : Nat} {x : List D} {l : Sl} : vwN n (some (.oi c x) :: l) = (if (x.length == n c) = true then some (.d (.obj c x)) else none) :: vwN n l := rfl
-- tests
def tb (o : D) (k : Bool → Prop) : Prop := match o with
  | .bl b => k b
  | _ => False
theorem tb_congr {o o' : D} {k : Bool → Prop} (h : o = o') : tb o k = tb o' k := by rw [h]
theorem tb_bl {b : Bool} {k : Bool → Prop} : tb (.bl b) k = k b := rfl
theorem wp_eTst : wp (eTst fa) st QB = wp fa st (vx QB fun x s => tb x fun b => QB (.v b) s) := by
  unfold eTst; rw [wp_bnd]; simp only [wp_opt]
  congr 1; congr 1; funext x s
  cases x <;> first | exact wo_none | exact wo_some
theorem wp_eNot : wp (eNot fa) st Q = wp fa st (vx Q fun x s => tb x fun b => Q (.v (.bl !b)) s) := by
  unfold eNot; rw [wp_bnd]; simp only [wp_opt]
  congr 1; congr 1; funext x s
  cases x <;> first | exact wo_none | exact wo_some
theorem wb_eq {b : Bool} {p q : Prop} : (if b = true then p else q) = wb b p q := rfl
theorem wp_cAnd {f g : M Bool} : wp (cAnd f g) st QB = wp f st (vx QB fun b s => wb b (wp g s QB) (QB (.v false) s)) := by
  unfold cAnd; rw [wp_bnd]; congr 1; congr 1; funext b s; cases b <;> simp [wb, wp_ret]
theorem wp_cOr {f g : M Bool} : wp (cOr f g) st QB = wp f st (vx QB fun b s => wb b (QB (.v true) s) (wp g s QB)) := by
  unfold cOr; rw [wp_bnd]; congr 1; congr 1; funext b s; cases b <;> simp [wb, wp_ret]
theorem wp_cNot {f : M Bool} : wp (cNot f) st QB = wp f st (vx QB fun b s => QB (.v !b) s) := by unfold cNot; rw [wp_bnd]; rfl
theorem wp_cYes : wp cYes st QB = QB (.v true) st := rfl
theorem wp_eAnd : wp (eAnd fa fb) st Q = wp fa st (vx Q fun x s => tb x fun b => wb b (wp fb s Q) (Q (.v (.bl false)) s)) := by
  unfold eAnd; rw [wp_bnd]; congr 1; congr 1; funext x s
  cases x <;> first | rfl | (rename_i b; cases b <;> simp [wb, tb, wp_ret])
theorem wp_eOr : wp (eOr fa fb) st Q = wp fa st (vx Q fun x s => tb x fun b => wb b (Q (.v (.bl true)) s) (wp fb s Q)) := by
  unfold eOr; rw [wp_bnd]; congr 1; congr 1; funext x s
  cases x <;> first | rfl | (rename_i b; cases b <;> simp [wb, tb, wp_ret])
theorem wp_eChain {g g' : D → D → Option D} : wp (eChain g g' fa fb fc) st Q = wp fa st (vx Q fun x s => wp fb s (vx Q fun y s => wo (g x y) fun z => tb z fun b => wb b (wp fc s (vx Q fun w s => wo (g' y w) fun z => Q (.v z) s)) (Q (.v (.bl false)) s))) := by
  unfold eChain; rw [wp_bnd]; congr 1; congr 1; funext x s; rw [wp_bnd]; congr 1; congr 1; funext y s; rw [wp_bnd, wp_opt]
  cases g x y with
  | none => rw [wo_none, wo_none]
  | some z =>
    rw [wo_some, wo_some]
    show wp _ s Q = _
    cases z <;> first | rfl | (rename_i b; cases b <;> simp [wb, tb, wp_ret, wp_bnd, wp_opt])
theorem wp_eIf {c : M Bool} {p q : M D} : wp (eIf c p q) st Q = wp c st (vx Q fun b s => wb b (wp p s Q) (wp q s Q)) := by
  unfold eIf; rw [wp_bnd]; congr 1; congr 1; funext b s; cases b <;> simp [wb]
theorem wp_rIf {c : M Bool} {p q : M R} : wp (rIf c p q) st QR = wp c st (vx QR fun b s => wb b (wp p s QR) (wp q s QR)) := by
  unfold rIf; rw [wp_bnd]; congr 1; congr 1; funext b s; cases b <;> simp [wb]
-- slices
theorem wp_oNone {QO : Oc (Option Int) → Sl → Prop} : wp oNone st QO = QO (.v none) st := rfl
def ti (o : D) (k : Int → Prop) : Prop := match o with
  | .int b => k b
  | _ => False
theorem ti_congr {o o' : D} {k : Int → Prop} (h : o = o') : ti o k = ti o' k := by rw [h]
theorem ti_int {b : Int} {k : Int → Prop} : ti (.int b) k = k b := rfl
theorem wp_oSome {QO : Oc (Option Int) → Sl → Prop} : wp (oSome fa) st QO = wp fa st (vx QO fun x s => ti x fun i => QO (.v (some i)) s) := by
  unfold oSome; rw [wp_bnd]; simp only [wp_opt]
  congr 1; congr 1; funext x s
  cases x <;> first | exact wo_none | exact wo_some
theorem wp_eSl {lo hi : M (Option Int)} : wp (eSl fa lo hi) st Q = wp fa st (vx Q fun x s => wp lo s (vx Q fun l s => wp hi s (vx Q fun h s => wo (dSl x l h) fun z => Q (.v z) s))) := by
  unfold eSl; rw [wp_bnd]; simp only [wp_bnd, wp_opt]
def tl (o : D) (k : List D → Prop) : Prop := match o with
  | .lst b => k b
  | _ => False
theorem tl_congr {o o' : D} {k : List D → Prop} (h : o = o') : tl o k = tl o' k := by rw [h]
theorem tl_l {b : List D} {k : List D → Prop} : tl (.lst b) k = k b := rfl
theorem wp_rSlL' {lo hi : M (Option Int)} : wp (rSlL' fa lo hi) st QR = wp fa st (vx QR fun x s => wp lo s (vx QR fun l s => wp hi s (vx QR fun h s => tl x fun xs => QR (.v (.ol (cutD xs l h))) s))) := by
  unfold rSlL'; rw [wp_bnd]; simp only [wp_bnd, wp_opt]
  congr 1; congr 1; funext x s; congr 1; congr 1; funext l s; congr 1; congr 1; funext h s
  cases x <;> first | exact wo_none | exact wo_some
-- methods of data
theorem wp_eMt {ty : String} {g : D → List D → Option D} : wp (eMt ty g fa fs) st Q = wp fa st (vx Q fun x s => wa (tyOk ty x = true) (wp fs s (vx Q fun xs s => wo (g x xs) fun z => Q (.v z) s))) := by
  unfold eMt; rw [wp_bnd]; congr 1; congr 1; funext x s
  unfold wa
  cases tyOk ty x with
  | false => simp [wp]
  | true => simp [wp_bnd, wp_opt]
theorem wp_rMt {ty : String} {g : D → List D → Option (List D)} : wp (rMt ty g fa fs) st QR = wp fa st (vx QR fun x s => wa (tyOk ty x = true) (wp fs s (vx QR fun xs s => wo (g x xs) fun z => QR (.v (.ol z)) s))) := by
  unfold rMt; rw [wp_bnd]; congr 1; congr 1; funext x s
  unfold wa
  cases tyOk ty x with
  | false => simp [wp]
  | true =>
    simp only [if_true, wp_bnd, wp_opt, true_and]
    congr 1; congr 1; funext y s
    cases g x y with
    | none => (simp only [Option.map_none]; rw [wo_none, wo_none])
    | some z => (simp only [Option.map_some]; rw [wo_some, wo_some])
theorem wp_rBin {g : D → D → Option (List D)} : wp (rBin g fa fb) st QR = wp fa st (vx QR fun x s => wp fb s (vx QR fun y s => wo (g x y) fun z => QR (.v (.ol z)) s)) := by
  unfold rBin; rw [wp_bnd]; simp only [wp_bnd, wp_opt]
  congr 1; congr 1; funext x s; congr 1; congr 1; funext y s
  cases g x y with
  | none => (simp only [Option.map_none]; rw [wo_none, wo_none])
  | some z => (simp only [Option.map_some]; rw [wo_some, wo_some])
def mv (o : Option (Option R)) (i : Nat) (st : Sl) (Q : Oc R → Sl → Prop) : Prop := match o with
  | some (some r) => Q (.v r) (stt st i none)
  | _ => False
theorem mv_congr {o o' : Option (Option R)} {i : Nat} {st st' : Sl} {Q : Oc R → Sl → Prop} (h : o = o') (h2 : st = st') : mv o i st Q = mv o' i st' Q := by rw [h, h2]
theorem mv_s {i : Nat} {x : R} : mv (some (some x)) i st QR = QR (.v x) (stt st i none) := rfl
theorem wp_rMv {i : Nat} : wp (rMv i) st QR = mv (gt st i) i st QR := by
  unfold wp rMv mv
  rw [gt_eq]
  cases gt st i with
  | none => rfl
  | some o => cases o <;> first | rfl | (simp only [stt_eq])
-- what is walked
theorem wp_iLst : wp (iLst fa) st QL = wp fa st (vx QL fun x s => tl x fun xs => QL (.v xs) s) := by
  unfold iLst; rw [wp_bnd]; simp only [wp_opt]
  congr 1; congr 1; funext x s
  cases x <;> first | exact wo_none | exact wo_some
def tt (o : D) (k : List D → Prop) : Prop := match o with
  | .tup b => k b
  | _ => False
theorem tt_congr {o o' : D} {k : List D → Prop} (h : o = o') : tt o k = tt o' k := by rw [h]
theorem tt_t {b : List D} {k : List D → Prop} : tt (.tup b) k = k b := rfl
theorem wp_iTupl : wp (iTupl fa) st QL = wp fa st (vx QL fun x s => tt x fun xs => QL (.v xs) s) := by
  unfold iTupl; rw [wp_bnd]; simp only [wp_opt]
  congr 1; congr 1; funext x s
  cases x <;> first | exact wo_none | exact wo_some
def tq (o : D) (k : List D → Prop) : Prop := match o with
  | .tup b => k b
  | .lst b => k b
  | _ => False
theorem tq_congr {o o' : D} {k : List D → Prop} (h : o = o') : tq o k = tq o' k := by rw [h]
theorem tq_t {b : List D} {k : List D → Prop} : tq (.tup b) k = k b := rfl
theorem tq_l {b : List D} {k : List D → Prop} : tq (.lst b) k = k b := rfl
theorem wp_iSeq : wp (iSeq fa) st QL = wp fa st (vx QL fun x s => tq x fun xs => QL (.v xs) s) := by
  unfold iSeq; rw [wp_bnd]; simp only [wp_opt]
  congr 1; congr 1; funext x s
  cases x <;> first | exact wo_none | exact wo_some
def tx (o : D) (k : Str → Prop) : Prop := match o with
  | .str b => k b
  | _ => False
theorem tx_congr {o o' : D} {k : Str → Prop} (h : o = o') : tx o k = tx o' k := by rw [h]
theorem tx_s {b : Str} {k : Str → Prop} : tx (.str b) k = k b := rfl
theorem wp_iText : wp (iText fa) st QL = wp fa st (vx QL fun x s => tx x fun z => QL (.v (sgnD z)) s) := by
  unfold iText; rw [wp_bnd]; simp only [wp_opt]
  congr 1; congr 1; funext x s
  cases x <;> first | exact wo_none | exact wo_some
def dR1 : List D → Option (List D)
  | [.int j] => if smallI j then some (rngD 0 j.toNat) else none
  | _ => none
theorem dR1_i {j : Int} : dR1 [.int j] = if smallI j then some (rngD 0 j.toNat) else none := rfl
theorem wp_iR1 : wp (iR1 fs) st QL = wp fs st (vx QL fun x s => wo (dR1 x) fun z => QL (.v z) s) := by
  unfold iR1; rw [wp_bnd]; simp only [wp_opt]; rfl
def dR2 : List D → Option (List D)
  | [.int i, .int j] => if smallI i && smallI j then some (rngD i (j - i).toNat) else none
  | _ => none
theorem dR2_i {i j : Int} : dR2 [.int i, .int j] = if smallI i && smallI j then some (rngD i (j - i).toNat) else none := rfl
theorem wp_iR2 : wp (iR2 fs) st QL = wp fs st (vx QL fun x s => wo (dR2 x) fun z => QL (.v z) s) := by
  unfold iR2; rw [wp_bnd]; simp only [wp_opt]; rfl
def dEn : List D → Option (List D)
  | [.lst xs] => some (enumD 0 xs)
  | _ => none
theorem dEn_i {j : List D} : dEn [.lst j] = some (enumD 0 j) := rfl
theorem wp_iEn : wp (iEn fs) st QL = wp fs st (vx QL fun x s => wo (dEn x) fun z => QL (.v z) s) := by
  unfold iEn; rw [wp_bnd]; simp only [wp_opt]; rfl
-- calls
theorem wp_aNil : wp aNil st QA = QA (.v []) st := rfl
theorem wp_aV {fr : M (List Arg)} : wp (aV fa fr) st QA = wp fa st (vx QA fun x s => wp fr s (vx QA fun xs s => QA (.v (.v x :: xs)) s)) := by
  unfold aV; rw [wp_bnd]; simp only [wp_bnd, wp_ret]
def isR (o : Option (Option R)) (p : Prop) : Prop := match o with
  | some (some _) => p
  | _ => False
theorem isR_congr {o o' : Option (Option R)} {p : Prop} (h : o = o') : isR o p = isR o' p := by rw [h]
theorem isR_s {x : R} {p : Prop} : isR (some (some x)) p = p := rfl
theorem wp_aO {i : Nat} {fr : M (List Arg)} : wp (aO i fr) st QA = isR (gt st i) (wp fr st (vx QA fun xs s => QA (.v (.o i :: xs)) s)) := by
  rw [← gt_eq]
  unfold aO isR
  cases h : st[i]? with
  | none => simp only [wp, h]
  | some o => cases o with
    | none => simp only [wp, h]
    | some r =>
      have e : wp (bnd fr fun xs => ret (.o i :: xs)) st QA = wp fr st (vx QA fun xs s => QA (.v (.o i :: xs)) s) := by rw [wp_bnd]; rfl
      rw [← e]
      simp only [wp, h]
def gA : List Arg → Sl → Option (List R)
  | [], _ => some []
  | .v x :: as, st => (gA as st).map (.d x :: ·)
  | .o i :: as, st => match gt st i, gA as st with
    | some (some r), some rs => some (r :: rs)
    | _, _ => none
theorem gA_eq : ∀ (as : List Arg) (st : Sl), getA as st = gA as st
  | [], _ => rfl
  | .v x :: as, st => by unfold getA gA; rw [gA_eq as st]
  | .o i :: as, st => by
    unfold getA gA; rw [gA_eq as st, gt_eq]
    try (cases gt st i with
      | none => rfl
      | some o => cases o <;> rfl)
def pA : List Arg → List R → Sl → Sl
  | .o i :: as, r :: rs, st => pA as rs (stt st i (some r))
  | .v _ :: as, _ :: rs, st => pA as rs st
  | _, _, st => st
theorem pA_eq : ∀ (as : List Arg) (rs : List R) (st : Sl), putA as rs st = pA as rs st
  | .o i :: as, r :: rs, st => by unfold putA pA; rw [pA_eq as rs, stt_eq]
  | .v _ :: as, _ :: rs, st => by unfold putA pA; rw [pA_eq as rs]
  | [], _, st => by unfold putA pA; rfl
  | .o i :: as, [], st => rfl
  | .v i :: as, [], st => rfl
theorem wp_callF {F : Fn} {as : List Arg} : wp (callF F as) st QR = wo (gA as st) fun rs => wa ((owns as).Nodup) (wf F rs fun o rs' => wa (rs'.length = rs.length) (QR o (pA as rs' st))) := by
  unfold wp callF wf
  rw [gA_eq]
  cases gA as st with
  | none => rw [wo_none]
  | some rs =>
    rw [wo_some]
    unfold wa
    by_cases h : (owns as).Nodup
    · simp only [h, if_true, true_and]
      cases F rs with
      | none => rfl
      | some p =>
        obtain ⟨o, rs'⟩ := p
        by_cases h2 : rs'.length = rs.length
        · simp only [h2, if_true, true_and, pA_eq]
        · simp only [h2, if_false, false_and]
    · simp only [h, if_false, false_and]
theorem wp_rCall {n : Nat} {F : Fn} {ds : List D} {fl : M (List Arg)} : wp (rCall n F ds fl) st QR = wp fl st (vx QR fun as s => wa (as.length + ds.length = n) (wp (callF F (as ++ ds.map Arg.v)) s QR)) := by
  unfold rCall; rw [wp_bnd]; congr 1; congr 1; funext as s
  unfold wa
  by_cases h : as.length + ds.length = n
  · simp only [h, if_true, true_and]
  · simp only [h, if_false, false_and]; rfl
def to (o : D) (k : Nat → List D → Prop) : Prop := match o with
  | .obj c b => k c b
  | _ => False
theorem to_congr {o o' : D} {k : Nat → List D → Prop} (h : o = o') : to o k = to o' k := by rw [h]
theorem to_o {c : Nat} {b : List D} {k : Nat → List D → Prop} : to (.obj c b) k = k c b := rfl
def nx0 {α β : Type} (k : α → Sl → Prop) : Oc α → Sl → Prop
  | .v a, s => k a s
  | _, _ => False
theorem nx0_v {k : α → Sl → Prop} {a : α} : nx0 (β := β) k (.v a) s = k a s := rfl
theorem wp_rMeth {n : Nat} {tab : Nat → Option Fn} {fl : M (List Arg)} : wp (rMeth n tab fa fl) st QR = wp fa st (nx0 (β := D) fun x s => to x fun c xs => wo (tab c) fun F => wp fl s (vx QR fun as s => wa (as.length + 1 = n) (wp (callF F (.v (.obj c xs) :: as)) s QR))) := by
  have gen : ∀ (F : Fn) (c : Nat) (xs : List D) (s : Sl), wp (bnd fl fun as => if as.length + 1 = n then callF F (.v (.obj c xs) :: as) else fun _ => none) s QR = wp fl s (vx QR fun as s => wa (as.length + 1 = n) (wp (callF F (.v (.obj c xs) :: as)) s QR)) := fun F c xs s => by
    rw [wp_bnd]; congr 1; congr 1; funext as s
    unfold wa
    by_cases h : as.length + 1 = n
    · simp only [h, if_true, true_and]
    · simp only [h, if_false, false_and]; rfl
  simp only [← gen]
  unfold wp rMeth
  cases fa st with
  | none => rfl
  | some p =>
    obtain ⟨o, s⟩ := p
    cases o with
    | x c => rfl
    | v x =>
      cases x with
      | obj c xs =>
        simp only [nx0_v, to_o]
        cases tab c with
        | none => rw [wo_none]
        | some F => rw [wo_some]
      | _ => rfl
theorem wp_rMakeN {c : Nat} : wp (rMakeN c) st QR = QR (.v (.oi c [])) st := rfl
-- a def
def oend (n : Nat) (kp : Nat → Bool) (rs : List R) (Q : Oc R → List R → Prop) : Fl → Sl → Prop
  | .rt r, s => wo (outs kp 0 rs s) fun qs => Q (.v r) qs
  | .nx, s => wo (outs kp 0 rs s) fun qs => Q (.v (.d .non)) qs
  | .x c, s => wo (outs kp 0 rs s) fun qs => Q (.x c) qs
  | _, _ => False
theorem wf_fnOf {n N : Nat} {kp : Nat → Bool} {body : MS} {rs : List R} {Q : Oc R → List R → Prop} : wf (fnOf n N kp body) rs Q = wa (rs.length = n) (wse body (rs.map some ++ List.replicate (N - n) none) (oend n kp rs Q)) := by
  unfold wf fnOf wse ws wa
  by_cases h : rs.length = n
  · simp only [h, if_true, true_and]
    have wm : ∀ (o : Oc R) (x : Option (List R)), (match (x.map fun qs => (o, qs)) with | some (o, s) => Q o s | none => False) = wo x fun qs => Q o qs := fun o x => by
      cases x with
      | none => rw [wo_none]; rfl
      | some a => rw [wo_some]; rfl
    cases body (rs.map some ++ List.replicate (N - n) none) with
    | none => rfl
    | some p =>
      obtain ⟨f, s⟩ := p
      cases f <;> first | rfl | exact wm _ _
  · simp only [h, if_false, false_and]
theorem oend_rt {n : Nat} {kp : Nat → Bool} {rs : List R} {Q : Oc R → List R → Prop} {v : R} : oend n kp rs Q (.rt v) s = wo (outs kp 0 rs s) fun qs => Q (.v v) qs := rfl
theorem oend_nx {n : Nat} {kp : Nat → Bool} {rs : List R} {Q : Oc R → List R → Prop} : oend n kp rs Q .nx s = wo (outs kp 0 rs s) fun qs => Q (.v (.d .non)) qs := rfl
theorem oend_x {n : Nat} {kp : Nat → Bool} {rs : List R} {Q : Oc R → List R → Prop} {c : Nat} : oend n kp rs Q (.x c) s = wo (outs kp 0 rs s) fun qs => Q (.x c) qs := rfl
theorem outs_nil {kp : Nat → Bool} {i : Nat} {st : Sl} : outs kp i [] st = some [] := by cases st <;> rfl
def outs1 (o : Option R) (t : Option (List R)) : Option (List R) := match o, t with
  | some q, some qs => some (q :: qs)
  | _, _ => none
theorem outs1_s {a : R} {b : List R} : outs1 (some a) (some b) = some (a :: b) := rfl
theorem outs_cons {kp : Nat → Bool} {i : Nat} {a : R} {rs : List R} {b : Option R} {st : Sl} : outs kp i (a :: rs) (b :: st) = outs1 (if kp i = true then b else if isD a = true then some a else none) (outs kp (i + 1) rs st) := rfl
theorem isD_d {x : D} : isD (.d x) = true := rfl
-- rows
theorem ws_sNext : ws sNext st QS = QS .nx st := rfl
theorem ws_sBrk : ws sBrk st QS = QS .bk st := rfl
theorem ws_sCt : ws sCt st QS = QS .ct st := rfl
theorem ws_sRetN : ws sRetN st QS = QS (.rt (.d .non)) st := rfl
theorem ws_sSeq {f g : MS} : ws (sSeq f g) st QS = ws f st (nx QS fun s => ws g s QS) := by
  unfold ws sSeq
  cases f st with
  | none => rfl
  | some p => obtain ⟨o, s⟩ := p; cases o <;> rfl
theorem ws_sSet {i : Nat} {m : M R} : ws (sSet i m) st QS = wp m st (vs QS fun r s => QS .nx (stt s i (some r))) := by
  unfold ws wp sSet
  cases m st with
  | none => rfl
  | some p => obtain ⟨o, s⟩ := p; cases o <;> first | rfl | (simp only [stt_eq]; rfl)
theorem ws_sAsg {m : M D} {g : D → Sl → Option Sl} : ws (sAsg m g) st QS = wp m st (vs QS fun x s => wo (g x s) fun s => QS .nx s) := by
  unfold ws wp sAsg
  cases m st with
  | none => rfl
  | some p =>
    obtain ⟨o, s⟩ := p
    cases o with
    | x c => rfl
    | v x =>
      simp only [vs_v]
      cases g x s with
      | none => rw [wo_none]; rfl
      | some z => rw [wo_some]; rfl
theorem ws_sIf {c : M Bool} {f g : MS} : ws (sIf c f g) st QS = wp c st (vs QS fun b s => wb b (ws f s QS) (ws g s QS)) := by
  unfold ws wp sIf
  cases c st with
  | none => rfl
  | some p =>
    obtain ⟨o, s⟩ := p
    cases o with
    | x c => rfl
    | v b => cases b <;> simp [wb, vs]
theorem ws_sRet {m : M R} : ws (sRet m) st QS = wp m st (vs QS fun r s => QS (.rt r) s) := by
  unfold ws wp sRet
  cases m st with
  | none => rfl
  | some p => obtain ⟨o, s⟩ := p; cases o <;> rfl
theorem ws_sDrop {m : M R} : ws (sDrop m) st QS = wp m st (vs QS fun _ s => QS .nx s) := by
  unfold ws wp sDrop
  cases m st with
  | none => rfl
  | some p => obtain ⟨o, s⟩ := p; cases o <;> rfl
theorem ws_sFor {it : M (List D)} {g : D → Sl → Option Sl} {body : MS} : ws (sFor it g body) st QS = wp it st (vs QS fun ds s => ws (forL g body ds) s QS) := by
  unfold ws wp sFor
  cases it st with
  | none => rfl
  | some p => obtain ⟨o, s⟩ := p; cases o <;> rfl
theorem ws_forL_nil {g : D → Sl → Option Sl} {body : MS} : ws (forL g body []) st QS = QS .nx st := rfl
theorem ws_forL_cons {g : D → Sl → Option Sl} {body : MS} {d : D} {ds : List D} : ws (forL g body (d :: ds)) st QS = wo (g d st) fun s => ws body s (lp QS fun s => ws (forL g body ds) s QS) := by
  unfold ws
  rw [forL.eq_2]
  cases g d st with
  | none => rw [wo_none]
  | some s1 =>
    rw [wo_some]
    simp only []
    cases body s1 with
    | none => rfl
    | some p => obtain ⟨o, s⟩ := p; cases o <;> rfl
theorem wp_sub {m : M α} {Q Q' : Oc α → Sl → Prop} (h : ∀ o s, Q o s → Q' o s) (k : wp m st Q) : wp m st Q' := by
  unfold wp at *
  split at k
  · exact h _ _ k
  · exact k.elim
theorem ws_sub {m : MS} {Q Q' : Fl → Sl → Prop} (h : ∀ o s, Q o s → Q' o s) (k : ws m st Q) : ws m st Q' := by
  unfold ws at *
  split at k
  · exact h _ _ k
  · exact k.elim
/-- a loop over a list, by its word: what is left, and the state -/
theorem ws_for {g : D → Sl → Option Sl} {body : MS} (I : List D → Sl → Prop) {ds : List D} (h0 : I ds st) (hs : ∀ d r s, I (d :: r) s → wo (g d s) fun s1 => ws body s1 (lp QS fun s2 => I r s2)) (h1 : ∀ s, I [] s → QS .nx s) : ws (forL g body ds) st QS := by
  induction ds generalizing st with
  | nil => exact h1 _ h0
  | cons d r ih =>
    rw [ws_forL_cons]
    obtain ⟨s1, e, h⟩ := hs d r st h0
    refine ⟨s1, e, ws_sub (fun o s z => ?_) h⟩
    cases o with
    | nx => exact ih z
    | ct => exact ih z
    | bk => exact z
    | rt v => exact z
    | x c => exact z
theorem ws_while0 {c : M Bool} {body : MS} {n : Nat} : ws (whileL c body (n + 1)) st QS = wp c st (vs QS fun b s => wb b (ws body s (lp QS fun s => ws (whileL c body n) s QS)) (QS .nx s)) := by
  unfold wp
  unfold ws
  rw [whileL.eq_2]
  cases c st with
  | none => rfl
  | some p =>
    obtain ⟨o, s⟩ := p
    cases o with
    | x c => rfl
    | v b =>
      cases b with
      | false => simp [wb, vs]
      | true =>
        simp only [vs_v, wb_t]
        cases body s with
        | none => rfl
        | some p => obtain ⟨o, s⟩ := p; cases o <;> rfl
/-- a while loop, by its word and its measure -/
theorem ws_while {c : M Bool} {body : MS} (I : Nat → Sl → Prop) {n k : Nat} (hk : k < n) (h0 : I k st) (hs : ∀ k s, I k s → wp c s (vs QS fun b s1 => wb b (ws body s1 (lp QS fun s2 => ∃ j, j < k ∧ I j s2)) (QS .nx s1))) : ws (whileL c body n) st QS := by
  induction n generalizing k st with
  | zero => omega
  | succ n ih =>
    rw [ws_while0]
    refine wp_sub (fun o s z => ?_) (hs k st h0)
    cases o with
    | x c => exact z
    | v b =>
      refine wb_of (fun hb => ?_) (fun hb => ?_)
      · subst hb
        refine ws_sub (fun o s z => ?_) z
        cases o with
        | nx => obtain ⟨j, hj, z⟩ := z; exact ih (by omega) z
        | ct => obtain ⟨j, hj, z⟩ := z; exact ih (by omega) z
        | bk => exact z
        | rt v => exact z
        | x c => exact z
      · subst hb
        have z : wb false _ (QS .nx s) := z
        rw [wb_f] at z
        exact z
-- lists that are changed
def gol (o : Option (Option R)) (k : List D → Prop) : Prop := match o with
  | some (some (.ol xs)) => k xs
  | _ => False
theorem gol_congr {o o' : Option (Option R)} {k : List D → Prop} (h : o = o') : gol o k = gol o' k := by rw [h]
theorem gol_s {xs : List D} {k : List D → Prop} : gol (some (some (.ol xs))) k = k xs := rfl
theorem isL_ol {xs : List D} : isL (some (some (.ol xs))) = true := rfl
theorem isL_d {xs : List D} : isL (some (some (.d (.lst xs)))) = true := rfl
theorem ws_sApp' {i : Nat} : ws (sApp' i fa) st QS = wa (isL (gt st i) = true) (wp fa st (vs QS fun x s => gol (gt s i) fun xs => wa (xs.length < sizeLine) (QS .nx (stt s i (some (.ol (xs ++ [x]))))))) := by
  unfold ws wp sApp' sApp wa
  rw [gt_eq]
  by_cases hl : isL (gt st i) = true
  · simp only [hl, if_true, true_and]
    cases fa st with
    | none => rfl
    | some p =>
      obtain ⟨o, s⟩ := p
      cases o with
      | x c => rfl
      | v x =>
        simp only [vs_v]
        rw [gt_eq]
        cases gt s i with
        | none => rfl
        | some o =>
          cases o with
          | none => rfl
          | some r =>
            cases r <;> try rfl
            rename_i xs
            simp only [gol_s, stt_eq]
            by_cases h : xs.length < sizeLine
            · simp only [h, if_true, true_and]
            · simp only [h, if_false, false_and]
  · simp [hl]
def tls (o : D) (k : List D → Prop) : Prop := match o with
  | .tup b => k b
  | .lst b => k b
  | _ => False
theorem ws_sExtA {i : Nat} : ws (sExtA i fa) st QS = wa (isL (gt st i) = true) (wp fa st (vs QS fun x s => tq x fun ys => gol (gt s i) fun xs => wa (xs.length + ys.length ≤ sizeLine) (QS .nx (stt s i (some (.ol (xs ++ ys))))))) := by
  unfold ws wp sExtA wa
  rw [gt_eq]
  by_cases hl : isL (gt st i) = true
  · simp only [hl, if_true, true_and]
    cases fa st with
    | none => rfl
    | some p =>
      obtain ⟨o, s⟩ := p
      cases o with
      | x c => rfl
      | v x =>
        simp only [vs_v]
        rw [gt_eq]
        cases x <;> try rfl
        all_goals
          rename_i ys
          cases gt s i with
          | none => rfl
          | some o =>
            cases o with
            | none => rfl
            | some r =>
              cases r <;> try rfl
              rename_i xs
              simp only [tq_t, tq_l, gol_s, stt_eq]
              by_cases h : xs.length + ys.length ≤ sizeLine
              · simp only [h, if_true, true_and]
              · simp only [h, if_false, false_and]
  · simp [hl]
theorem ws_sSub {i : Nat} {mi : M D} : ws (sSub i mi fa) st QS = wp fa st (vs QS fun x s1 => wa (isL (gt s1 i) = true) (wp mi s1 (vs QS fun y s2 => ti y fun k => gol (gt s2 i) fun xs => wo (ixN xs.length k) fun j => QS .nx (stt s2 i (some (.ol (xs.set j x))))))) := by
  unfold ws wp sSub
  cases fa st with
  | none => rfl
  | some p =>
    obtain ⟨o, s⟩ := p
    cases o with
    | x c => rfl
    | v x =>
      simp only [vs_v, gt_eq, wa]
      cases mi s with
      | none => simp
      | some p =>
        obtain ⟨o, s2⟩ := p
        cases o with
        | x c => cases isL (gt s i) <;> simp [vs]
        | v y =>
          simp only [vs_v, gt_eq]
          cases y <;> try (simp [ti]; done)
          rename_i k
          simp only [ti_int]
          cases gt s2 i with
          | none => simp [gol]
          | some o =>
            cases o with
            | none => simp [gol]
            | some r =>
              cases r <;> try (simp [gol]; done)
              rename_i xs
              simp only [gol_s]
              cases ixN xs.length k with
              | none => simp [wo_none]
              | some j =>
                rw [wo_some]
                cases isL (gt s i) <;> simp [stt_eq]
-- targets
theorem gN_eq {i : Nat} {d : D} : gN i d st = some (stt st i (some (.d d))) := by unfold gN; rw [stt_eq]
theorem gT_eq {n : Nat} {g : List D → Sl → Option Sl} {ds : List D} : gT n g (.tup ds) st = if ds.length = n then g ds st else none := rfl
theorem gsN_eq : gsN [] st = some st := rfl
theorem gsC_eq {f : D → Sl → Option Sl} {g : List D → Sl → Option Sl} {d : D} {r : List D} : gsC f g (d :: r) st = (f d st).bind (g r) := rfl
theorem some_bind' {a : α} {k : α → Option β} : (some a).bind k = k a := rfl
end
end Fz

-- text Fz18n
set_option Elab.async false
set_option linter.all false
set_option maxRecDepth 100000
set_option maxHeartbeats 2000000
namespace Fz
open PySem L2
/-! ### the same ends, every rest by a name (a rest that is a lambda is walked by simp) -/
/-- a condition, then a rest -/
def wc (c : Prop) (k : Unit → Prop) : Prop := wa c (k ())
theorem wc_t {k : Unit → Prop} : wc True k = k () := wa_t
theorem wc_of {c : Prop} {k : Unit → Prop} (h : c) (g : k ()) : wc c k := ⟨h, g⟩
theorem wc_and {c d : Prop} {k : Unit → Prop} (h : c) (g : wc d k) : wc (c ∧ d) k := ⟨⟨h, g.1⟩, g.2⟩
/-- two ways, by a name -/
def wd (b : Bool) (k : Bool → Prop) : Prop := k b
theorem wd_t {k : Bool → Prop} : wd true k = k true := rfl
theorem wd_f {k : Bool → Prop} : wd false k = k false := rfl
theorem wd_of {b : Bool} {k : Bool → Prop} (h1 : b = true → k true) (h2 : b = false → k false) : wd b k := by
  cases b with
  | true => exact h1 rfl
  | false => exact h2 rfl
theorem wo_ifc {α : Type} {c : Prop} [Decidable c] {k : α → Prop} {a : α} : wo (if c then some a else none) k = wc c (fun _ => k a) := wo_if
def kU {α : Type} (k : α → Prop) (a : α) : Unit → Prop := fun _ => k a
theorem kU_a {α : Type} (k : α → Prop) (a : α) : kU k a () = k a := rfl
theorem wo_ifn {α : Type} {c : Prop} [Decidable c] {k : α → Prop} {a : α} : wo (if c then some a else none) k = wc c (kU k a) := wo_if
theorem wo_of {α : Type} {o : Option α} {a : α} {k : α → Prop} (h : o = some a) (g : k a) : wo o k := ⟨a, h, g⟩
section
variable {α β : Type} {st s : Sl} {Q : Oc D → Sl → Prop} {QR : Oc R → Sl → Prop} {QB : Oc Bool → Sl → Prop} {QL : Oc (List D) → Sl → Prop} {QA : Oc (List Arg) → Sl → Prop} {QO : Oc (Option Int) → Sl → Prop} {QS : Fl → Sl → Prop} {fa fb fc : M D} {fs : M (List D)} {r : M R}
def kr {α : Type} (Q : Oc α → Sl → Prop) (s : Sl) : α → Prop := fun z => Q (.v z) s
theorem kr_a {α : Type} (Q : Oc α → Sl → Prop) (s : Sl) (z : α) : kr Q s z = Q (.v z) s := rfl
def krl (Q : Oc R → Sl → Prop) (s : Sl) : List D → Prop := fun z => Q (.v (.ol z)) s
theorem krl_a (Q : Oc R → Sl → Prop) (s : Sl) (z : List D) : krl Q s z = Q (.v (.ol z)) s := rfl
def ku {α : Type} (Q : Oc α → Sl → Prop) (z : α) (s : Sl) : Unit → Prop := fun _ => Q (.v z) s
theorem ku_a {α : Type} (Q : Oc α → Sl → Prop) (z : α) (s : Sl) : ku Q z s () = Q (.v z) s := rfl
theorem n_ret : ∀ {α : Type} {a : α} {st : Sl} {Q : Oc α → Sl → Prop}, wp (ret a) st Q = Q (.v a) st := rfl
theorem n_opt : ∀ {α : Type} {o : Option α} {st : Sl} {Q : Oc α → Sl → Prop}, wp (opt o) st Q = wo o (kr Q st) := wp_opt
def kUn (g : D → Option D) (Q : Oc D → Sl → Prop) : Oc (D) → Sl → Prop := vx Q fun x s => wo (g x) (kr Q s)
theorem kUn_v (g : D → Option D) (Q : Oc D → Sl → Prop) (x : D) (s : Sl) : kUn g Q (.v x) s = wo (g x) (kr Q s) := rfl
theorem kUn_x (g : D → Option D) (Q : Oc D → Sl → Prop) (c : Nat) (s : Sl) : kUn g Q (.x c) s = Q (.x c) s := rfl
theorem n_eUn : ∀ {g : D → Option D}, wp (eUn g fa) st Q = wp fa st (kUn g Q) := wp_eUn
def kBin2 (g : D → D → Option D) (x : D) (Q : Oc D → Sl → Prop) : Oc (D) → Sl → Prop := vx Q fun y s => wo (g x y) (kr Q s)
theorem kBin2_v (g : D → D → Option D) (x : D) (Q : Oc D → Sl → Prop) (y : D) (s : Sl) : kBin2 g x Q (.v y) s = wo (g x y) (kr Q s) := rfl
theorem kBin2_x (g : D → D → Option D) (x : D) (Q : Oc D → Sl → Prop) (c : Nat) (s : Sl) : kBin2 g x Q (.x c) s = Q (.x c) s := rfl
def kBin1 (g : D → D → Option D) (fb : M D) (Q : Oc D → Sl → Prop) : Oc (D) → Sl → Prop := vx Q fun x s => wp fb s (kBin2 g x Q)
theorem kBin1_v (g : D → D → Option D) (fb : M D) (Q : Oc D → Sl → Prop) (x : D) (s : Sl) : kBin1 g fb Q (.v x) s = wp fb s (kBin2 g x Q) := rfl
theorem kBin1_x (g : D → D → Option D) (fb : M D) (Q : Oc D → Sl → Prop) (c : Nat) (s : Sl) : kBin1 g fb Q (.x c) s = Q (.x c) s := rfl
theorem n_eBin : ∀ {g : D → D → Option D}, wp (eBin g fa fb) st Q = wp fa st (kBin1 g fb Q) := wp_eBin
def kCons2 (x : D) (Q : Oc (List D) → Sl → Prop) : Oc (List D) → Sl → Prop := vx Q fun xs s => Q (.v (x :: xs)) s
theorem kCons2_v (x : D) (Q : Oc (List D) → Sl → Prop) (xs : List D) (s : Sl) : kCons2 x Q (.v xs) s = Q (.v (x :: xs)) s := rfl
theorem kCons2_x (x : D) (Q : Oc (List D) → Sl → Prop) (c : Nat) (s : Sl) : kCons2 x Q (.x c) s = Q (.x c) s := rfl
def kCons1 (fr : M (List D)) (Q : Oc (List D) → Sl → Prop) : Oc (D) → Sl → Prop := vx Q fun x s => wp fr s (kCons2 x Q)
theorem kCons1_v (fr : M (List D)) (Q : Oc (List D) → Sl → Prop) (x : D) (s : Sl) : kCons1 fr Q (.v x) s = wp fr s (kCons2 x Q) := rfl
theorem kCons1_x (fr : M (List D)) (Q : Oc (List D) → Sl → Prop) (c : Nat) (s : Sl) : kCons1 fr Q (.x c) s = Q (.x c) s := rfl
theorem n_eCons : ∀ {fr : M (List D)}, wp (eCons fa fr) st QL = wp fa st (kCons1 fr QL) := wp_eCons
theorem n_eNil : wp eNil st QL = QL (.v []) st := rfl
def kOp (g : List D → Option D) (Q : Oc D → Sl → Prop) : Oc (List D) → Sl → Prop := vx Q fun x s => wo (g x) (kr Q s)
theorem kOp_v (g : List D → Option D) (Q : Oc D → Sl → Prop) (x : List D) (s : Sl) : kOp g Q (.v x) s = wo (g x) (kr Q s) := rfl
theorem kOp_x (g : List D → Option D) (Q : Oc D → Sl → Prop) (c : Nat) (s : Sl) : kOp g Q (.x c) s = Q (.x c) s := rfl
theorem n_eOp : ∀ {g : List D → Option D}, wp (eOp g fs) st Q = wp fs st (kOp g Q) := wp_eOp
def kTup  (Q : Oc D → Sl → Prop) : Oc (List D) → Sl → Prop := vx Q fun x s => wc (x.length ≤ sizeLine) (ku Q (.tup x) s)
theorem kTup_v  (Q : Oc D → Sl → Prop) (x : List D) (s : Sl) : kTup  Q (.v x) s = wc (x.length ≤ sizeLine) (ku Q (.tup x) s) := rfl
theorem kTup_x  (Q : Oc D → Sl → Prop) (c : Nat) (s : Sl) : kTup  Q (.x c) s = Q (.x c) s := rfl
theorem n_eTup : wp (eTup fs) st Q = wp fs st (kTup Q) := wp_eTup
def kD  (Q : Oc R → Sl → Prop) : Oc (D) → Sl → Prop := vx Q fun x s => Q (.v (.d x)) s
theorem kD_v  (Q : Oc R → Sl → Prop) (x : D) (s : Sl) : kD  Q (.v x) s = Q (.v (.d x)) s := rfl
theorem kD_x  (Q : Oc R → Sl → Prop) (c : Nat) (s : Sl) : kD  Q (.x c) s = Q (.x c) s := rfl
theorem n_rD : wp (rD fa) st QR = wp fa st (kD QR) := wp_rD
def kROp (g : List D → Option (List D)) (Q : Oc R → Sl → Prop) : Oc (List D) → Sl → Prop := vx Q fun x s => wo (g x) (krl Q s)
theorem kROp_v (g : List D → Option (List D)) (Q : Oc R → Sl → Prop) (x : List D) (s : Sl) : kROp g Q (.v x) s = wo (g x) (krl Q s) := rfl
theorem kROp_x (g : List D → Option (List D)) (Q : Oc R → Sl → Prop) (c : Nat) (s : Sl) : kROp g Q (.x c) s = Q (.x c) s := rfl
theorem n_rOp : ∀ {g : List D → Option (List D)}, wp (rOp g fs) st QR = wp fs st (kROp g QR) := wp_rOp
def kLst  (Q : Oc R → Sl → Prop) : Oc (List D) → Sl → Prop := vx Q fun x s => wc (x.length ≤ sizeLine) (ku Q (.ol x) s)
theorem kLst_v  (Q : Oc R → Sl → Prop) (x : List D) (s : Sl) : kLst  Q (.v x) s = wc (x.length ≤ sizeLine) (ku Q (.ol x) s) := rfl
theorem kLst_x  (Q : Oc R → Sl → Prop) (c : Nat) (s : Sl) : kLst  Q (.x c) s = Q (.x c) s := rfl
theorem n_rLst : wp (rLst fs) st QR = wp fs st (kLst QR) := wp_rLst
def kFz (n : Nat → Nat) (Q : Oc D → Sl → Prop) : Oc (R) → Sl → Prop := vx Q fun x s => wc (wholeB n x = true) (ku Q (vw x) s)
theorem kFz_v (n : Nat → Nat) (Q : Oc D → Sl → Prop) (x : R) (s : Sl) : kFz n Q (.v x) s = wc (wholeB n x = true) (ku Q (vw x) s) := rfl
theorem kFz_x (n : Nat → Nat) (Q : Oc D → Sl → Prop) (c : Nat) (s : Sl) : kFz n Q (.x c) s = Q (.x c) s := rfl
theorem n_eFz : ∀ {n : Nat → Nat}, wp (eFz n r) st Q = wp r st (kFz n Q) := wp_eFz
theorem n_eVar : ∀ {i : Nat}, wp (eVar i) st Q = vr (gt st i) i st Q := wp_eVar
def kFull (st : Sl) (Q : Oc D → Sl → Prop) : Oc D → Sl → Prop := fx Q st fun x => wa (imm x = true) (Q (.v x) st)
theorem kFull_v (st : Sl) (Q : Oc D → Sl → Prop) (x : D) (s : Sl) : kFull st Q (.v x) s = wc (imm x = true) (ku Q x st) := rfl
theorem kFull_x (st : Sl) (Q : Oc D → Sl → Prop) (c : Nat) (s : Sl) : kFull st Q (.x c) s = Q (.x c) st := rfl
theorem n_eFull : ∀ {n : Nat → Nat}, wp (eFull n fa) st Q = wpe fa (vwN n st) (kFull st Q) := wp_eFull
def kTFull (st : Sl) (Q : Oc Bool → Sl → Prop) : Oc Bool → Sl → Prop := fx Q st fun x => Q (.v x) st
theorem kTFull_v (st : Sl) (Q : Oc Bool → Sl → Prop) (x : Bool) (s : Sl) : kTFull st Q (.v x) s = Q (.v x) st := rfl
theorem kTFull_x (st : Sl) (Q : Oc Bool → Sl → Prop) (c : Nat) (s : Sl) : kTFull st Q (.x c) s = Q (.x c) st := rfl
theorem n_tFull : ∀ {n : Nat → Nat} {f : M Bool}, wp (tFull n f) st QB = wpe f (vwN n st) (kTFull st QB) := wp_tFull
theorem n_rfx_ol {xs : List D} : rfx QR st (.v (.ol xs)) s = wc (imms xs = true) (ku QR (.ol xs) st) := rfl
theorem n_rfx_d {x : D} : rfx QR st (.v (.d x)) s = wc (imm x = true) (ku QR (.d x) st) := rfl
theorem n_rFull : ∀ {n : Nat → Nat}, wp (rFull n r) st QR = wpe r (vwN n st) (rfx QR st) := wp_rFull
def kTst  (Q : Oc Bool → Sl → Prop) : Oc (D) → Sl → Prop := vx Q fun x s => tb x (kr Q s)
theorem kTst_v  (Q : Oc Bool → Sl → Prop) (x : D) (s : Sl) : kTst  Q (.v x) s = tb x (kr Q s) := rfl
theorem kTst_x  (Q : Oc Bool → Sl → Prop) (c : Nat) (s : Sl) : kTst  Q (.x c) s = Q (.x c) s := rfl
theorem n_eTst : wp (eTst fa) st QB = wp fa st (kTst QB) := wp_eTst
def krn (Q : Oc D → Sl → Prop) (s : Sl) : Bool → Prop := fun b => Q (.v (.bl !b)) s
theorem krn_a (Q : Oc D → Sl → Prop) (s : Sl) (b : Bool) : krn Q s b = Q (.v (.bl !b)) s := rfl
def kNot  (Q : Oc D → Sl → Prop) : Oc (D) → Sl → Prop := vx Q fun x s => tb x (krn Q s)
theorem kNot_v  (Q : Oc D → Sl → Prop) (x : D) (s : Sl) : kNot  Q (.v x) s = tb x (krn Q s) := rfl
theorem kNot_x  (Q : Oc D → Sl → Prop) (c : Nat) (s : Sl) : kNot  Q (.x c) s = Q (.x c) s := rfl
theorem n_eNot : wp (eNot fa) st Q = wp fa st (kNot Q) := wp_eNot
def wAnd (g : M Bool) (Q : Oc Bool → Sl → Prop) (s : Sl) : Bool → Prop := fun b => wb b (wp g s Q) (Q (.v false) s)
theorem wAnd_t (g : M Bool) (Q : Oc Bool → Sl → Prop) (s : Sl) : wAnd g Q s true = wp g s Q := rfl
theorem wAnd_f (g : M Bool) (Q : Oc Bool → Sl → Prop) (s : Sl) : wAnd g Q s false = Q (.v false) s := wb_f
def kAnd (g : M Bool) (Q : Oc Bool → Sl → Prop) : Oc (Bool) → Sl → Prop := vx Q fun b s => wd b (wAnd g Q s)
theorem kAnd_v (g : M Bool) (Q : Oc Bool → Sl → Prop) (b : Bool) (s : Sl) : kAnd g Q (.v b) s = wd b (wAnd g Q s) := rfl
theorem kAnd_x (g : M Bool) (Q : Oc Bool → Sl → Prop) (c : Nat) (s : Sl) : kAnd g Q (.x c) s = Q (.x c) s := rfl
theorem n_cAnd : ∀ {f g : M Bool}, wp (cAnd f g) st QB = wp f st (kAnd g QB) := wp_cAnd
def wOr (g : M Bool) (Q : Oc Bool → Sl → Prop) (s : Sl) : Bool → Prop := fun b => wb b (Q (.v true) s) (wp g s Q)
theorem wOr_t (g : M Bool) (Q : Oc Bool → Sl → Prop) (s : Sl) : wOr g Q s true = Q (.v true) s := rfl
theorem wOr_f (g : M Bool) (Q : Oc Bool → Sl → Prop) (s : Sl) : wOr g Q s false = wp g s Q := wb_f
def kOr (g : M Bool) (Q : Oc Bool → Sl → Prop) : Oc (Bool) → Sl → Prop := vx Q fun b s => wd b (wOr g Q s)
theorem kOr_v (g : M Bool) (Q : Oc Bool → Sl → Prop) (b : Bool) (s : Sl) : kOr g Q (.v b) s = wd b (wOr g Q s) := rfl
theorem kOr_x (g : M Bool) (Q : Oc Bool → Sl → Prop) (c : Nat) (s : Sl) : kOr g Q (.x c) s = Q (.x c) s := rfl
theorem n_cOr : ∀ {f g : M Bool}, wp (cOr f g) st QB = wp f st (kOr g QB) := wp_cOr
def kCNot  (Q : Oc Bool → Sl → Prop) : Oc (Bool) → Sl → Prop := vx Q fun b s => Q (.v !b) s
theorem kCNot_v  (Q : Oc Bool → Sl → Prop) (b : Bool) (s : Sl) : kCNot  Q (.v b) s = Q (.v !b) s := rfl
theorem kCNot_x  (Q : Oc Bool → Sl → Prop) (c : Nat) (s : Sl) : kCNot  Q (.x c) s = Q (.x c) s := rfl
theorem n_cNot : ∀ {f : M Bool}, wp (cNot f) st QB = wp f st (kCNot QB) := wp_cNot
theorem n_cYes : wp cYes st QB = QB (.v true) st := rfl
def wEAnd (fb : M D) (Q : Oc D → Sl → Prop) (s : Sl) : Bool → Prop := fun b => wb b (wp fb s Q) (Q (.v (.bl false)) s)
theorem wEAnd_t (fb : M D) (Q : Oc D → Sl → Prop) (s : Sl) : wEAnd fb Q s true = wp fb s Q := rfl
theorem wEAnd_f (fb : M D) (Q : Oc D → Sl → Prop) (s : Sl) : wEAnd fb Q s false = Q (.v (.bl false)) s := wb_f
def kEAnd (fb : M D) (Q : Oc D → Sl → Prop) : Oc (D) → Sl → Prop := vx Q fun x s => tb x (wEAnd fb Q s)
theorem kEAnd_v (fb : M D) (Q : Oc D → Sl → Prop) (x : D) (s : Sl) : kEAnd fb Q (.v x) s = tb x (wEAnd fb Q s) := rfl
theorem kEAnd_x (fb : M D) (Q : Oc D → Sl → Prop) (c : Nat) (s : Sl) : kEAnd fb Q (.x c) s = Q (.x c) s := rfl
theorem n_eAnd : wp (eAnd fa fb) st Q = wp fa st (kEAnd fb Q) := wp_eAnd
def wEOr (fb : M D) (Q : Oc D → Sl → Prop) (s : Sl) : Bool → Prop := fun b => wb b (Q (.v (.bl true)) s) (wp fb s Q)
theorem wEOr_t (fb : M D) (Q : Oc D → Sl → Prop) (s : Sl) : wEOr fb Q s true = Q (.v (.bl true)) s := rfl
theorem wEOr_f (fb : M D) (Q : Oc D → Sl → Prop) (s : Sl) : wEOr fb Q s false = wp fb s Q := wb_f
def kEOr (fb : M D) (Q : Oc D → Sl → Prop) : Oc (D) → Sl → Prop := vx Q fun x s => tb x (wEOr fb Q s)
theorem kEOr_v (fb : M D) (Q : Oc D → Sl → Prop) (x : D) (s : Sl) : kEOr fb Q (.v x) s = tb x (wEOr fb Q s) := rfl
theorem kEOr_x (fb : M D) (Q : Oc D → Sl → Prop) (c : Nat) (s : Sl) : kEOr fb Q (.x c) s = Q (.x c) s := rfl
theorem n_eOr : wp (eOr fa fb) st Q = wp fa st (kEOr fb Q) := wp_eOr
theorem tb_n {b : Bool} {k : Bool → Prop} : tb (.bl b) k = wd b k := rfl
def wChain (g' : D → D → Option D) (fc : M D) (y : D) (Q : Oc D → Sl → Prop) (s : Sl) : Bool → Prop := fun b => wb b (wp fc s (kBin2 g' y Q)) (Q (.v (.bl false)) s)
theorem wChain_t (g' : D → D → Option D) (fc : M D) (y : D) (Q : Oc D → Sl → Prop) (s : Sl) : wChain g' fc y Q s true = wp fc s (kBin2 g' y Q) := rfl
theorem wChain_f (g' : D → D → Option D) (fc : M D) (y : D) (Q : Oc D → Sl → Prop) (s : Sl) : wChain g' fc y Q s false = Q (.v (.bl false)) s := wb_f
def kCh3 (g' : D → D → Option D) (fc : M D) (y : D) (Q : Oc D → Sl → Prop) (s : Sl) : D → Prop := fun z => tb z (wChain g' fc y Q s)
theorem kCh3_a (g' : D → D → Option D) (fc : M D) (y : D) (Q : Oc D → Sl → Prop) (s : Sl) (z : D) : kCh3 g' fc y Q s z = tb z (wChain g' fc y Q s) := rfl
def kCh2 (g g' : D → D → Option D) (fc : M D) (x : D) (Q : Oc D → Sl → Prop) : Oc (D) → Sl → Prop := vx Q fun y s => wo (g x y) (kCh3 g' fc y Q s)
theorem kCh2_v (g g' : D → D → Option D) (fc : M D) (x : D) (Q : Oc D → Sl → Prop) (y : D) (s : Sl) : kCh2 g g' fc x Q (.v y) s = wo (g x y) (kCh3 g' fc y Q s) := rfl
theorem kCh2_x (g g' : D → D → Option D) (fc : M D) (x : D) (Q : Oc D → Sl → Prop) (c : Nat) (s : Sl) : kCh2 g g' fc x Q (.x c) s = Q (.x c) s := rfl
def kCh1 (g g' : D → D → Option D) (fb fc : M D) (Q : Oc D → Sl → Prop) : Oc (D) → Sl → Prop := vx Q fun x s => wp fb s (kCh2 g g' fc x Q)
theorem kCh1_v (g g' : D → D → Option D) (fb fc : M D) (Q : Oc D → Sl → Prop) (x : D) (s : Sl) : kCh1 g g' fb fc Q (.v x) s = wp fb s (kCh2 g g' fc x Q) := rfl
theorem kCh1_x (g g' : D → D → Option D) (fb fc : M D) (Q : Oc D → Sl → Prop) (c : Nat) (s : Sl) : kCh1 g g' fb fc Q (.x c) s = Q (.x c) s := rfl
theorem n_eChain : ∀ {g g' : D → D → Option D}, wp (eChain g g' fa fb fc) st Q = wp fa st (kCh1 g g' fb fc Q) := wp_eChain
def wEIf (p q : M D) (Q : Oc D → Sl → Prop) (s : Sl) : Bool → Prop := fun b => wb b (wp p s Q) (wp q s Q)
theorem wEIf_t (p q : M D) (Q : Oc D → Sl → Prop) (s : Sl) : wEIf p q Q s true = wp p s Q := rfl
theorem wEIf_f (p q : M D) (Q : Oc D → Sl → Prop) (s : Sl) : wEIf p q Q s false = wp q s Q := wb_f
def kEIf (p q : M D) (Q : Oc D → Sl → Prop) : Oc (Bool) → Sl → Prop := vx Q fun b s => wd b (wEIf p q Q s)
theorem kEIf_v (p q : M D) (Q : Oc D → Sl → Prop) (b : Bool) (s : Sl) : kEIf p q Q (.v b) s = wd b (wEIf p q Q s) := rfl
theorem kEIf_x (p q : M D) (Q : Oc D → Sl → Prop) (c : Nat) (s : Sl) : kEIf p q Q (.x c) s = Q (.x c) s := rfl
theorem n_eIf : ∀ {c : M Bool} {p q : M D}, wp (eIf c p q) st Q = wp c st (kEIf p q Q) := wp_eIf
def wRIf (p q : M R) (Q : Oc R → Sl → Prop) (s : Sl) : Bool → Prop := fun b => wb b (wp p s Q) (wp q s Q)
theorem wRIf_t (p q : M R) (Q : Oc R → Sl → Prop) (s : Sl) : wRIf p q Q s true = wp p s Q := rfl
theorem wRIf_f (p q : M R) (Q : Oc R → Sl → Prop) (s : Sl) : wRIf p q Q s false = wp q s Q := wb_f
def kRIf (p q : M R) (Q : Oc R → Sl → Prop) : Oc (Bool) → Sl → Prop := vx Q fun b s => wd b (wRIf p q Q s)
theorem kRIf_v (p q : M R) (Q : Oc R → Sl → Prop) (b : Bool) (s : Sl) : kRIf p q Q (.v b) s = wd b (wRIf p q Q s) := rfl
theorem kRIf_x (p q : M R) (Q : Oc R → Sl → Prop) (c : Nat) (s : Sl) : kRIf p q Q (.x c) s = Q (.x c) s := rfl
theorem n_rIf : ∀ {c : M Bool} {p q : M R}, wp (rIf c p q) st QR = wp c st (kRIf p q QR) := wp_rIf
theorem n_oNone : wp oNone st QO = QO (.v none) st := rfl
def kso (Q : Oc (Option Int) → Sl → Prop) (s : Sl) : Int → Prop := fun i => Q (.v (some i)) s
theorem kso_a (Q : Oc (Option Int) → Sl → Prop) (s : Sl) (i : Int) : kso Q s i = Q (.v (some i)) s := rfl
def kSome  (Q : Oc (Option Int) → Sl → Prop) : Oc (D) → Sl → Prop := vx Q fun x s => ti x (kso Q s)
theorem kSome_v  (Q : Oc (Option Int) → Sl → Prop) (x : D) (s : Sl) : kSome  Q (.v x) s = ti x (kso Q s) := rfl
theorem kSome_x  (Q : Oc (Option Int) → Sl → Prop) (c : Nat) (s : Sl) : kSome  Q (.x c) s = Q (.x c) s := rfl
theorem n_oSome : wp (oSome fa) st QO = wp fa st (kSome QO) := wp_oSome
def kSl3 (x : D) (l : Option Int) (Q : Oc D → Sl → Prop) : Oc (Option Int) → Sl → Prop := vx Q fun h s => wo (dSl x l h) (kr Q s)
theorem kSl3_v (x : D) (l : Option Int) (Q : Oc D → Sl → Prop) (h : Option Int) (s : Sl) : kSl3 x l Q (.v h) s = wo (dSl x l h) (kr Q s) := rfl
theorem kSl3_x (x : D) (l : Option Int) (Q : Oc D → Sl → Prop) (c : Nat) (s : Sl) : kSl3 x l Q (.x c) s = Q (.x c) s := rfl
def kSl2 (x : D) (hi : M (Option Int)) (Q : Oc D → Sl → Prop) : Oc (Option Int) → Sl → Prop := vx Q fun l s => wp hi s (kSl3 x l Q)
theorem kSl2_v (x : D) (hi : M (Option Int)) (Q : Oc D → Sl → Prop) (l : Option Int) (s : Sl) : kSl2 x hi Q (.v l) s = wp hi s (kSl3 x l Q) := rfl
theorem kSl2_x (x : D) (hi : M (Option Int)) (Q : Oc D → Sl → Prop) (c : Nat) (s : Sl) : kSl2 x hi Q (.x c) s = Q (.x c) s := rfl
def kSl1 (lo hi : M (Option Int)) (Q : Oc D → Sl → Prop) : Oc (D) → Sl → Prop := vx Q fun x s => wp lo s (kSl2 x hi Q)
theorem kSl1_v (lo hi : M (Option Int)) (Q : Oc D → Sl → Prop) (x : D) (s : Sl) : kSl1 lo hi Q (.v x) s = wp lo s (kSl2 x hi Q) := rfl
theorem kSl1_x (lo hi : M (Option Int)) (Q : Oc D → Sl → Prop) (c : Nat) (s : Sl) : kSl1 lo hi Q (.x c) s = Q (.x c) s := rfl
theorem n_eSl : ∀ {lo hi : M (Option Int)}, wp (eSl fa lo hi) st Q = wp fa st (kSl1 lo hi Q) := wp_eSl
def kcut (l h : Option Int) (Q : Oc R → Sl → Prop) (s : Sl) : List D → Prop := fun xs => Q (.v (.ol (cutD xs l h))) s
theorem kcut_a (l h : Option Int) (Q : Oc R → Sl → Prop) (s : Sl) (xs : List D) : kcut l h Q s xs = Q (.v (.ol (cutD xs l h))) s := rfl
def kRSl3 (x : D) (l : Option Int) (Q : Oc R → Sl → Prop) : Oc (Option Int) → Sl → Prop := vx Q fun h s => tl x (kcut l h Q s)
theorem kRSl3_v (x : D) (l : Option Int) (Q : Oc R → Sl → Prop) (h : Option Int) (s : Sl) : kRSl3 x l Q (.v h) s = tl x (kcut l h Q s) := rfl
theorem kRSl3_x (x : D) (l : Option Int) (Q : Oc R → Sl → Prop) (c : Nat) (s : Sl) : kRSl3 x l Q (.x c) s = Q (.x c) s := rfl
def kRSl2 (x : D) (hi : M (Option Int)) (Q : Oc R → Sl → Prop) : Oc (Option Int) → Sl → Prop := vx Q fun l s => wp hi s (kRSl3 x l Q)
theorem kRSl2_v (x : D) (hi : M (Option Int)) (Q : Oc R → Sl → Prop) (l : Option Int) (s : Sl) : kRSl2 x hi Q (.v l) s = wp hi s (kRSl3 x l Q) := rfl
theorem kRSl2_x (x : D) (hi : M (Option Int)) (Q : Oc R → Sl → Prop) (c : Nat) (s : Sl) : kRSl2 x hi Q (.x c) s = Q (.x c) s := rfl
def kRSl1 (lo hi : M (Option Int)) (Q : Oc R → Sl → Prop) : Oc (D) → Sl → Prop := vx Q fun x s => wp lo s (kRSl2 x hi Q)
theorem kRSl1_v (lo hi : M (Option Int)) (Q : Oc R → Sl → Prop) (x : D) (s : Sl) : kRSl1 lo hi Q (.v x) s = wp lo s (kRSl2 x hi Q) := rfl
theorem kRSl1_x (lo hi : M (Option Int)) (Q : Oc R → Sl → Prop) (c : Nat) (s : Sl) : kRSl1 lo hi Q (.x c) s = Q (.x c) s := rfl
theorem n_rSlL' : ∀ {lo hi : M (Option Int)}, wp (rSlL' fa lo hi) st QR = wp fa st (kRSl1 lo hi QR) := wp_rSlL'
def kMt2 (g : D → List D → Option D) (x : D) (Q : Oc D → Sl → Prop) : Oc (List D) → Sl → Prop := vx Q fun xs s => wo (g x xs) (kr Q s)
theorem kMt2_v (g : D → List D → Option D) (x : D) (Q : Oc D → Sl → Prop) (xs : List D) (s : Sl) : kMt2 g x Q (.v xs) s = wo (g x xs) (kr Q s) := rfl
theorem kMt2_x (g : D → List D → Option D) (x : D) (Q : Oc D → Sl → Prop) (c : Nat) (s : Sl) : kMt2 g x Q (.x c) s = Q (.x c) s := rfl
def kMtu (g : D → List D → Option D) (fs : M (List D)) (x : D) (Q : Oc D → Sl → Prop) (s : Sl) : Unit → Prop := fun _ => wp fs s (kMt2 g x Q)
theorem kMtu_a (g : D → List D → Option D) (fs : M (List D)) (x : D) (Q : Oc D → Sl → Prop) (s : Sl) : kMtu g fs x Q s () = wp fs s (kMt2 g x Q) := rfl
def kMt1 (ty : String) (g : D → List D → Option D) (fs : M (List D)) (Q : Oc D → Sl → Prop) : Oc (D) → Sl → Prop := vx Q fun x s => wc (tyOk ty x = true) (kMtu g fs x Q s)
theorem kMt1_v (ty : String) (g : D → List D → Option D) (fs : M (List D)) (Q : Oc D → Sl → Prop) (x : D) (s : Sl) : kMt1 ty g fs Q (.v x) s = wc (tyOk ty x = true) (kMtu g fs x Q s) := rfl
theorem kMt1_x (ty : String) (g : D → List D → Option D) (fs : M (List D)) (Q : Oc D → Sl → Prop) (c : Nat) (s : Sl) : kMt1 ty g fs Q (.x c) s = Q (.x c) s := rfl
theorem n_eMt : ∀ {ty : String} {g : D → List D → Option D}, wp (eMt ty g fa fs) st Q = wp fa st (kMt1 ty g fs Q) := wp_eMt
def kRMt2 (g : D → List D → Option (List D)) (x : D) (Q : Oc R → Sl → Prop) : Oc (List D) → Sl → Prop := vx Q fun xs s => wo (g x xs) (krl Q s)
theorem kRMt2_v (g : D → List D → Option (List D)) (x : D) (Q : Oc R → Sl → Prop) (xs : List D) (s : Sl) : kRMt2 g x Q (.v xs) s = wo (g x xs) (krl Q s) := rfl
theorem kRMt2_x (g : D → List D → Option (List D)) (x : D) (Q : Oc R → Sl → Prop) (c : Nat) (s : Sl) : kRMt2 g x Q (.x c) s = Q (.x c) s := rfl
def kRMtu (g : D → List D → Option (List D)) (fs : M (List D)) (x : D) (Q : Oc R → Sl → Prop) (s : Sl) : Unit → Prop := fun _ => wp fs s (kRMt2 g x Q)
theorem kRMtu_a (g : D → List D → Option (List D)) (fs : M (List D)) (x : D) (Q : Oc R → Sl → Prop) (s : Sl) : kRMtu g fs x Q s () = wp fs s (kRMt2 g x Q) := rfl
def kRMt1 (ty : String) (g : D → List D → Option (List D)) (fs : M (List D)) (Q : Oc R → Sl → Prop) : Oc (D) → Sl → Prop := vx Q fun x s => wc (tyOk ty x = true) (kRMtu g fs x Q s)
theorem kRMt1_v (ty : String) (g : D → List D → Option (List D)) (fs : M (List D)) (Q : Oc R → Sl → Prop) (x : D) (s : Sl) : kRMt1 ty g fs Q (.v x) s = wc (tyOk ty x = true) (kRMtu g fs x Q s) := rfl
theorem kRMt1_x (ty : String) (g : D → List D → Option (List D)) (fs : M (List D)) (Q : Oc R → Sl → Prop) (c : Nat) (s : Sl) : kRMt1 ty g fs Q (.x c) s = Q (.x c) s := rfl
theorem n_rMt : ∀ {ty : String} {g : D → List D → Option (List D)}, wp (rMt ty g fa fs) st QR = wp fa st (kRMt1 ty g fs QR) := wp_rMt
def kRBin2 (g : D → D → Option (List D)) (x : D) (Q : Oc R → Sl → Prop) : Oc (D) → Sl → Prop := vx Q fun y s => wo (g x y) (krl Q s)
theorem kRBin2_v (g : D → D → Option (List D)) (x : D) (Q : Oc R → Sl → Prop) (y : D) (s : Sl) : kRBin2 g x Q (.v y) s = wo (g x y) (krl Q s) := rfl
theorem kRBin2_x (g : D → D → Option (List D)) (x : D) (Q : Oc R → Sl → Prop) (c : Nat) (s : Sl) : kRBin2 g x Q (.x c) s = Q (.x c) s := rfl
def kRBin1 (g : D → D → Option (List D)) (fb : M D) (Q : Oc R → Sl → Prop) : Oc (D) → Sl → Prop := vx Q fun x s => wp fb s (kRBin2 g x Q)
theorem kRBin1_v (g : D → D → Option (List D)) (fb : M D) (Q : Oc R → Sl → Prop) (x : D) (s : Sl) : kRBin1 g fb Q (.v x) s = wp fb s (kRBin2 g x Q) := rfl
theorem kRBin1_x (g : D → D → Option (List D)) (fb : M D) (Q : Oc R → Sl → Prop) (c : Nat) (s : Sl) : kRBin1 g fb Q (.x c) s = Q (.x c) s := rfl
theorem n_rBin : ∀ {g : D → D → Option (List D)}, wp (rBin g fa fb) st QR = wp fa st (kRBin1 g fb QR) := wp_rBin
theorem n_rMv : ∀ {i : Nat}, wp (rMv i) st QR = mv (gt st i) i st QR := wp_rMv
def kILst  (Q : Oc (List D) → Sl → Prop) : Oc (D) → Sl → Prop := vx Q fun x s => tl x (kr Q s)
theorem kILst_v  (Q : Oc (List D) → Sl → Prop) (x : D) (s : Sl) : kILst  Q (.v x) s = tl x (kr Q s) := rfl
theorem kILst_x  (Q : Oc (List D) → Sl → Prop) (c : Nat) (s : Sl) : kILst  Q (.x c) s = Q (.x c) s := rfl
theorem n_iLst : wp (iLst fa) st QL = wp fa st (kILst QL) := wp_iLst
def kITup  (Q : Oc (List D) → Sl → Prop) : Oc (D) → Sl → Prop := vx Q fun x s => tt x (kr Q s)
theorem kITup_v  (Q : Oc (List D) → Sl → Prop) (x : D) (s : Sl) : kITup  Q (.v x) s = tt x (kr Q s) := rfl
theorem kITup_x  (Q : Oc (List D) → Sl → Prop) (c : Nat) (s : Sl) : kITup  Q (.x c) s = Q (.x c) s := rfl
theorem n_iTupl : wp (iTupl fa) st QL = wp fa st (kITup QL) := wp_iTupl
def kISeq  (Q : Oc (List D) → Sl → Prop) : Oc (D) → Sl → Prop := vx Q fun x s => tq x (kr Q s)
theorem kISeq_v  (Q : Oc (List D) → Sl → Prop) (x : D) (s : Sl) : kISeq  Q (.v x) s = tq x (kr Q s) := rfl
theorem kISeq_x  (Q : Oc (List D) → Sl → Prop) (c : Nat) (s : Sl) : kISeq  Q (.x c) s = Q (.x c) s := rfl
theorem n_iSeq : wp (iSeq fa) st QL = wp fa st (kISeq QL) := wp_iSeq
def ktx (Q : Oc (List D) → Sl → Prop) (s : Sl) : Str → Prop := fun z => Q (.v (sgnD z)) s
theorem ktx_a (Q : Oc (List D) → Sl → Prop) (s : Sl) (z : Str) : ktx Q s z = Q (.v (sgnD z)) s := rfl
def kIText  (Q : Oc (List D) → Sl → Prop) : Oc (D) → Sl → Prop := vx Q fun x s => tx x (ktx Q s)
theorem kIText_v  (Q : Oc (List D) → Sl → Prop) (x : D) (s : Sl) : kIText  Q (.v x) s = tx x (ktx Q s) := rfl
theorem kIText_x  (Q : Oc (List D) → Sl → Prop) (c : Nat) (s : Sl) : kIText  Q (.x c) s = Q (.x c) s := rfl
theorem n_iText : wp (iText fa) st QL = wp fa st (kIText QL) := wp_iText
def kIL (g : List D → Option (List D)) (Q : Oc (List D) → Sl → Prop) : Oc (List D) → Sl → Prop := vx Q fun x s => wo (g x) (kr Q s)
theorem kIL_v (g : List D → Option (List D)) (Q : Oc (List D) → Sl → Prop) (x : List D) (s : Sl) : kIL g Q (.v x) s = wo (g x) (kr Q s) := rfl
theorem kIL_x (g : List D → Option (List D)) (Q : Oc (List D) → Sl → Prop) (c : Nat) (s : Sl) : kIL g Q (.x c) s = Q (.x c) s := rfl
theorem n_iR1 : wp (iR1 fs) st QL = wp fs st (kIL dR1 QL) := wp_iR1
theorem n_iR2 : wp (iR2 fs) st QL = wp fs st (kIL dR2 QL) := wp_iR2
theorem n_iEn : wp (iEn fs) st QL = wp fs st (kIL dEn QL) := wp_iEn
theorem n_aNil : wp aNil st QA = QA (.v []) st := rfl
def kAV2 (x : D) (Q : Oc (List Arg) → Sl → Prop) : Oc (List Arg) → Sl → Prop := vx Q fun xs s => Q (.v (.v x :: xs)) s
theorem kAV2_v (x : D) (Q : Oc (List Arg) → Sl → Prop) (xs : List Arg) (s : Sl) : kAV2 x Q (.v xs) s = Q (.v (.v x :: xs)) s := rfl
theorem kAV2_x (x : D) (Q : Oc (List Arg) → Sl → Prop) (c : Nat) (s : Sl) : kAV2 x Q (.x c) s = Q (.x c) s := rfl
def kAV1 (fr : M (List Arg)) (Q : Oc (List Arg) → Sl → Prop) : Oc (D) → Sl → Prop := vx Q fun x s => wp fr s (kAV2 x Q)
theorem kAV1_v (fr : M (List Arg)) (Q : Oc (List Arg) → Sl → Prop) (x : D) (s : Sl) : kAV1 fr Q (.v x) s = wp fr s (kAV2 x Q) := rfl
theorem kAV1_x (fr : M (List Arg)) (Q : Oc (List Arg) → Sl → Prop) (c : Nat) (s : Sl) : kAV1 fr Q (.x c) s = Q (.x c) s := rfl
theorem n_aV : ∀ {fr : M (List Arg)}, wp (aV fa fr) st QA = wp fa st (kAV1 fr QA) := wp_aV
def kAO (i : Nat) (Q : Oc (List Arg) → Sl → Prop) : Oc (List Arg) → Sl → Prop := vx Q fun xs s => Q (.v (.o i :: xs)) s
theorem kAO_v (i : Nat) (Q : Oc (List Arg) → Sl → Prop) (xs : List Arg) (s : Sl) : kAO i Q (.v xs) s = Q (.v (.o i :: xs)) s := rfl
theorem kAO_x (i : Nat) (Q : Oc (List Arg) → Sl → Prop) (c : Nat) (s : Sl) : kAO i Q (.x c) s = Q (.x c) s := rfl
/-- a name that holds something, then the rest -/
def isq (o : Option (Option R)) (k : Unit → Prop) : Prop := isR o (k ())
theorem isq_s {x : R} {k : Unit → Prop} : isq (some (some x)) k = k () := rfl
def kAOu (i : Nat) (fr : M (List Arg)) (Q : Oc (List Arg) → Sl → Prop) (st : Sl) : Unit → Prop := fun _ => wp fr st (kAO i Q)
theorem kAOu_a (i : Nat) (fr : M (List Arg)) (Q : Oc (List Arg) → Sl → Prop) (st : Sl) : kAOu i fr Q st () = wp fr st (kAO i Q) := rfl
theorem n_aO : ∀ {i : Nat} {fr : M (List Arg)}, wp (aO i fr) st QA = isq (gt st i) (kAOu i fr QA st) := wp_aO
def kEnd2 (o : Oc R) (as : List Arg) (rs2 : List R) (Q : Oc R → Sl → Prop) (st : Sl) : Unit → Prop := fun _ => Q o (pA as rs2 st)
theorem kEnd2_a (o : Oc R) (as : List Arg) (rs2 : List R) (Q : Oc R → Sl → Prop) (st : Sl) : kEnd2 o as rs2 Q st () = Q o (pA as rs2 st) := rfl
def kEnd (as : List Arg) (rs : List R) (Q : Oc R → Sl → Prop) (st : Sl) : Oc R → List R → Prop := fun o rs2 => wa (rs2.length = rs.length) (Q o (pA as rs2 st))
theorem kEnd_a (as : List Arg) (rs : List R) (Q : Oc R → Sl → Prop) (st : Sl) (o : Oc R) (rs2 : List R) : kEnd as rs Q st o rs2 = wc (rs2.length = rs.length) (kEnd2 o as rs2 Q st) := rfl
def kCallU (F : Fn) (as : List Arg) (rs : List R) (Q : Oc R → Sl → Prop) (st : Sl) : Unit → Prop := fun _ => wf F rs (kEnd as rs Q st)
theorem kCallU_a (F : Fn) (as : List Arg) (rs : List R) (Q : Oc R → Sl → Prop) (st : Sl) : kCallU F as rs Q st () = wf F rs (kEnd as rs Q st) := rfl
def kCall (F : Fn) (as : List Arg) (Q : Oc R → Sl → Prop) (st : Sl) : List R → Prop := fun rs => wa ((owns as).Nodup) (wf F rs (kEnd as rs Q st))
theorem kCall_a (F : Fn) (as : List Arg) (Q : Oc R → Sl → Prop) (st : Sl) (rs : List R) : kCall F as Q st rs = wc ((owns as).Nodup) (kCallU F as rs Q st) := rfl
theorem n_callF : ∀ {F : Fn} {as : List Arg}, wp (callF F as) st QR = wo (gA as st) (kCall F as QR st) := wp_callF
def kRcu (F : Fn) (ds : List D) (as : List Arg) (Q : Oc R → Sl → Prop) (s : Sl) : Unit → Prop := fun _ => wp (callF F (as ++ ds.map Arg.v)) s Q
theorem kRcu_a (F : Fn) (ds : List D) (as : List Arg) (Q : Oc R → Sl → Prop) (s : Sl) : kRcu F ds as Q s () = wp (callF F (as ++ ds.map Arg.v)) s Q := rfl
def kRc (n : Nat) (F : Fn) (ds : List D) (Q : Oc R → Sl → Prop) : Oc (List Arg) → Sl → Prop := vx Q fun as s => wc (as.length + ds.length = n) (kRcu F ds as Q s)
theorem kRc_v (n : Nat) (F : Fn) (ds : List D) (Q : Oc R → Sl → Prop) (as : List Arg) (s : Sl) : kRc n F ds Q (.v as) s = wc (as.length + ds.length = n) (kRcu F ds as Q s) := rfl
theorem kRc_x (n : Nat) (F : Fn) (ds : List D) (Q : Oc R → Sl → Prop) (c : Nat) (s : Sl) : kRc n F ds Q (.x c) s = Q (.x c) s := rfl
theorem n_rCall : ∀ {n : Nat} {F : Fn} {ds : List D} {fl : M (List Arg)}, wp (rCall n F ds fl) st QR = wp fl st (kRc n F ds QR) := wp_rCall
def kMcu (F : Fn) (c : Nat) (xs : List D) (as : List Arg) (Q : Oc R → Sl → Prop) (s : Sl) : Unit → Prop := fun _ => wp (callF F (.v (.obj c xs) :: as)) s Q
theorem kMcu_a (F : Fn) (c : Nat) (xs : List D) (as : List Arg) (Q : Oc R → Sl → Prop) (s : Sl) : kMcu F c xs as Q s () = wp (callF F (.v (.obj c xs) :: as)) s Q := rfl
def kMc (n : Nat) (F : Fn) (c : Nat) (xs : List D) (Q : Oc R → Sl → Prop) : Oc (List Arg) → Sl → Prop := vx Q fun as s => wc (as.length + 1 = n) (kMcu F c xs as Q s)
theorem kMc_v (n : Nat) (F : Fn) (c : Nat) (xs : List D) (Q : Oc R → Sl → Prop) (as : List Arg) (s : Sl) : kMc n F c xs Q (.v as) s = wc (as.length + 1 = n) (kMcu F c xs as Q s) := rfl
theorem kMc_x (n : Nat) (F : Fn) (c : Nat) (xs : List D) (Q : Oc R → Sl → Prop) (c : Nat) (s : Sl) : kMc n F c xs Q (.x c) s = Q (.x c) s := rfl
def kMf (n : Nat) (fl : M (List Arg)) (c : Nat) (xs : List D) (Q : Oc R → Sl → Prop) (s : Sl) : Fn → Prop := fun F => wp fl s (kMc n F c xs Q)
theorem kMf_a (n : Nat) (fl : M (List Arg)) (c : Nat) (xs : List D) (Q : Oc R → Sl → Prop) (s : Sl) (F : Fn) : kMf n fl c xs Q s F = wp fl s (kMc n F c xs Q) := rfl
def kMo (n : Nat) (tab : Nat → Option Fn) (fl : M (List Arg)) (Q : Oc R → Sl → Prop) (s : Sl) : Nat → List D → Prop := fun c xs => wo (tab c) (kMf n fl c xs Q s)
theorem kMo_a (n : Nat) (tab : Nat → Option Fn) (fl : M (List Arg)) (Q : Oc R → Sl → Prop) (s : Sl) (c : Nat) (xs : List D) : kMo n tab fl Q s c xs = wo (tab c) (kMf n fl c xs Q s) := rfl
def kMeth (n : Nat) (tab : Nat → Option Fn) (fl : M (List Arg)) (Q : Oc R → Sl → Prop) : Oc D → Sl → Prop := nx0 (β := D) fun x s => to x (kMo n tab fl Q s)
theorem kMeth_v (n : Nat) (tab : Nat → Option Fn) (fl : M (List Arg)) (Q : Oc R → Sl → Prop) (x : D) (s : Sl) : kMeth n tab fl Q (.v x) s = to x (kMo n tab fl Q s) := rfl
theorem n_rMeth : ∀ {n : Nat} {tab : Nat → Option Fn} {fl : M (List Arg)}, wp (rMeth n tab fa fl) st QR = wp fa st (kMeth n tab fl QR) := wp_rMeth
theorem n_rMakeN : ∀ {c : Nat}, wp (rMakeN c) st QR = QR (.v (.oi c [])) st := rfl
def kFnU (kp : Nat → Bool) (n N : Nat) (body : MS) (rs : List R) (Q : Oc R → List R → Prop) : Unit → Prop := fun _ => wse body (rs.map some ++ List.replicate (N - n) none) (oend n kp rs Q)
theorem kFnU_a (kp : Nat → Bool) (n N : Nat) (body : MS) (rs : List R) (Q : Oc R → List R → Prop) : kFnU kp n N body rs Q () = wse body (rs.map some ++ List.replicate (N - n) none) (oend n kp rs Q) := rfl
theorem n_fnOf : ∀ {n N : Nat} {kp : Nat → Bool} {body : MS} {rs : List R} {Q : Oc R → List R → Prop}, wf (fnOf n N kp body) rs Q = wc (rs.length = n) (kFnU kp n N body rs Q) := wf_fnOf
def ko (v : Oc R) (Q : Oc R → List R → Prop) : List R → Prop := fun qs => Q v qs
theorem ko_a (v : Oc R) (Q : Oc R → List R → Prop) (qs : List R) : ko v Q qs = Q v qs := rfl
theorem n_oend_rt {n : Nat} {kp : Nat → Bool} {rs : List R} {Q : Oc R → List R → Prop} {v : R} : oend n kp rs Q (.rt v) s = wo (outs kp 0 rs s) (ko (.v v) Q) := rfl
theorem n_oend_nx {n : Nat} {kp : Nat → Bool} {rs : List R} {Q : Oc R → List R → Prop} : oend n kp rs Q .nx s = wo (outs kp 0 rs s) (ko (.v (.d .non)) Q) := rfl
theorem n_oend_x {n : Nat} {kp : Nat → Bool} {rs : List R} {Q : Oc R → List R → Prop} {c : Nat} : oend n kp rs Q (.x c) s = wo (outs kp 0 rs s) (ko (.x c) Q) := rfl
theorem n_sNext : ws sNext st QS = QS .nx st := rfl
theorem n_sBrk : ws sBrk st QS = QS .bk st := rfl
theorem n_sCt : ws sCt st QS = QS .ct st := rfl
theorem n_sRetN : ws sRetN st QS = QS (.rt (.d .non)) st := rfl
def kSeq (g : MS) (Q : Fl → Sl → Prop) : Fl → Sl → Prop := nx Q fun s => ws g s Q
theorem kSeq_nx (g : MS) (Q : Fl → Sl → Prop) (s : Sl) : kSeq g Q .nx s = ws g s Q := rfl
theorem kSeq_bk (g : MS) (Q : Fl → Sl → Prop) (s : Sl) : kSeq g Q .bk s = Q .bk s := rfl
theorem kSeq_ct (g : MS) (Q : Fl → Sl → Prop) (s : Sl) : kSeq g Q .ct s = Q .ct s := rfl
theorem kSeq_rt (g : MS) (Q : Fl → Sl → Prop) (v : R) (s : Sl) : kSeq g Q (.rt v) s = Q (.rt v) s := rfl
theorem kSeq_x (g : MS) (Q : Fl → Sl → Prop) (c : Nat) (s : Sl) : kSeq g Q (.x c) s = Q (.x c) s := rfl
theorem n_sSeq : ∀ {f g : MS}, ws (sSeq f g) st QS = ws f st (kSeq g QS) := ws_sSeq
def kSet (i : Nat) (Q : Fl → Sl → Prop) : Oc (R) → Sl → Prop := vs Q fun r s => Q .nx (stt s i (some r))
theorem kSet_v (i : Nat) (Q : Fl → Sl → Prop) (r : R) (s : Sl) : kSet i Q (.v r) s = Q .nx (stt s i (some r)) := rfl
theorem kSet_x (i : Nat) (Q : Fl → Sl → Prop) (c : Nat) (s : Sl) : kSet i Q (.x c) s = Q (.x c) s := rfl
theorem n_sSet : ∀ {i : Nat} {m : M R}, ws (sSet i m) st QS = wp m st (kSet i QS) := ws_sSet
def knx (Q : Fl → Sl → Prop) : Sl → Prop := fun s => Q .nx s
theorem knx_a (Q : Fl → Sl → Prop) (s : Sl) : knx Q s = Q .nx s := rfl
def kAsg (g : D → Sl → Option Sl) (Q : Fl → Sl → Prop) : Oc (D) → Sl → Prop := vs Q fun x s => wo (g x s) (knx Q)
theorem kAsg_v (g : D → Sl → Option Sl) (Q : Fl → Sl → Prop) (x : D) (s : Sl) : kAsg g Q (.v x) s = wo (g x s) (knx Q) := rfl
theorem kAsg_x (g : D → Sl → Option Sl) (Q : Fl → Sl → Prop) (c : Nat) (s : Sl) : kAsg g Q (.x c) s = Q (.x c) s := rfl
theorem n_sAsg : ∀ {m : M D} {g : D → Sl → Option Sl}, ws (sAsg m g) st QS = wp m st (kAsg g QS) := ws_sAsg
def wIf (f g : MS) (Q : Fl → Sl → Prop) (s : Sl) : Bool → Prop := fun b => wb b (ws f s Q) (ws g s Q)
theorem wIf_t (f g : MS) (Q : Fl → Sl → Prop) (s : Sl) : wIf f g Q s true = ws f s Q := rfl
theorem wIf_f (f g : MS) (Q : Fl → Sl → Prop) (s : Sl) : wIf f g Q s false = ws g s Q := wb_f
def kIf (f g : MS) (Q : Fl → Sl → Prop) : Oc (Bool) → Sl → Prop := vs Q fun b s => wd b (wIf f g Q s)
theorem kIf_v (f g : MS) (Q : Fl → Sl → Prop) (b : Bool) (s : Sl) : kIf f g Q (.v b) s = wd b (wIf f g Q s) := rfl
theorem kIf_x (f g : MS) (Q : Fl → Sl → Prop) (c : Nat) (s : Sl) : kIf f g Q (.x c) s = Q (.x c) s := rfl
theorem n_sIf : ∀ {c : M Bool} {f g : MS}, ws (sIf c f g) st QS = wp c st (kIf f g QS) := ws_sIf
def kRet  (Q : Fl → Sl → Prop) : Oc (R) → Sl → Prop := vs Q fun r s => Q (.rt r) s
theorem kRet_v  (Q : Fl → Sl → Prop) (r : R) (s : Sl) : kRet  Q (.v r) s = Q (.rt r) s := rfl
theorem kRet_x  (Q : Fl → Sl → Prop) (c : Nat) (s : Sl) : kRet  Q (.x c) s = Q (.x c) s := rfl
theorem n_sRet : ∀ {m : M R}, ws (sRet m) st QS = wp m st (kRet QS) := ws_sRet
def kDrop  (Q : Fl → Sl → Prop) : Oc (R) → Sl → Prop := vs Q fun r s => Q .nx s
theorem kDrop_v  (Q : Fl → Sl → Prop) (r : R) (s : Sl) : kDrop  Q (.v r) s = Q .nx s := rfl
theorem kDrop_x  (Q : Fl → Sl → Prop) (c : Nat) (s : Sl) : kDrop  Q (.x c) s = Q (.x c) s := rfl
theorem n_sDrop : ∀ {m : M R}, ws (sDrop m) st QS = wp m st (kDrop QS) := ws_sDrop
def kFor (g : D → Sl → Option Sl) (body : MS) (Q : Fl → Sl → Prop) : Oc (List D) → Sl → Prop := vs Q fun ds s => ws (forL g body ds) s Q
theorem kFor_v (g : D → Sl → Option Sl) (body : MS) (Q : Fl → Sl → Prop) (ds : List D) (s : Sl) : kFor g body Q (.v ds) s = ws (forL g body ds) s Q := rfl
theorem kFor_x (g : D → Sl → Option Sl) (body : MS) (Q : Fl → Sl → Prop) (c : Nat) (s : Sl) : kFor g body Q (.x c) s = Q (.x c) s := rfl
theorem n_sFor : ∀ {it : M (List D)} {g : D → Sl → Option Sl} {body : MS}, ws (sFor it g body) st QS = wp it st (kFor g body QS) := ws_sFor
def kSt (i : Nat) (xs : List D) (Q : Fl → Sl → Prop) (s : Sl) : Unit → Prop := fun _ => Q .nx (stt s i (some (.ol xs)))
theorem kSt_a (i : Nat) (xs : List D) (Q : Fl → Sl → Prop) (s : Sl) : kSt i xs Q s () = Q .nx (stt s i (some (.ol xs))) := rfl
def kApp2 (i : Nat) (x : D) (Q : Fl → Sl → Prop) (s : Sl) : List D → Prop := fun xs => wa (xs.length < sizeLine) (Q .nx (stt s i (some (.ol (xs ++ [x])))))
theorem kApp2_a (i : Nat) (x : D) (Q : Fl → Sl → Prop) (s : Sl) (xs : List D) : kApp2 i x Q s xs = wc (xs.length < sizeLine) (kSt i (xs ++ [x]) Q s) := rfl
def kApp (i : Nat) (Q : Fl → Sl → Prop) : Oc (D) → Sl → Prop := vs Q fun x s => gol (gt s i) (kApp2 i x Q s)
theorem kApp_v (i : Nat) (Q : Fl → Sl → Prop) (x : D) (s : Sl) : kApp i Q (.v x) s = gol (gt s i) (kApp2 i x Q s) := rfl
theorem kApp_x (i : Nat) (Q : Fl → Sl → Prop) (c : Nat) (s : Sl) : kApp i Q (.x c) s = Q (.x c) s := rfl
def kAppU (i : Nat) (fa : M D) (Q : Fl → Sl → Prop) (s : Sl) : Unit → Prop := fun _ => wp fa s (kApp i Q)
theorem kAppU_a (i : Nat) (fa : M D) (Q : Fl → Sl → Prop) (s : Sl) : kAppU i fa Q s () = wp fa s (kApp i Q) := rfl
theorem n_sApp' : ∀ {i : Nat}, ws (sApp' i fa) st QS = wc (isL (gt st i) = true) (kAppU i fa QS st) := ws_sApp'
def kExt3 (i : Nat) (ys : List D) (Q : Fl → Sl → Prop) (s : Sl) : List D → Prop := fun xs => wa (xs.length + ys.length ≤ sizeLine) (Q .nx (stt s i (some (.ol (xs ++ ys)))))
theorem kExt3_a (i : Nat) (ys : List D) (Q : Fl → Sl → Prop) (s : Sl) (xs : List D) : kExt3 i ys Q s xs = wc (xs.length + ys.length ≤ sizeLine) (kSt i (xs ++ ys) Q s) := rfl
def kExt2 (i : Nat) (Q : Fl → Sl → Prop) (s : Sl) : List D → Prop := fun ys => gol (gt s i) (kExt3 i ys Q s)
theorem kExt2_a (i : Nat) (Q : Fl → Sl → Prop) (s : Sl) (ys : List D) : kExt2 i Q s ys = gol (gt s i) (kExt3 i ys Q s) := rfl
def kExt (i : Nat) (Q : Fl → Sl → Prop) : Oc (D) → Sl → Prop := vs Q fun x s => tq x (kExt2 i Q s)
theorem kExt_v (i : Nat) (Q : Fl → Sl → Prop) (x : D) (s : Sl) : kExt i Q (.v x) s = tq x (kExt2 i Q s) := rfl
theorem kExt_x (i : Nat) (Q : Fl → Sl → Prop) (c : Nat) (s : Sl) : kExt i Q (.x c) s = Q (.x c) s := rfl
def kExtU (i : Nat) (fa : M D) (Q : Fl → Sl → Prop) (s : Sl) : Unit → Prop := fun _ => wp fa s (kExt i Q)
theorem kExtU_a (i : Nat) (fa : M D) (Q : Fl → Sl → Prop) (s : Sl) : kExtU i fa Q s () = wp fa s (kExt i Q) := rfl
theorem n_sExtA : ∀ {i : Nat}, ws (sExtA i fa) st QS = wc (isL (gt st i) = true) (kExtU i fa QS st) := ws_sExtA
def kSub5 (i : Nat) (x : D) (xs : List D) (Q : Fl → Sl → Prop) (s : Sl) : Nat → Prop := fun j => Q .nx (stt s i (some (.ol (xs.set j x))))
theorem kSub5_a (i : Nat) (x : D) (xs : List D) (Q : Fl → Sl → Prop) (s : Sl) (j : Nat) : kSub5 i x xs Q s j = Q .nx (stt s i (some (.ol (xs.set j x)))) := rfl
def kSub4 (i : Nat) (x : D) (k : Int) (Q : Fl → Sl → Prop) (s : Sl) : List D → Prop := fun xs => wo (ixN xs.length k) (kSub5 i x xs Q s)
theorem kSub4_a (i : Nat) (x : D) (k : Int) (Q : Fl → Sl → Prop) (s : Sl) (xs : List D) : kSub4 i x k Q s xs = wo (ixN xs.length k) (kSub5 i x xs Q s) := rfl
def kSub3 (i : Nat) (x : D) (Q : Fl → Sl → Prop) (s : Sl) : Int → Prop := fun k => gol (gt s i) (kSub4 i x k Q s)
theorem kSub3_a (i : Nat) (x : D) (Q : Fl → Sl → Prop) (s : Sl) (k : Int) : kSub3 i x Q s k = gol (gt s i) (kSub4 i x k Q s) := rfl
def kSub2 (i : Nat) (x : D) (Q : Fl → Sl → Prop) : Oc (D) → Sl → Prop := vs Q fun y s => ti y (kSub3 i x Q s)
theorem kSub2_v (i : Nat) (x : D) (Q : Fl → Sl → Prop) (y : D) (s : Sl) : kSub2 i x Q (.v y) s = ti y (kSub3 i x Q s) := rfl
theorem kSub2_x (i : Nat) (x : D) (Q : Fl → Sl → Prop) (c : Nat) (s : Sl) : kSub2 i x Q (.x c) s = Q (.x c) s := rfl
def kSubU (i : Nat) (mi : M D) (x : D) (Q : Fl → Sl → Prop) (s : Sl) : Unit → Prop := fun _ => wp mi s (kSub2 i x Q)
theorem kSubU_a (i : Nat) (mi : M D) (x : D) (Q : Fl → Sl → Prop) (s : Sl) : kSubU i mi x Q s () = wp mi s (kSub2 i x Q) := rfl
def kSub1 (i : Nat) (mi : M D) (Q : Fl → Sl → Prop) : Oc (D) → Sl → Prop := vs Q fun x s => wc (isL (gt s i) = true) (kSubU i mi x Q s)
theorem kSub1_v (i : Nat) (mi : M D) (Q : Fl → Sl → Prop) (x : D) (s : Sl) : kSub1 i mi Q (.v x) s = wc (isL (gt s i) = true) (kSubU i mi x Q s) := rfl
theorem kSub1_x (i : Nat) (mi : M D) (Q : Fl → Sl → Prop) (c : Nat) (s : Sl) : kSub1 i mi Q (.x c) s = Q (.x c) s := rfl
theorem n_sSub : ∀ {i : Nat} {mi : M D}, ws (sSub i mi fa) st QS = wp fa st (kSub1 i mi QS) := ws_sSub
def fld (ix : Nat → Option Nat) : D → Option D
  | .obj c fs => (match ix c with
    | some i => fs[i]?
    | none => none)
  | _ => none
theorem fld_o {ix : Nat → Option Nat} {c : Nat} {fs : List D} : fld ix (.obj c fs) = (ix c).bind fun i => fs[i]? := by
  show (match ix c with | some i => fs[i]? | none => none) = _
  cases ix c <;> rfl
theorem n_eFld : ∀ {ix : Nat → Option Nat}, wp (eFld ix fa) st Q = wp fa st (kUn (fld ix) Q) := by
  intro ix
  have e : eFld ix fa = eUn (fld ix) fa := rfl
  rw [e]; exact wp_eUn
end
end Fz

-- text Fz19
set_option Elab.async false
set_option linter.all false
set_option maxRecDepth 100000
set_option maxHeartbeats 2000000
namespace Fz
open PySem L2
/-! ### operators at known kinds -/
theorem e_sub {a b : Int} : dSub (.int a) (.int b) = some (.int (a - b)) := rfl
theorem e_addi {a b : Int} : dAdd (.int a) (.int b) = some (.int (a + b)) := rfl
theorem e_adds {a b : Str} : dAdd (.str a) (.str b) = if a.length + b.length ≤ sizeLine then some (.str (a ++ b)) else none := rfl
theorem e_addt {a b : List D} : dAdd (.tup a) (.tup b) = if a.length + b.length ≤ sizeLine then some (.tup (a ++ b)) else none := rfl
theorem e_mod {a b : Int} : dMod (.int a) (.int b) = if 0 < b then some (.int (a % b)) else none := rfl
theorem e_div {a b : Int} : dDiv (.int a) (.int b) = if 0 < b ∧ b < 1073741824 then some (.int (a / b)) else none := rfl
theorem e_mul {a b : Int} : dMul (.int a) (.int b) = if CMulB a b then some (.int (a * b)) else none := rfl
theorem e_lti {a b : Int} : dLt (.int a) (.int b) = some (.bl (decide (a < b))) := rfl
theorem e_gti {a b : Int} : dGt (.int a) (.int b) = some (.bl (decide (b < a))) := rfl
theorem e_lei {a b : Int} : dLe (.int a) (.int b) = some (.bl (decide (a ≤ b))) := rfl
theorem e_gei {a b : Int} : dGe (.int a) (.int b) = some (.bl (decide (b ≤ a))) := rfl
theorem e_lenl {xs : List D} : dLen [.lst xs] = some (.int (xs.length : Nat)) := rfl
theorem e_lent {xs : List D} : dLen [.tup xs] = some (.int (xs.length : Nat)) := rfl
theorem e_lens {s : Str} : dLen [.str s] = if s.length ≤ sizeLine then some (.int (s.length : Nat)) else none := rfl
theorem e_intb {b : Bool} : dInt [.bl b] = some (.int (if b then 1 else 0)) := by cases b <;> rfl
theorem e_tupl {xs : List D} : dTuple [.lst xs] = some (.tup xs) := rfl
theorem e_tupt {xs : List D} : dTuple [.tup xs] = some (.tup xs) := rfl
theorem e_listl {xs : List D} : dList [.lst xs] = some xs := rfl
theorem e_listt {xs : List D} : dList [.tup xs] = some xs := rfl
theorem e_isib {b : Bool} : dIsi "bool" (.bl b) = some (.bl true) := rfl
theorem szl : sizeLine = 16777216 := rfl
theorem nodup0 : ([] : List Nat).Nodup = True := by simp
theorem nodup1 {i : Nat} : [i].Nodup = True := by simp
theorem same_s (a b : Str) : same (.str a) (.str b) = decide (a = b) := by
  show (a == b) = _
  exact rfl
theorem e_eqs {a b : Str} : dEq (.str a) (.str b) = some (.bl (decide (a = b))) := by
  show some (D.bl (same (.str a) (.str b))) = _
  rw [same_s]
theorem e_nes {a b : Str} : dNe (.str a) (.str b) = some (.bl (!decide (a = b))) := by
  show some (D.bl (!same (.str a) (.str b))) = _
  rw [same_s]
theorem same_i (a b : Int) : same (.int a) (.int b) = decide (a = b) := by
  show (a == b) = _
  exact rfl
theorem e_eqi {a b : Int} : dEq (.int a) (.int b) = some (.bl (decide (a = b))) := by
  show some (D.bl (same (.int a) (.int b))) = _
  rw [same_i]
theorem e_nei {a b : Int} : dNe (.int a) (.int b) = some (.bl (!decide (a = b))) := by
  show some (D.bl (!same (.int a) (.int b))) = _
  rw [same_i]
theorem same_b (a b : Bool) : same (.bl a) (.bl b) = decide (a = b) := by cases a <;> cases b <;> rfl
theorem e_eqb {a b : Bool} : dEq (.bl a) (.bl b) = some (.bl (decide (a = b))) := by
  show some (D.bl (same (.bl a) (.bl b))) = _
  rw [same_b]
theorem e_neb {a b : Bool} : dNe (.bl a) (.bl b) = some (.bl (!decide (a = b))) := by
  show some (D.bl (!same (.bl a) (.bl b))) = _
  rw [same_b]
theorem atI_n {α : Type} (xs : List α) (k : Nat) : atI xs (k : Int) = xs[k]? := by
  unfold atI ixN
  by_cases h : k < xs.length
  · have h2 : (k : Int) < (xs.length : Int) := by omega
    have h3 : ¬ (k : Int) < 0 := by omega
    simp [h2, h3, h]
  · have h2 : ¬ (k : Int) < (xs.length : Int) := by omega
    have h3 : ¬ (k : Int) < 0 := by omega
    simp [h2, h3]
    omega
theorem e_ixn {xs : List D} {k : Nat} : dIx (.lst xs) (.int (k : Int)) = xs[k]? := atI_n xs k
theorem e_ixtn {xs : List D} {k : Nat} : dIx (.tup xs) (.int (k : Int)) = xs[k]? := atI_n xs k
theorem e_ix0 {xs : List D} : dIx (.lst xs) (.int 0) = xs[0]? := atI_n xs 0
theorem e_ix1 {xs : List D} : dIx (.lst xs) (.int 1) = xs[1]? := atI_n xs 1
theorem e_ix2 {xs : List D} : dIx (.lst xs) (.int 2) = xs[2]? := atI_n xs 2
theorem e_ix3 {xs : List D} : dIx (.lst xs) (.int 3) = xs[3]? := atI_n xs 3
theorem e_ixt0 {xs : List D} : dIx (.tup xs) (.int 0) = xs[0]? := atI_n xs 0
theorem e_ixt1 {xs : List D} : dIx (.tup xs) (.int 1) = xs[1]? := atI_n xs 1
theorem e_ixt2 {xs : List D} : dIx (.tup xs) (.int 2) = xs[2]? := atI_n xs 2
theorem e_ixt3 {xs : List D} : dIx (.tup xs) (.int 3) = xs[3]? := atI_n xs 3
theorem ixn_n (l k : Nat) : ixN l (k : Int) = if k < l then some k else none := by
  unfold ixN
  by_cases h : k < l
  · have h2 : (k : Int) < (l : Int) := by omega
    have h3 : ¬ (k : Int) < 0 := by omega
    simp [h2, h3, h]
  · have h2 : ¬ (k : Int) < (l : Int) := by omega
    have h3 : ¬ (k : Int) < 0 := by omega
    simp [h2, h3, h]
theorem ixn0 {l : Nat} : ixN l 0 = if 0 < l then some 0 else none := ixn_n l 0
theorem ixn1 {l : Nat} : ixN l 1 = if 1 < l then some 1 else none := ixn_n l 1
theorem ixn2 {l : Nat} : ixN l 2 = if 2 < l then some 2 else none := ixn_n l 2
theorem ixn3 {l : Nat} : ixN l 3 = if 3 < l then some 3 else none := ixn_n l 3
/-- a text's sign -/
def sgn (c : Nat) : Str := ⟨#[c]⟩
theorem e_ixs {z : Str} {k : Nat} : dIx (.str z) (.int (k : Int)) = if z.length ≤ sizeLine then (z.cps.toList[k]?).map fun c => .str (sgn c) else none := by
  show (if z.length ≤ sizeLine then (atI z.cps.toList (k : Int)).map fun c => D.str (sgn c) else none) = _
  rw [atI_n]
theorem e_ixs0 {z : Str} : dIx (.str z) (.int 0) = if z.length ≤ sizeLine then (z.cps.toList[0]?).map fun c => .str (sgn c) else none := e_ixs (k := 0)
theorem plains_str (ws : List Str) : plains (ws.map D.str) = true := by
  induction ws with
  | nil => rfl
  | cons a r ih => show (true && plains (r.map D.str)) = true; rw [ih]; rfl
theorem deps_str (ws : List Str) : deps (ws.map D.str) = 0 := by
  induction ws with
  | nil => rfl
  | cons a r ih => show max 0 (deps (r.map D.str)) = 0; rw [ih]; rfl
theorem cok_strs (ws : List Str) : cok (.lst (ws.map D.str)) = true := by
  show (plains (ws.map D.str) && decide (deps (ws.map D.str) + 1 ≤ 64)) = true
  rw [plains_str, deps_str]; rfl
theorem any_str (ws : List Str) (s : Str) : ((ws.map D.str).any fun z => same z (.str s)) = decide (s ∈ ws) := by
  induction ws with
  | nil => rfl
  | cons a r ih =>
    rw [List.map_cons, List.any_cons, ih, same_s]
    by_cases h : a = s
    · subst h; simp
    · have : ¬ s = a := fun e => h e.symm
      simp [h, this]
theorem not_sign {s : Str} : True := trivial
theorem e_inw {ws : List Str} {s : Str} : dIn (.str s) (.lst (ws.map D.str)) = some (.bl (decide (s ∈ ws))) := by
  show ((if cok (.str s) && cok (.lst (ws.map D.str)) then some ((ws.map D.str).any fun z => same z (.str s)) else none).map D.bl) = _
  rw [cok_strs, any_str]; rfl
theorem e_ninw {ws : List Str} {s : Str} : dNotIn (.str s) (.lst (ws.map D.str)) = some (.bl (!decide (s ∈ ws))) := by
  show ((if cok (.str s) && cok (.lst (ws.map D.str)) then some ((ws.map D.str).any fun z => same z (.str s)) else none).map fun b => D.bl !b) = _
  rw [cok_strs, any_str]; rfl
theorem flat_strs (ws : List Str) : (ws.map D.str).all flat = true := by
  rw [List.all_eq_true]; intro x hx
  rw [List.mem_map] at hx
  obtain ⟨s, _, rfl⟩ := hx; rfl
theorem e_inwt {ws : List Str} {s : Str} : dIn (.str s) (.tup (ws.map D.str)) = some (.bl (decide (s ∈ ws))) := by
  show ((if flat (.str s) && (ws.map D.str).all flat then some ((ws.map D.str).any fun z => same z (.str s)) else none).map D.bl) = _
  rw [flat_strs, any_str]; rfl
theorem e_ninwt {ws : List Str} {s : Str} : dNotIn (.str s) (.tup (ws.map D.str)) = some (.bl (!decide (s ∈ ws))) := by
  show ((if flat (.str s) && (ws.map D.str).all flat then some ((ws.map D.str).any fun z => same z (.str s)) else none).map fun b => D.bl !b) = _
  rw [flat_strs, any_str]; rfl
/-- a drawn place -/
theorem mod_nat (r : Int) (k : Nat) (h : 0 < k) : ∃ j : Nat, j < k ∧ r % (k : Int) = j := by
  have h1 : 0 ≤ r % (k : Int) := Int.emod_nonneg _ (by omega)
  have h2 : r % (k : Int) < k := Int.emod_lt_of_pos _ (by omega)
  exact ⟨(r % (k : Int)).toNat, by omega, by omega⟩
end Fz

-- text Fz20
set_option Elab.async false
set_option linter.all false
set_option maxRecDepth 100000
set_option maxHeartbeats 2000000
namespace Fz
open PySem L2
/-! ### texts as lists of signs -/
def W (l : List Nat) : Str := ⟨l.toArray⟩
theorem W_list {l : List Nat} : (W l).cps.toList = l := by show l.toArray.toList = l; simp
theorem W_len {l : List Nat} : (W l).length = l.length := by show l.toArray.size = _; simp
theorem W_app {a b : List Nat} : W a ++ W b = W (a ++ b) := by
  show Str.append (W a) (W b) = _
  unfold Str.append W
  simp
theorem sgn_W {c : Nat} : sgn c = W [c] := rfl
theorem W_of (s : Str) : s = W s.cps.toList := by cases s; simp [W]
theorem W_inj {a b : List Nat} : (W a = W b) = (a = b) := by
  refine propext ⟨fun h => ?_, fun h => by rw [h]⟩
  have := congrArg (fun s : Str => s.cps.toList) h
  simpa [W_list] using this
theorem e_ixsn {l : List Nat} {k : Nat} (h : k < l.length) (hl : l.length ≤ sizeLine) : dIx (.str (W l)) (.int (k : Int)) = some (.str (W [l.getD k 0])) := by
  rw [e_ixs, W_list, W_len, if_pos hl]
  simp [h, sgn_W]
/-- an index r % k -/
theorem mod_natC {r k : Int} (h : 0 < k) : r % k = (((r % k).toNat : Nat) : Int) ∧ (r % k).toNat < k.toNat := by
  have h1 : 0 ≤ r % k := Int.emod_nonneg _ (by omega)
  have h2 : r % k < k := Int.emod_lt_of_pos _ (by omega)
  omega
theorem e_ixsm {l : List Nat} {r k : Int} (h : 0 < k) (hk : k.toNat ≤ l.length) (hl : l.length ≤ sizeLine) : dIx (.str (W l)) (.int (r % k)) = some (.str (W [l.getD (r % k).toNat 0])) := by
  obtain ⟨e, h2⟩ := mod_natC (r := r) h
  have h3 : dIx (.str (W l)) (.int (((r % k).toNat : Nat) : Int)) = some (.str (W [l.getD (r % k).toNat 0])) := e_ixsn (by omega) hl
  rw [← e] at h3
  exact h3
theorem e_ixlm {xs : List D} {r k : Int} (h : 0 < k) (hk : k.toNat ≤ xs.length) : dIx (.lst xs) (.int (r % k)) = some (xs.getD (r % k).toNat .non) := by
  obtain ⟨e, h2⟩ := mod_natC (r := r) h
  have h4 : (r % k).toNat < xs.length := by omega
  have h3 : dIx (.lst xs) (.int (((r % k).toNat : Nat) : Int)) = some (xs.getD (r % k).toNat .non) := by rw [e_ixn]; simp [h4]
  rw [← e] at h3
  exact h3
theorem getD_mem {α : Type} {xs : List α} {i : Nat} {d : α} (h : i < xs.length) : xs.getD i d ∈ xs := by
  have : xs.getD i d = xs[i] := by simp [h]
  rw [this]; exact List.getElem_mem h
/-- slices of a text -/
theorem cutS_to {l : List Nat} {k : Nat} : cutS (W l) none (some (k : Int)) = W (l.take k) := by
  unfold cutS
  rw [W_list, W_len, HT.sIx_none, HT.sIx_nat]
  show (W _ : Str) = W _
  refine congrArg W ?_
  rw [Nat.sub_zero, List.drop_zero]
  by_cases h : k ≤ l.length
  · rw [Nat.min_eq_left h]
  · rw [Nat.min_eq_right (by omega), List.take_of_length_le (Nat.le_refl _), List.take_of_length_le (by omega)]
theorem cutS_from {l : List Nat} {k : Nat} : cutS (W l) (some (k : Int)) none = W (l.drop k) := by
  unfold cutS
  rw [W_list, W_len, HT.sIx_none, HT.sIx_nat]
  show (W _ : Str) = W _
  refine congrArg W ?_
  by_cases h : k ≤ l.length
  · rw [Nat.min_eq_left h, List.take_of_length_le (by simp)]
  · rw [Nat.min_eq_right (by omega), List.drop_of_length_le (Nat.le_refl _), List.drop_of_length_le (by omega)]; simp
theorem e_slto {l : List Nat} {k : Nat} : dSl (.str (W l)) none (some (k : Int)) = if l.length ≤ sizeLine then some (.str (W (l.take k))) else none := by
  show (if (W l).length ≤ sizeLine then some (D.str (cutS (W l) none (some (k : Int)))) else none) = _
  rw [W_len, cutS_to]
theorem e_slfrom {l : List Nat} {k : Nat} : dSl (.str (W l)) (some (k : Int)) none = if l.length ≤ sizeLine then some (.str (W (l.drop k))) else none := by
  show (if (W l).length ≤ sizeLine then some (D.str (cutS (W l) (some (k : Int)) none)) else none) = _
  rw [W_len, cutS_from]
theorem sgnD_W {l : List Nat} : sgnD (W l) = l.map fun c => D.str (W [c]) := by
  unfold sgnD; rw [W_list]; rfl
theorem vw_d {x : D} : vw (.d x) = x := rfl
theorem vw_ol {x : List D} : vw (.ol x) = .lst x := rfl
theorem vw_oi {c : Nat} {x : List D} : vw (.oi c x) = .obj c x := rfl
theorem vw_od {x y : List D} : vw (.od x y) = .dct x y := rfl
theorem wh_d {n : Nat → Nat} {x : D} : wholeB n (.d x) = true := rfl
theorem wh_ol {n : Nat → Nat} {x : List D} : wholeB n (.ol x) = true := rfl
theorem wh_od {n : Nat → Nat} {x y : List D} : wholeB n (.od x y) = true := rfl
theorem wh_oi {n : Nat → Nat} {c : Nat} {x : List D} : wholeB n (.oi c x) = (x.length == n c) := rfl
theorem own_no : isOwned none = false := rfl
theorem own_d {x : D} : isOwned (some (.d x)) = false := rfl
theorem e_tys {s : Str} : tyOk "str" (.str s) = true := rfl
theorem ws_cut {m : MS} {st : Sl} {Q : Fl → Sl → Prop} (P : Sl → Prop) (h : ws m st fun f s => f = .nx ∧ P s) (k : ∀ s, P s → Q .nx s) : ws m st Q :=
  ws_sub (fun f s z => by obtain ⟨rfl, z⟩ := z; exact k s z) h
/-! ### comprehensions -/
def wl (g : D → Sl → Option Sl) (c : M Bool) (e : M D) (vs : List Nat) (ds acc : List D) (s : Sl) (k : List D → Sl → Prop) : Prop := match lcL g c e vs ds acc s with
  | some (ys, s') => k ys s'
  | none => False
def kLcB (st : Sl) (vs : List Nat) (Q : Oc R → Sl → Prop) : List D → Sl → Prop := fun ys s' => Q (.v (.ol ys)) (backS st s' vs)
def kLcU (g : D → Sl → Option Sl) (c : M Bool) (e : M D) (vs : List Nat) (ds : List D) (s : Sl) (Q : Oc R → Sl → Prop) : Unit → Prop := fun _ => wl g c e vs ds [] (wipeS s vs) (kLcB s vs Q)
theorem kLcU_a {g : D → Sl → Option Sl} {c : M Bool} {e : M D} {vs : List Nat} {ds : List D} {s : Sl} {Q : Oc R → Sl → Prop} : kLcU g c e vs ds s Q () = wl g c e vs ds [] (wipeS s vs) (kLcB s vs Q) := rfl
theorem kLcB_a {st s' : Sl} {vs : List Nat} {Q : Oc R → Sl → Prop} {ys : List D} : kLcB st vs Q ys s' = Q (.v (.ol ys)) (backS st s' vs) := rfl
def kLc (g : D → Sl → Option Sl) (c : M Bool) (e : M D) (vs : List Nat) (Q : Oc R → Sl → Prop) : Oc (List D) → Sl → Prop := vx Q fun ds s => wc (vs.all (fun i => !isOwned (s.getD i none)) = true) (kLcU g c e vs ds s Q)
theorem kLc_v {g : D → Sl → Option Sl} {c : M Bool} {e : M D} {vs : List Nat} {Q : Oc R → Sl → Prop} {ds : List D} {s : Sl} : kLc g c e vs Q (.v ds) s = wc (vs.all (fun i => !isOwned (s.getD i none)) = true) (kLcU g c e vs ds s Q) := rfl
theorem n_rLc {it : M (List D)} {g : D → Sl → Option Sl} {c : M Bool} {e : M D} {vs : List Nat} {st : Sl} {Q : Oc R → Sl → Prop} : wp (rLc it g c e vs) st Q = wp it st (kLc g c e vs Q) := by
  unfold wp rLc
  cases it st with
  | none => rfl
  | some p =>
    obtain ⟨o, s⟩ := p
    cases o with
    | x c => rfl
    | v ds =>
      simp only [kLc_v, wc, wa, kLcU_a, wl]
      by_cases h : (vs.all (fun i => !isOwned (s.getD i none))) = true
      · simp only [h, if_true, true_and]
        cases lcL g c e vs ds [] (wipeS s vs) with
        | none => rfl
        | some p => rfl
      · simp only [h, if_false, false_and]; simp
/-- over a list, by its word -/
theorem wl_inv {g : D → Sl → Option Sl} {c : M Bool} {e : M D} {vs : List Nat} {k : List D → Sl → Prop} (I : List D → List D → Sl → Prop) {ds acc : List D} {s : Sl} (h0 : I ds acc s)
    (hs : ∀ d r acc s, I (d :: r) acc s → wo (g d s) fun s1 => wp c s1 fun o s2 => (o = .v true ∧ wp e s2 fun o s3 => ∃ y, o = .v y ∧ acc.length < sizeLine ∧ I r (acc ++ [y]) (wipeS s3 vs)) ∨ (o = .v false ∧ I r acc (wipeS s2 vs)))
    (h1 : ∀ acc s, I [] acc s → k acc s) : wl g c e vs ds acc s k := by
  induction ds generalizing acc s with
  | nil => exact h1 _ _ h0
  | cons d r ih =>
    obtain ⟨s1, e1, h⟩ := hs d r acc s h0
    unfold wl lcL
    rw [e1]
    simp only []
    unfold wp at h
    revert h
    cases hc : c s1 with
    | none => exact fun h => h.elim
    | some p =>
      obtain ⟨o, s2⟩ := p
      intro h
      rcases h with ⟨rfl, h⟩ | ⟨rfl, h⟩
      · simp only []
        revert h
        cases he : e s2 with
        | none => exact fun h => h.elim
        | some p =>
          obtain ⟨o, s3⟩ := p
          rintro ⟨y, rfl, hl, h⟩
          simp only [hl, if_true]
          exact ih h
      · exact ih h
/-- each one's value, the state as it was -/
theorem wl_map {α : Type} {g : D → Sl → Option Sl} {e : M D} {vs : List Nat} {k : List D → Sl → Prop} {xs : List α} (p : α → D) (f : α → D) {acc : List D} {s : Sl} (hl : acc.length + xs.length ≤ sizeLine)
    (hs : ∀ x ∈ xs, wo (g (p x) s) fun s1 => wp e s1 fun o s3 => o = .v (f x) ∧ wipeS s3 vs = s)
    (h1 : k (acc ++ xs.map f) s) : wl g cYes e vs (xs.map p) acc s k := by
  induction xs generalizing acc with
  | nil => simp at h1; exact h1
  | cons d r ih =>
    obtain ⟨s1, e1, h⟩ := hs d (.head _)
    unfold wl
    rw [List.map_cons]
    unfold lcL
    rw [e1]
    simp only [cYes, ret]
    unfold wp at h
    revert h
    cases he : e s1 with
    | none => exact fun h => h.elim
    | some p =>
      obtain ⟨o, s3⟩ := p
      rintro ⟨rfl, h⟩
      simp only [List.length_cons] at hl
      have hl2 : acc.length < sizeLine := by omega
      simp only [hl2, if_true, h]
      refine ih (acc := acc ++ [f d]) (by simp; omega) (fun x hx => hs x (.tail _ hx)) ?_
      simpa using h1
/-- those that pass, each one's value -/
theorem wl_filter {α : Type} {g : D → Sl → Option Sl} {c : M Bool} {e : M D} {vs : List Nat} {k : List D → Sl → Prop} {xs : List α} (p : α → D) (q : α → Bool) (f : α → D) {acc : List D} {s : Sl} (hl : acc.length + xs.length ≤ sizeLine)
    (hs : ∀ x ∈ xs, wo (g (p x) s) fun s1 => wp c s1 fun o s2 => o = .v (q x) ∧ (q x = false → wipeS s2 vs = s) ∧ (q x = true → wp e s2 fun o s3 => o = .v (f x) ∧ wipeS s3 vs = s))
    (h1 : k (acc ++ (xs.filter q).map f) s) : wl g c e vs (xs.map p) acc s k := by
  induction xs generalizing acc with
  | nil => simp at h1; exact h1
  | cons d r ih =>
    obtain ⟨s1, e1, h⟩ := hs d (.head _)
    unfold wl
    rw [List.map_cons]
    unfold lcL
    rw [e1]
    simp only []
    unfold wp at h
    revert h
    cases hc : c s1 with
    | none => exact fun h => h.elim
    | some z =>
      obtain ⟨o, s2⟩ := z
      rintro ⟨rfl, hf, ht⟩
      simp only [List.length_cons] at hl
      cases hq : q d with
      | false =>
        simp only [hf hq]
        refine ih (by omega) (fun x hx => hs x (.tail _ hx)) ?_
        rw [List.filter_cons_of_neg (by simp [hq])] at h1
        exact h1
      | true =>
        have ht := ht hq
        revert ht
        cases he : e s2 with
        | none => exact fun h => h.elim
        | some z =>
          obtain ⟨o, s3⟩ := z
          rintro ⟨rfl, h⟩
          have hl2 : acc.length < sizeLine := by omega
          simp only [he, hl2, if_true, h]
          refine ih (acc := acc ++ [f d]) (by simp; omega) (fun x hx => hs x (.tail _ hx)) ?_
          rw [List.filter_cons_of_pos (by simp [hq])] at h1
          simpa using h1
end Fz

-- text Fz21
set_option Elab.async false
set_option linter.all false
set_option maxRecDepth 100000
set_option maxHeartbeats 2000000
namespace Fz
open PySem L2 PySem.Spec PyProof.Rows
/-! ### max(whole numbers, default=) -/
section
variable {prog : Program} {w : World} {A : Around} {Z : Result → Shared → Prop} {E : Value → Shared → Prop} {it : Addr} {tr wr : List Addr} {n : Nat} {P : Nat → Value → Prop} {G : Nat → Heap → Prop}
abbrev dfa (it b : Addr) (d : Value) : Args := ⟨[.ref it, .none, .ref b], [("default", d)]⟩
theorem mxd_on (K : Walks prog w A.in1 it tr wr n P G) (gt : Nat → Nat → Bool) (hg : CmpOf prog w A.in1 .Gt P gt) (b : Addr) (d : Value) (hb : b ∉ tr) : ∀ (m i : Nat) (t : Shared) (u : Value) (ep : Nat), m + (i + 1) = n → G (i + 1) t.heap → P (argBest gt i) u →
    t.heap.get? b = some { cls := .type "list", dict := none, data := .seq #[u, u] ep, slots := #[] } →
    (∀ v h2 tk, P (argBest gt (n - 1)) v → (∀ a o, a ∉ wr → a ≠ b → t.heap.get? a = some o → h2.get? a = some o) → Z (.ok (.ret v)) { t with heap := h2, toks := tk }) →
    codeAny (model prog w) A (.builtin "max.loop" (dfa it b d)) Z t := by
  have nb : b ∉ wr := fun z => hb (K.sub _ z)
  have nm : (toString "max" ++ toString ".loop" : String) = "max.loop" := by decide
  intro m
  induction m with
  | zero =>
    intro i t u ep hi hG hP hB z
    have e1 : i + 1 = n := by omega
    refine codeAny_builtin F.entry_max_loop ?_
    rw [Around.under_plainId F.plain_max_loop _]
    show wpAny _ A.in1 (seqItems? (.ref b) >>= _) _ _ t
    refine wpAny_bind (wpAny_seqItems hB rfl ?_)
    show wpAny _ A.in1 (tryCatch (pyNext (.ref it)) _ >>= _) _ _ t
    refine wpAny_bind (wpAny_tryCatch (K.done t _ _ (e1 ▸ hG) fun h2 tk k2 => ?_))
    have hB2 := k2 b _ nb hB
    show wpAny _ A.in1 (updateSeq b (fun _ => #[]) >>= _) _ _ _
    refine wpAny_bind (wpAny_updateSeq hB2 rfl (wpAny_bind (wpAny_letGo (wpAny_pure ?_))))
    exact z u _ tk (by rw [← e1]; exact hP) fun a o aw ab q => (Heap.get?_update_other _ _ (Ne.symm ab)).trans (k2 a o aw q)
  | succ m ih =>
    intro i t u ep hi hG hP hB z
    have lt1 : i + 1 < n := by omega
    refine codeAny_builtin F.entry_max_loop ?_
    rw [Around.under_plainId F.plain_max_loop _]
    show wpAny _ A.in1 (seqItems? (.ref b) >>= _) _ _ t
    refine wpAny_bind (wpAny_seqItems hB rfl ?_)
    show wpAny _ A.in1 (tryCatch (pyNext (.ref it)) _ >>= _) _ _ t
    refine wpAny_bind (wpAny_tryCatch (K.item (i + 1) t _ _ lt1 hG fun v h2 tk pv g2 k2 => ?_))
    have hB2 := k2 b _ nb hB
    show wpAny _ A.in1 (tryCatch (holding [v, v] (richCompare .Gt v u >>= _)) _ >>= _) _ _ _
    refine wpAny_bind (wpAny_tryCatch (wpAny_holding (wpAny_bind (hg (i + 1) (argBest gt i) v u _ _ _ pv hP ?_))))
    refine wpAny_bind (wpAny_holding (wpAny_truthy_bool (wpAny_bind (wpAny_letGo (wpAny_pure ?_)))))
    by_cases hgt : gt (i + 1) (argBest gt i) = true
    · simp only [hgt, if_true]
      refine wpAny_bind (wpAny_updateSeq hB2 rfl (wpAny_bind (wpAny_letGo ?_)))
      rw [nm]
      refine wpAny_pure ⟨plainId_quiet F.plain_max_loop _, ih (i + 1) _ v _ (by omega) (K.frame _ _ _ g2 fun a ha o q => (Heap.get?_update_other _ _ (fun y : b = a => hb (y ▸ ha))).trans q) (by simp only [argBest, hgt, if_true]; exact pv) (Heap.get?_update_self _ hB2 rfl) fun v3 h3 tk3 p3 k3 => ?_⟩
      exact z v3 h3 tk3 p3 fun a o aw ab q => k3 a o aw ab ((Heap.get?_update_other _ _ (Ne.symm ab)).trans (k2 a o aw q))
    · simp only [hgt, if_false]
      refine wpAny_bind (wpAny_letGo ?_)
      rw [nm]
      refine wpAny_pure ⟨plainId_quiet F.plain_max_loop _, ih (i + 1) _ u ep (by omega) g2 (by simp only [argBest, hgt, if_false]; exact hP) hB2 fun v3 h3 tk3 p3 k3 => ?_⟩
      exact z v3 h3 tk3 p3 fun a o aw ab q => k3 a o aw ab (k2 a o aw q)
theorem mxd_first (K : Walks prog w A.in1 it tr wr n P G) (gt : Nat → Nat → Bool) (hg : CmpOf prog w A.in1 .Gt P gt) (b : Addr) (d : Value) (hb : b ∉ tr) {t : Shared} {ep : Nat} (hG : G 0 t.heap)
    (hB : t.heap.get? b = some { cls := .type "list", dict := none, data := .seq #[] ep, slots := #[] })
    (z : ∀ v h2 tk, (if n = 0 then v = d else P (argBest gt (n - 1)) v) → (∀ a o, a ∉ wr → a ≠ b → t.heap.get? a = some o → h2.get? a = some o) → Z (.ok (.ret v)) { t with heap := h2, toks := tk }) :
    codeAny (model prog w) A (.builtin "max.loop" (dfa it b d)) Z t := by
  have nb : b ∉ wr := fun y => hb (K.sub _ y)
  have nm : (toString "max" ++ toString ".loop" : String) = "max.loop" := by decide
  refine codeAny_builtin F.entry_max_loop ?_
  rw [Around.under_plainId F.plain_max_loop _]
  show wpAny _ A.in1 (seqItems? (.ref b) >>= _) _ _ t
  refine wpAny_bind (wpAny_seqItems hB rfl ?_)
  show wpAny _ A.in1 (tryCatch (pyNext (.ref it)) _ >>= _) _ _ t
  by_cases h0 : n = 0
  · subst h0
    refine wpAny_bind (wpAny_tryCatch (K.done t _ _ hG fun h2 tk k2 => ?_))
    have hr : ∀ {α : Type} {x : String} {m : Unit → Sem α} {Y : α → Shared → Prop} {s1 : Shared}, wpAny (model prog w) A.in1 (m ()) Y (fun e s => Z (.error e) s) s1 → wpAny (model prog w) A.in1 (rule x >>= m) Y (fun e s => Z (.error e) s) s1 := fun h => wpAny_bind (wpAny_rule h)
    refine hr (wpAny_pure ?_)
    exact z d h2 tk rfl fun a o aw _ q => k2 a o aw q
  · refine wpAny_bind (wpAny_tryCatch (K.item 0 t _ _ (by omega) hG fun v h2 tk pv g2 k2 => ?_))
    have hB2 := k2 b _ nb hB
    show wpAny _ A.in1 (updateSeq b (fun _ => #[v, v]) >>= _) _ _ _
    refine wpAny_bind (wpAny_updateSeq hB2 rfl ?_)
    rw [nm]
    refine wpAny_pure ⟨plainId_quiet F.plain_max_loop _, mxd_on K gt hg b d hb (n - 1) 0 _ v _ (by omega) (K.frame _ _ _ g2 fun a ha o q => (Heap.get?_update_other _ _ (fun y : b = a => hb (y ▸ ha))).trans q) pv (Heap.get?_update_self _ hB2 rfl) fun v3 h3 tk3 p3 k3 => ?_⟩
    exact z v3 h3 tk3 (by rw [if_neg h0]; exact p3) fun a o aw ab q => k3 a o aw ab ((Heap.get?_update_other _ _ (Ne.symm ab)).trans (k2 a o aw q))
theorem maxd_args (x d : Value) : argsOk "max" ⟨[x], [("default", d)]⟩ := by unfold argsOk; kernel_rfl
theorem call_maxd {t : Shared} {x d : Value} {Q : Value → Shared → Prop}
    (h : wpAny (model prog w) A.in1 (pyIter x) (fun i t2 => ∃ it tr wr n P G gt, i = .ref it ∧ Walks prog w A.in1 it tr wr n P G ∧ G 0 t2.heap ∧ (∀ a ∈ tr, a < t2.heap.objs.size) ∧ CmpOf prog w A.in1 .Gt P gt ∧
      ∀ v h2 tk, (if n = 0 then v = d else P (argBest gt (n - 1)) v) → (∀ a o, a ∉ wr → t2.heap.get? a = some o → h2.get? a = some o) → Q v { t2 with heap := h2, toks := tk }) E t) :
    wpAny (model prog w) A (call (.builtin "max") [x] [("default", d)]) Q E t := by
  have nm : (toString "max" ++ toString ".loop" : String) = "max.loop" := by decide
  have hk := maxd_args x d
  refine wpAny_call (codeAny_call_builtin F.plain_max F.entry_max ?_)
  have tree : wpAny (model prog w) A.in1 (Builtin.«max» ⟨[x], [("default", d)]⟩) (fun fin s2 => match fin with
      | .done f => (match (Except.ok f : Result) with | .ok (.ret v) => Q v s2 | .ok _ => False | .error e => E e s2)
      | .again c2 => c2.quiet = true ∧ codeAny (model prog w) A c2 (fun r s2 => match r with | .ok (.ret v) => Q v s2 | .ok _ => False | .error e => E e s2) s2) E t := by
    show wpAny _ A.in1 (Builtin.Builtins.bindParams "max" ["key", "default"] 0 ⟨[], [("default", d)]⟩ >>= _) _ _ t
    refine wpAny_bind (wpAny_of_eq (show Builtin.Builtins.bindParams "max" ["key", "default"] 0 ⟨[], [("default", d)]⟩ = pure [none, some d] by kernel_rfl) ?_)
    refine wpAny_bind (wpAny_pure (wpAny_bind (wpAny_mono h (fun i t2 q => ?_) fun _ _ e => e)))
    obtain ⟨it, tr, wr, n, P, G, gt, rfl, K, g0, low, cm, z⟩ := q
    refine wpAny_bind (wpAny_newObj_type ?_)
    have fresh : t2.heap.objs.size ∉ tr := fun y => Nat.lt_irrefl _ (low _ y)
    rw [nm]
    refine wpAny_pure ⟨plainId_quiet F.plain_max_loop _, mxd_first K gt cm t2.heap.objs.size d fresh (K.frame _ _ _ g0 fun a _ o q => Heap.get?_push_of_some _ q) (Heap.get?_push_size _ rfl) fun v h2 tk pv k2 => ?_⟩
    exact z v h2 tk pv fun a o aw q => k2 a o aw (Nat.ne_of_lt (Heap.lt_size q)) (Heap.get?_push_of_some _ q)
  simp only [checkBuiltinCall, F.kind_max]
  cases hs : Manifest.signature? "max" with
  | none => exact wpAny_pure tree
  | some sg =>
    simp only [argsOk, hs] at hk
    have h2 : Bind.checkArgs "max" sg ⟨[x], [("default", d)]⟩ = pure () := hk
    show wpAny _ A.in1 (Bind.checkArgs "max" sg ⟨[x], [("default", d)]⟩) _ _ t
    rw [h2]; exact wpAny_pure tree
end
/-- max(xs, default=i) of whole numbers -/
def maxOf (i : Int) : List Int → Int
  | [] => i
  | a :: r => r.foldl max a
theorem maxOf_of {i m : Int} {ns : List Int} (h1 : m ∈ ns) (h2 : ∀ y ∈ ns, y ≤ m) : maxOf i ns = m := by
  have gen : ∀ (r : List Int) (a : Int), (m = a ∨ m ∈ r) → a ≤ m → (∀ y ∈ r, y ≤ m) → r.foldl max a = m := by
    intro r
    induction r with
    | nil => intro a h _ _; rcases h with h | h; exact h.symm; cases h
    | cons b r ih =>
      intro a h ha hr
      rw [List.foldl_cons]
      have hb := hr b (.head _)
      refine ih (max a b) ?_ (by omega) fun y hy => hr y (.tail _ hy)
      rcases h with h | h
      · left; omega
      · rcases List.mem_cons.mp h with h | h
        · left; omega
        · exact .inr h
  cases ns with
  | nil => cases h1
  | cons a r => exact gen r a (by rcases List.mem_cons.mp h1 with h | h; exact .inl h; exact .inr h) (h2 a (.head _)) fun y hy => h2 y (.tail _ hy)
def rMaxD (K : PySem.W.Frag) : List V → List V → Hp → VK → Prop := fun xs zs H Q => ∃ (a : Addr) (ns : List Int) (i : Int), xs = [.ref a] ∧ zs = [.int i] ∧ SqL K H a (ns.map V.int) ∧ Q (.int (maxOf i ns)) H
theorem cr_maxd {X : Cx} (hc : X.calm = true) : CallRK X (.builtin "max") ["default"] (rMaxD X.K) := by
  intro pins s σ H xs zs us ws Q I r r2 h
  obtain ⟨a, ns, i, rfl, rfl, hs, q⟩ := h
  obtain ⟨its, rv, hl, _⟩ := I.list hs
  rw [Vals.ref1 r]
  obtain ⟨u, rfl, t, rfl⟩ := vals1 r2
  have hi := rv.ints
  obtain ⟨xs, e⟩ := hi.allInts.items
  have hn : numsOf (intItems xs).toList = ns := by rw [← e]; exact hi.numsOf
  rw [nums_intItems] at hn
  subst hn
  have hl := hl.isList
  rw [e] at hl
  show wpAny _ _ (call (.builtin "max") [.ref a] [("default", .int i t)]) _ _ _
  refine call_maxd (iter_intList hl fun t2 e2 st hf hlI => ?_)
  subst e2
  refine ⟨_, _, _, _, _, _, _, rfl, Walks.list (A := X.A.in1) (I.ok.hd hc) _ a hlI (intItems xs), st, hf, CmpOf.ints_gt (numAt xs) (fun _ _ => intItems_at), fun v h2 tk pv hk => ?_⟩
  have hk := old_kept hk
  by_cases h0 : (intItems xs).size = 0
  · rw [if_pos h0] at pv
    subst pv
    have hz : xs.size = 0 := by simpa [intItems] using h0
    have : (xs.toList.map Prod.fst) = [] := by
      have : xs = #[] := Array.eq_empty_of_size_eq_zero hz
      rw [this]; rfl
    rw [this] at q
    exact ⟨.int i, H, I.kept hk, ⟨_, rfl⟩, q⟩
  · rw [if_neg h0] at pv
    have hsz : (intItems xs).size = xs.size := by simp [intItems]
    have hp : 0 < xs.size := by omega
    have hv : (intItems xs)[argBest (fun i j => decide (numAt xs i > numAt xs j)) (xs.size - 1)]? = some v := by rw [← hsz]; exact pv
    obtain ⟨t3, rfl⟩ := intItems_at hv
    obtain ⟨h1, h3⟩ := argBest_gt (numAt xs) (xs.size - 1)
    refine ⟨.int (numAt xs (argBest (fun i j => decide (numAt xs i > numAt xs j)) (xs.size - 1))), H, I.kept hk, ⟨_, rfl⟩, ?_⟩
    rw [maxOf_of (m := numAt xs (argBest (fun i j => decide (numAt xs i > numAt xs j)) (xs.size - 1)))] at q
    · exact q
    · rw [numAt_eq]; exact PySem.getD_mem (by rw [List.length_map, Array.length_toList]; omega)
    · intro y hy
      obtain ⟨j, hj, rfl⟩ := mem_getD hy
      rw [List.length_map, Array.length_toList] at hj
      rw [← numAt_eq]; exact h3 j (by omega)
/-! ### sum, max(default=), max of two, isinstance(x, a class of one's own), list.index -/
def dInts : List D → Option (List Int)
  | [] => some []
  | .int i :: ds => (dInts ds).map (i :: ·)
  | _ => none
theorem dInts_v {T : Tab} {B : Hp} : ∀ {ds : List D} {ns : List Int} {vs : List V}, dInts ds = some ns → Reps T B ds vs → vs = ns.map V.int
  | [], ns, vs, h, r => by cases h; unfold Reps at r; exact r
  | d :: ds, ns, vs, h, r => by
    cases d with
    | int i =>
      have h : (dInts ds).map (i :: ·) = some ns := h
      unfold Reps at r
      obtain ⟨v, us, rfl, r1, r2⟩ := r
      cases e2 : dInts ds with
      | none => rw [e2] at h; cases h
      | some ns2 =>
        rw [e2] at h; cases h
        cases rep_int r1
        rw [dInts_v e2 r2]; rfl
    | _ => cases h
theorem dInts_map : ∀ ns : List Int, dInts (ns.map D.int) = some ns
  | [] => rfl
  | n :: r => by show (dInts (r.map D.int)).map _ = _; rw [dInts_map r]; rfl
def dSum : List D → Option D
  | [.lst xs] => (dInts xs).map fun ns => .int ns.sum
  | _ => none
theorem p_sum {T : Tab} : PrimN T (rSum T.K) dSum := by
  intro xs z vs B H Q e hx hz k
  unfold dSum at hz
  split at hz
  · rename_i ys
    cases hb : dInts ys with
    | none => rw [hb] at hz; cases hz
    | some ns =>
      rw [hb] at hz; cases hz
      obtain ⟨v, rfl, r⟩ := reps1 hx
      unfold Rep at r
      obtain ⟨a, us, rfl, t1, r1⟩ := r
      cases dInts_v hb r1
      exact ⟨a, ns, rfl, e.sqL t1, k _ B H (.refl e) rfl⟩
  · cases hz
def dMax2 : List D → Option D
  | [.int i, .int j] => some (.int (max i j))
  | _ => none
theorem p_max2 {T : Tab} : PrimN T (fun xs H Q => ∃ i j, xs = [V.int i, V.int j] ∧ Q (.int (if j > i then j else i)) H) dMax2 := by
  intro xs z vs B H Q e hx hz k
  unfold dMax2 at hz
  split at hz
  · rename_i i j
    cases hz
    obtain ⟨v, u, rfl, r1, r2⟩ := reps2 hx
    cases rep_int r1
    cases rep_int r2
    refine ⟨i, j, rfl, ?_⟩
    have : (if j > i then j else i) = max i j := by split <;> omega
    rw [this]
    exact k _ B H (.refl e) rfl
  · cases hz
def eMaxD (fa : M (List D)) (fb : M D) : M D := bnd fa fun xs => bnd fb fun y => opt (match xs, y with
  | [.lst xs], .int i => (dInts xs).map fun ns => .int (maxOf i ns)
  | _, _ => none)
def dIsc (tab : Nat → Option Bool) : D → Option D
  | .obj c _ => (tab c).map .bl
  | _ => none
/-- the same as a look -/
structure InsOk (K : PySem.W.Frag) (C : Addr) : Prop where
  ha : PySem.W.findIn K (.ref C) "__class__" = some (some (.builtin "object.__class__"))
  hn : PySem.W.specialIn K (.builtin "object.__class__") "__get__" = some (some (.builtin "getset_descriptor.__get__"))
  htk : PySem.W.takesIn K (.builtin "object.__class__") = some true
  hm : PySem.W.mroIn K C (.type "object") = some true
theorem insOk_of {x : Str} {K : PySem.W.Frag} (h : insB x K = true) (g : insG K = true) : InsOk K (He.ga K x) := by
  obtain ⟨h1, h2⟩ := He.ba h
  obtain ⟨g1, g2⟩ := He.ba g
  exact ⟨He.eqO_ok h1, He.eqO_ok g1, eq_of_beq g2, eq_of_beq h2⟩
/-- is an instance of class c one of class S -/
def GIs (T : Tab) (S : Nat) (tab : Nat → Option Bool) : Prop := ∀ c b, tab c = some b → Cls T.K (T.cls c) ∧ InsOk T.K (T.cls c) ∧ PySem.W.kitOne T.K (.ref (T.cls c)) (.ref (T.cls S)) = some b
section
variable {ι : Type} {T : Tab} {E : L2.St → XK} {X : ι → Cx} {kp : Nat → Bool} {pos apos : Pos} {e a b c o : Expr} {es : List Expr} {fa fb fc : M D} {fs : M (List D)} {fl : M (List Arg)} {r : M R} {x m : Str} {te ta : TE} {t : TA}
theorem xe_sum {p : Pos} (hm : ∀ j, (X j).mg "sum" = none) (ha : XA T E X [e] fs) (hc : ∀ j, (X j).calm = true := by intro j; rfl) (hK : ∀ j, (X j).K = T.K := by intro j; rfl) (hg : ∀ j, Gl (X j) "sum" := by intro j; rfl) (he : ∀ j, starEach [e] (X j).env = (false, eval e (X j).env) :: starEach [] (X j).env := by intro j; rfl) (hpl : ∀ j, (backTo pos (starEach [] (X j).env)).any (·.1) = false := by intro j; rfl) : XE T E X (.Call (.Name "sum" p) [e] [] pos) (eOp dSum fs) :=
  xe_callB (fun j => by rw [← hK j]; exact cr_sum (hc j)) p_sum hm (by decide +kernel) ha hg (by decide +kernel) (by decide +kernel) he hpl
theorem xe_max2 {e2 : Expr} {p : Pos} (hm : ∀ j, (X j).mg "max" = none) (ha : XA T E X [e, e2] fs) (hc : ∀ j, (X j).calm = true := by intro j; rfl) (hg : ∀ j, Gl (X j) "max" := by intro j; rfl) (he : ∀ j, starEach [e, e2] (X j).env = (false, eval e (X j).env) :: starEach [e2] (X j).env := by intro j; rfl) (hpl : ∀ j, (backTo pos (starEach [e2] (X j).env)).any (·.1) = false := by intro j; rfl) : XE T E X (.Call (.Name "max" p) [e, e2] [] pos) (eOp dMax2 fs) :=
  xe_callB (fun j => call_max2 (hc j)) p_max2 hm (by decide +kernel) ha hg (by decide +kernel) (by decide +kernel) he hpl
theorem semE_maxd {ta : TA} {tb : TE} (ha : SemA T E ta fs) (hb : SemE T E tb fb) : SemE T E (tCKw (rMaxD T.K) ta (tCons tb tNil)) (eMaxD fs fb) := by
  intro st σ B F H S o s h Q hQ
  refine okx_bnd h hQ (fun o1 s1 e1 q => ha st σ B F H S o1 s1 e1 _ q) fun xs s1 B1 H1 _ h2 e1 S1 hQ1 vs hvs => ?_
  refine okx_bnd h2 hQ1 (fun o1 s2 e2 q => hb s1 σ B1 F H1 S1 o1 s2 e2 _ q) fun y s2 B2 H2 _ h3 e2 S2 hQ2 u hu => ?_
  obtain ⟨z, hz, rfl, rfl⟩ := opt_some h3
  have hvs := Reps.mono e2 xs hvs
  match xs, y, hz, hvs, hu with
  | [.lst ys], .int i, hz, hvs, hu =>
    have hz : (dInts ys).map (fun ns => D.int (maxOf i ns)) = some z := hz
    cases hi : dInts ys with
    | none => rw [hi] at hz; cases hz
    | some ns =>
      rw [hi] at hz; cases hz
      obtain ⟨v, rfl, r⟩ := reps1 hvs
      unfold Rep at r
      obtain ⟨a, us, rfl, t1, r1⟩ := r
      cases dInts_v hi r1
      cases rep_int hu
      exact ⟨a, ns, i, rfl, rfl, S2.exB.sqL t1, hQ2 B2 H2 (Ex.refl _) S2 _ rfl⟩
theorem xe_maxd {p kpos : Pos} (hm : ∀ j, (X j).mg "max" = none) (ha : XA T E X [e] fs) (hb : XE T E X b fb) (hc : ∀ j, (X j).calm = true := by intro j; rfl) (hK : ∀ j, (X j).K = T.K := by intro j; rfl) (hg : ∀ j, Gl (X j) "max" := by intro j; rfl)
    (he : ∀ j, backTo pos (starEach [e] (X j).env) = (false, eval e (X j).env) :: backTo pos (starEach [] (X j).env) := by intro j; rfl) (hpl : ∀ j, (backTo pos (starEach [e] (X j).env)).any (·.1) = false := by intro j; rfl)
    (hall : ∀ j, (backToKw pos (keywordEach [⟨some "default", b, kpos⟩] (X j).env)).all (·.1.isSome) = true := by intro j; rfl) (hnone : ∀ j, (backToKw pos (keywordEach [⟨some "default", b, kpos⟩] (X j).env)).any (·.1.isNone) = false := by intro j; rfl) (hks : ∀ j, (backToKw pos (keywordEach [⟨some "default", b, kpos⟩] (X j).env)).filterMap (·.1) = (["default"] : List Str) := by intro j; rfl) :
    XE T E X (.Call (.Name "max" p) [e] [⟨some "default", b, kpos⟩] pos) (eMaxD fs fb) :=
  let ⟨_, a1, a2⟩ := ha; let ⟨_, b1, b2⟩ := hb
  ⟨_, fun j => by rw [← hK j]; exact pe_callBK (cr_maxd (hc j)) (hg j) (hm j) (by decide +kernel) (a1 j) (pk_cons (b1 j) pk_nil) (by decide +kernel) (by decide +kernel) (he j) (hpl j) (hall j) (hnone j) (hks j), semE_maxd a2 b2⟩
theorem semE_isc {S : Nat} {tab : Nat → Option Bool} (hi : GIs T S tab) (ha : SemE T E te fa) : SemE T E (tCB (rIsi T.K) (tCons te (tCons (tC (.ref (T.cls S))) tNil))) (eUn (dIsc tab) fa) := by
  intro st σ B F H S0 o s h Q hQ
  refine okx_bnd h hQ (fun o1 s1 e1 q => ha st σ B F H S0 o1 s1 e1 _ q) fun a s1 B1 H1 _ h2 e1 S1 hQ1 v hv => ?_
  obtain ⟨z, hz, rfl, rfl⟩ := opt_some h2
  match a, hz, hv with
  | .obj cc fs2, hz, hv =>
    have hz : (tab cc).map D.bl = some z := hz
    cases ht : tab cc with
    | none => rw [ht] at hz; cases hz
    | some bb =>
      rw [ht] at hz; cases hz
      obtain ⟨cl, io, hk⟩ := hi cc bb ht
      unfold Rep at hv
      obtain ⟨a, dx, fvs, rfl, h3, _⟩ := hv
      exact ⟨.ref a, .ref (T.cls S), .ref (T.cls cc), .ref (T.cls S), _, rfl, .own _, .base (.ins (S1.exB a _ h3) cl io.ha io.hn io.htk io.hm), hk, hQ1 B1 H1 (Ex.refl _) S1 _ rfl⟩
theorem xe_isc {S : Nat} {tab : Nat → Option Bool} {cx : Str} {p p2 : Pos} (hi : GIs T S tab) (hm : ∀ j, (X j).mg "isinstance" = none) (hm2 : ∀ j, (X j).mg cx = some (.ref (T.cls S))) (ha : XE T E X e fa) (hK : ∀ j, (X j).K = T.K := by intro j; rfl)
    (hg : ∀ j, Gl (X j) "isinstance" := by intro j; rfl) (hg2 : ∀ j, Gl (X j) cx := by intro j; rfl) (hdb2 : (cx == ("__debug__" : Str)) = false := by decide +kernel)
    (hs1 : ∀ j, starEach [e, .Name cx p2] (X j).env = (false, eval e (X j).env) :: starEach [.Name cx p2] (X j).env := by intro j; rfl) (hs2 : ∀ j, starEach [.Name cx p2] (X j).env = (false, eval (.Name cx p2) (X j).env) :: starEach [] (X j).env := by intro j; rfl)
    (hpl : ∀ j, (backTo pos (starEach [.Name cx p2] (X j).env)).any (·.1) = false := by intro j; rfl) : XE T E X (.Call (.Name "isinstance" p) [e, .Name cx p2] [] pos) (eUn (dIsc tab) fa) :=
  let ⟨_, a1, a2⟩ := ha
  ⟨_, fun j => pe_callB (by rw [← hK j]; exact call_isi) (hg j) (hm j) (by decide +kernel) (pa_cons (a1 j) (pa_cons (pe_glob (v := .ref (T.cls S)) (hg2 j) (hm2 j) rfl hdb2) pa_nil (hs2 j)) (hs1 j)) (by decide +kernel) (by decide +kernel) (hs1 j) (hpl j), semE_isc hi a2⟩
end
end Fz

-- text K23a
set_option Elab.async false
set_option linter.all false
set_option maxRecDepth 100000
set_option maxHeartbeats 0
namespace K23
open PySem L2 PySem.Spec PyProof.Rows Fz
/-! ### the text by places, names, scopes -/
abbrev N_kept_words : List Str := ["words"]
abbrev P_kept_words : List Str := []
theorem sc_kept_words : FnScope N_kept_words P_kept_words (defScope s_kept_words) := ⟨rfl, rfl, rfl, by decide +kernel, rfl, by decide +kernel, by decide +kernel⟩
abbrev N_is_mark : List Str := ["thing", "sign"]
abbrev P_is_mark : List Str := ["thing"]
theorem sc_is_mark : FnScope N_is_mark P_is_mark (defScope s_is_mark) := ⟨rfl, rfl, rfl, by decide +kernel, rfl, by decide +kernel, by decide +kernel⟩
abbrev N_Statement_word : List Str := ["self"]
abbrev P_Statement_word : List Str := ["self"]
theorem sc_Statement_word : FnScope N_Statement_word P_Statement_word (defScope s_Statement_word) := ⟨rfl, rfl, rfl, by decide +kernel, rfl, by decide +kernel, by decide +kernel⟩
abbrev N_Statement_inner : List Str := ["self"]
abbrev P_Statement_inner : List Str := ["self"]
theorem sc_Statement_inner : FnScope N_Statement_inner P_Statement_inner (defScope s_Statement_inner) := ⟨rfl, rfl, rfl, by decide +kernel, rfl, by decide +kernel, by decide +kernel⟩
abbrev N_Again_word : List Str := ["self"]
abbrev P_Again_word : List Str := ["self"]
theorem sc_Again_word : FnScope N_Again_word P_Again_word (defScope s_Again_word) := ⟨rfl, rfl, rfl, by decide +kernel, rfl, by decide +kernel, by decide +kernel⟩
abbrev N_Before_word : List Str := ["self"]
abbrev P_Before_word : List Str := ["self"]
theorem sc_Before_word : FnScope N_Before_word P_Before_word (defScope s_Before_word) := ⟨rfl, rfl, rfl, by decide +kernel, rfl, by decide +kernel, by decide +kernel⟩
abbrev N_Both_word : List Str := ["self"]
abbrev P_Both_word : List Str := ["self"]
theorem sc_Both_word : FnScope N_Both_word P_Both_word (defScope s_Both_word) := ⟨rfl, rfl, rfl, by decide +kernel, rfl, by decide +kernel, by decide +kernel⟩
abbrev N_Early_word : List Str := ["self"]
abbrev P_Early_word : List Str := ["self"]
theorem sc_Early_word : FnScope N_Early_word P_Early_word (defScope s_Early_word) := ⟨rfl, rfl, rfl, by decide +kernel, rfl, by decide +kernel, by decide +kernel⟩
abbrev N_Either_word : List Str := ["self"]
abbrev P_Either_word : List Str := ["self"]
theorem sc_Either_word : FnScope N_Either_word P_Either_word (defScope s_Either_word) := ⟨rfl, rfl, rfl, by decide +kernel, rfl, by decide +kernel, by decide +kernel⟩
abbrev N_Ever_word : List Str := ["self"]
abbrev P_Ever_word : List Str := ["self"]
theorem sc_Ever_word : FnScope N_Ever_word P_Ever_word (defScope s_Ever_word) := ⟨rfl, rfl, rfl, by decide +kernel, rfl, by decide +kernel, by decide +kernel⟩
abbrev N_Frees_word : List Str := ["self"]
abbrev P_Frees_word : List Str := ["self"]
theorem sc_Frees_word : FnScope N_Frees_word P_Frees_word (defScope s_Frees_word) := ⟨rfl, rfl, rfl, by decide +kernel, rfl, by decide +kernel, by decide +kernel⟩
abbrev N_Held_word : List Str := ["self"]
abbrev P_Held_word : List Str := ["self"]
theorem sc_Held_word : FnScope N_Held_word P_Held_word (defScope s_Held_word) := ⟨rfl, rfl, rfl, by decide +kernel, rfl, by decide +kernel, by decide +kernel⟩
abbrev N_Next_word : List Str := ["self"]
abbrev P_Next_word : List Str := ["self"]
theorem sc_Next_word : FnScope N_Next_word P_Next_word (defScope s_Next_word) := ⟨rfl, rfl, rfl, by decide +kernel, rfl, by decide +kernel, by decide +kernel⟩
abbrev N_No_word : List Str := ["self"]
abbrev P_No_word : List Str := ["self"]
theorem sc_No_word : FnScope N_No_word P_No_word (defScope s_No_word) := ⟨rfl, rfl, rfl, by decide +kernel, rfl, by decide +kernel, by decide +kernel⟩
abbrev N_Not_word : List Str := ["self"]
abbrev P_Not_word : List Str := ["self"]
theorem sc_Not_word : FnScope N_Not_word P_Not_word (defScope s_Not_word) := ⟨rfl, rfl, rfl, by decide +kernel, rfl, by decide +kernel, by decide +kernel⟩
abbrev N_Now_tree : List Str := ["self"]
abbrev P_Now_tree : List Str := ["self"]
theorem sc_Now_tree : FnScope N_Now_tree P_Now_tree (defScope s_Now_tree) := ⟨rfl, rfl, rfl, by decide +kernel, rfl, by decide +kernel, by decide +kernel⟩
abbrev N_Now_word : List Str := ["self"]
abbrev P_Now_word : List Str := ["self"]
theorem sc_Now_word : FnScope N_Now_word P_Now_word (defScope s_Now_word) := ⟨rfl, rfl, rfl, by decide +kernel, rfl, by decide +kernel, by decide +kernel⟩
abbrev N_OfOne_inner : List Str := ["self"]
abbrev P_OfOne_inner : List Str := ["self"]
theorem sc_OfOne_inner : FnScope N_OfOne_inner P_OfOne_inner (defScope s_OfOne_inner) := ⟨rfl, rfl, rfl, by decide +kernel, rfl, by decide +kernel, by decide +kernel⟩
abbrev N_OfTwo_inner : List Str := ["self"]
abbrev P_OfTwo_inner : List Str := ["self"]
theorem sc_OfTwo_inner : FnScope N_OfTwo_inner P_OfTwo_inner (defScope s_OfTwo_inner) := ⟨rfl, rfl, rfl, by decide +kernel, rfl, by decide +kernel, by decide +kernel⟩
abbrev N_Once_word : List Str := ["self"]
abbrev P_Once_word : List Str := ["self"]
theorem sc_Once_word : FnScope N_Once_word P_Once_word (defScope s_Once_word) := ⟨rfl, rfl, rfl, by decide +kernel, rfl, by decide +kernel, by decide +kernel⟩
abbrev N_Settles_word : List Str := ["self"]
abbrev P_Settles_word : List Str := ["self"]
theorem sc_Settles_word : FnScope N_Settles_word P_Settles_word (defScope s_Settles_word) := ⟨rfl, rfl, rfl, by decide +kernel, rfl, by decide +kernel, by decide +kernel⟩
abbrev N_Since_word : List Str := ["self"]
abbrev P_Since_word : List Str := ["self"]
theorem sc_Since_word : FnScope N_Since_word P_Since_word (defScope s_Since_word) := ⟨rfl, rfl, rfl, by decide +kernel, rfl, by decide +kernel, by decide +kernel⟩
abbrev N_Sofar_word : List Str := ["self"]
abbrev P_Sofar_word : List Str := ["self"]
theorem sc_Sofar_word : FnScope N_Sofar_word P_Sofar_word (defScope s_Sofar_word) := ⟨rfl, rfl, rfl, by decide +kernel, rfl, by decide +kernel, by decide +kernel⟩
abbrev N_Soon_word : List Str := ["self"]
abbrev P_Soon_word : List Str := ["self"]
theorem sc_Soon_word : FnScope N_Soon_word P_Soon_word (defScope s_Soon_word) := ⟨rfl, rfl, rfl, by decide +kernel, rfl, by decide +kernel, by decide +kernel⟩
abbrev N_Then_word : List Str := ["self"]
abbrev P_Then_word : List Str := ["self"]
theorem sc_Then_word : FnScope N_Then_word P_Then_word (defScope s_Then_word) := ⟨rfl, rfl, rfl, by decide +kernel, rfl, by decide +kernel, by decide +kernel⟩
abbrev N_Until_word : List Str := ["self"]
abbrev P_Until_word : List Str := ["self"]
theorem sc_Until_word : FnScope N_Until_word P_Until_word (defScope s_Until_word) := ⟨rfl, rfl, rfl, by decide +kernel, rfl, by decide +kernel, by decide +kernel⟩
abbrev N_Yes_word : List Str := ["self"]
abbrev P_Yes_word : List Str := ["self"]
theorem sc_Yes_word : FnScope N_Yes_word P_Yes_word (defScope s_Yes_word) := ⟨rfl, rfl, rfl, by decide +kernel, rfl, by decide +kernel, by decide +kernel⟩
abbrev N_Statement_tree : List Str := ["self", "part"]
abbrev P_Statement_tree : List Str := ["self"]
theorem sc_Statement_tree : FnScope N_Statement_tree P_Statement_tree (defScope s_Statement_tree) := ⟨rfl, rfl, rfl, by decide +kernel, rfl, by decide +kernel, by decide +kernel⟩
abbrev N_Now___init__ : List Str := ["self", "mark"]
abbrev P_Now___init__ : List Str := ["self", "mark"]
theorem sc_Now___init__ : FnScope N_Now___init__ P_Now___init__ (defScope s_Now___init__) := ⟨rfl, rfl, rfl, by decide +kernel, rfl, by decide +kernel, by decide +kernel⟩
abbrev N_OfOne___init__ : List Str := ["self", "inner"]
abbrev P_OfOne___init__ : List Str := ["self", "inner"]
theorem sc_OfOne___init__ : FnScope N_OfOne___init__ P_OfOne___init__ (defScope s_OfOne___init__) := ⟨rfl, rfl, rfl, by decide +kernel, rfl, by decide +kernel, by decide +kernel⟩
abbrev N_OfTwo___init__ : List Str := ["self", "first", "second"]
abbrev P_OfTwo___init__ : List Str := ["self", "first", "second"]
theorem sc_OfTwo___init__ : FnScope N_OfTwo___init__ P_OfTwo___init__ (defScope s_OfTwo___init__) := ⟨rfl, rfl, rfl, by decide +kernel, rfl, by decide +kernel, by decide +kernel⟩
abbrev N_of_one : List Str := ["word", "inner"]
abbrev P_of_one : List Str := ["word", "inner"]
theorem sc_of_one : FnScope N_of_one P_of_one (defScope s_of_one) := ⟨rfl, rfl, rfl, by decide +kernel, rfl, by decide +kernel, by decide +kernel⟩
abbrev N_of_two : List Str := ["word", "first", "second"]
abbrev P_of_two : List Str := ["word", "first", "second"]
theorem sc_of_two : FnScope N_of_two P_of_two (defScope s_of_two) := ⟨rfl, rfl, rfl, by decide +kernel, rfl, by decide +kernel, by decide +kernel⟩
abbrev N_is_form : List Str := ["thing"]
abbrev P_is_form : List Str := ["thing"]
theorem sc_is_form : FnScope N_is_form P_is_form (defScope s_is_form) := ⟨rfl, rfl, rfl, by decide +kernel, rfl, by decide +kernel, by decide +kernel⟩
abbrev N_need_tree : List Str := ["thing", "layer", "deeper", "part"]
abbrev P_need_tree : List Str := ["thing"]
theorem sc_need_tree : FnScope N_need_tree P_need_tree (defScope s_need_tree) := ⟨rfl, rfl, rfl, by decide +kernel, rfl, by decide +kernel, by decide +kernel⟩
abbrev N_built : List Str := ["tree", "parts", "part"]
abbrev P_built : List Str := ["tree"]
theorem sc_built : FnScope N_built P_built (defScope s_built) := ⟨rfl, rfl, rfl, by decide +kernel, rfl, by decide +kernel, by decide +kernel⟩
abbrev N_statement_of : List Str := ["tree"]
abbrev P_statement_of : List Str := ["tree"]
theorem sc_statement_of : FnScope N_statement_of P_statement_of (defScope s_statement_of) := ⟨rfl, rfl, rfl, by decide +kernel, rfl, by decide +kernel, by decide +kernel⟩
abbrev N_soon_of : List Str := ["tree"]
abbrev P_soon_of : List Str := ["tree"]
theorem sc_soon_of : FnScope N_soon_of P_soon_of (defScope s_soon_of) := ⟨rfl, rfl, rfl, by decide +kernel, rfl, by decide +kernel, by decide +kernel⟩
abbrev N_ever_of : List Str := ["tree"]
abbrev P_ever_of : List Str := ["tree"]
theorem sc_ever_of : FnScope N_ever_of P_ever_of (defScope s_ever_of) := ⟨rfl, rfl, rfl, by decide +kernel, rfl, by decide +kernel, by decide +kernel⟩
abbrev N_plain_of : List Str := ["tree", "parts", "part"]
abbrev P_plain_of : List Str := ["tree"]
theorem sc_plain_of : FnScope N_plain_of P_plain_of (defScope s_plain_of) := ⟨rfl, rfl, rfl, by decide +kernel, rfl, by decide +kernel, by decide +kernel⟩
abbrev N_pushed_of : List Str := ["tree", "denied", "word", "part"]
abbrev P_pushed_of : List Str := ["tree", "denied"]
theorem sc_pushed_of : FnScope N_pushed_of P_pushed_of (defScope s_pushed_of) := ⟨rfl, rfl, rfl, by decide +kernel, rfl, by decide +kernel, by decide +kernel⟩
abbrev N_pushed : List Str := ["statement"]
abbrev P_pushed : List Str := ["statement"]
theorem sc_pushed : FnScope N_pushed P_pushed (defScope s_pushed) := ⟨rfl, rfl, rfl, by decide +kernel, rfl, by decide +kernel, by decide +kernel⟩
abbrev N_is_pushed : List Str := ["statement", "tree"]
abbrev P_is_pushed : List Str := ["statement"]
theorem sc_is_pushed : FnScope N_is_pushed P_is_pushed (defScope s_is_pushed) := ⟨rfl, rfl, rfl, by decide +kernel, rfl, by decide +kernel, by decide +kernel⟩
abbrev N__law_begin : List Str := ["_law_script"]
abbrev P__law_begin : List Str := ["_law_script"]
theorem sc__law_begin : FnScope N__law_begin P__law_begin (defScope s__law_begin) := ⟨rfl, rfl, rfl, by decide +kernel, rfl, by decide +kernel, by decide +kernel⟩
abbrev N__law_next : List Str := ["_law_state", "_law_cell"]
abbrev P__law_next : List Str := ["_law_state"]
theorem sc__law_next : FnScope N__law_next P__law_next (defScope s__law_next) := ⟨rfl, rfl, rfl, by decide +kernel, rfl, by decide +kernel, by decide +kernel⟩
abbrev N__law_mark_of : List Str := ["_law_text", "_law_kept"]
abbrev P__law_mark_of : List Str := ["_law_text"]
theorem sc__law_mark_of : FnScope N__law_mark_of P__law_mark_of (defScope s__law_mark_of) := ⟨rfl, rfl, rfl, by decide +kernel, rfl, by decide +kernel, by decide +kernel⟩
abbrev N__law_marks : List Str := ["_law_state", "_law_letters", "_law_signs", "_law_size", "_law_word", "_law_k", "_law_at", "_law_far", "_law_other", "_law_found", "_law_one"]
abbrev P__law_marks : List Str := ["_law_state"]
theorem sc__law_marks : FnScope N__law_marks P__law_marks (defScope s__law_marks) := ⟨rfl, rfl, rfl, by decide +kernel, rfl, by decide +kernel, by decide +kernel⟩
abbrev N__law_leaf : List Str := ["_law_state", "_law_marks_here", "_law_kind"]
abbrev P__law_leaf : List Str := ["_law_state", "_law_marks_here"]
theorem sc__law_leaf : FnScope N__law_leaf P__law_leaf (defScope s__law_leaf) := ⟨rfl, rfl, rfl, by decide +kernel, rfl, by decide +kernel, by decide +kernel⟩
abbrev N__law_tree : List Str := ["_law_state", "_law_marks_here", "_law_left", "_law_room", "_law_kind", "_law_ones", "_law_twos", "_law_first", "_law_one"]
abbrev P__law_tree : List Str := ["_law_state", "_law_marks_here", "_law_left", "_law_room"]
theorem sc__law_tree : FnScope N__law_tree P__law_tree (defScope s__law_tree) := ⟨rfl, rfl, rfl, by decide +kernel, rfl, by decide +kernel, by decide +kernel⟩
abbrev N__law_spoilt : List Str := ["_law_tree_here", "_law_at", "_law_way", "_law_some", "_law_rest", "_law_one"]
abbrev P__law_spoilt : List Str := ["_law_tree_here", "_law_at", "_law_way"]
theorem sc__law_spoilt : FnScope N__law_spoilt P__law_spoilt (defScope s__law_spoilt) := ⟨rfl, rfl, rfl, by decide +kernel, rfl, by decide +kernel, by decide +kernel⟩
abbrev N__law_is_pushed : List Str := ["_law_tree_here", "_law_one"]
abbrev P__law_is_pushed : List Str := ["_law_tree_here"]
theorem sc__law_is_pushed : FnScope N__law_is_pushed P__law_is_pushed (defScope s__law_is_pushed) := ⟨rfl, rfl, rfl, by decide +kernel, rfl, by decide +kernel, by decide +kernel⟩
abbrev N_law : List Str := ["_law_script", "_law_state", "_law_marks_here", "_law_tree_here", "_law_turn", "_law_other", "_law_found"]
abbrev P_law : List Str := ["_law_script"]
theorem sc_law : FnScope N_law P_law (defScope s_law) := ⟨rfl, rfl, rfl, by decide +kernel, rfl, by decide +kernel, by decide +kernel⟩
/-! ### classes, constants -/
def clsN : Nat → Str
  | 2 => "Statement"
  | 3 => "Yes"
  | 4 => "No"
  | 5 => "Now"
  | 6 => "OfOne"
  | 7 => "OfTwo"
  | 8 => "Not"
  | 9 => "Next"
  | 10 => "Before"
  | 11 => "Early"
  | 12 => "Soon"
  | 13 => "Ever"
  | 14 => "Once"
  | 15 => "Sofar"
  | 16 => "Again"
  | 17 => "Settles"
  | 18 => "Both"
  | 19 => "Either"
  | 20 => "Then"
  | 21 => "Until"
  | 22 => "Since"
  | 23 => "Frees"
  | 24 => "Held"
  | _ => ""
def flds : Nat → List Str
  | 5 => ["mark"]
  | 6 => ["one"]
  | 7 => ["one", "other"]
  | 8 => ["one"]
  | 9 => ["one"]
  | 10 => ["one"]
  | 11 => ["one"]
  | 12 => ["one"]
  | 13 => ["one"]
  | 14 => ["one"]
  | 15 => ["one"]
  | 16 => ["one"]
  | 17 => ["one"]
  | 18 => ["one", "other"]
  | 19 => ["one", "other"]
  | 20 => ["one", "other"]
  | 21 => ["one", "other"]
  | 22 => ["one", "other"]
  | 23 => ["one", "other"]
  | 24 => ["one", "other"]
  | _ => []
abbrev nf : Nat → Nat := fun c => (flds c).length
abbrev tb (K : PySem.W.Frag) : Tab := ⟨K, fun c => He.ga K (clsN c), flds⟩
def c_DUALS : List (Str × D) := [("yes", (.str "no")), ("no", (.str "yes")), ("and", (.str "or")), ("or", (.str "and")), ("next", (.str "next")), ("before", (.str "early")), ("early", (.str "before")), ("until", (.str "frees")), ("frees", (.str "until")), ("since", (.str "held")), ("held", (.str "since"))]
def c_FIGURES : D := (.str "0123456789")
def c_MOST_SIGNS : D := (.int 8)
def c_OF_ONE : D := (.tup [(.str "not"), (.str "next"), (.str "before"), (.str "early"), (.str "soon"), (.str "ever"), (.str "once"), (.str "sofar"), (.str "again"), (.str "settles")])
def c_OF_TWO : D := (.tup [(.str "and"), (.str "or"), (.str "then"), (.str "until"), (.str "since"), (.str "frees"), (.str "held")])
def c_SMALL : D := (.str "abcdefghijklmnopqrstuvwxyz")
def ix_mark : Nat → Option Nat
  | 5 => some 0
  | _ => none
def ix_one : Nat → Option Nat
  | 6 => some 0
  | 7 => some 0
  | 8 => some 0
  | 9 => some 0
  | 10 => some 0
  | 11 => some 0
  | 12 => some 0
  | 13 => some 0
  | 14 => some 0
  | 15 => some 0
  | 16 => some 0
  | 17 => some 0
  | 18 => some 0
  | 19 => some 0
  | 20 => some 0
  | 21 => some 0
  | 22 => some 0
  | 23 => some 0
  | 24 => some 0
  | _ => none
def ix_other : Nat → Option Nat
  | 7 => some 1
  | 18 => some 1
  | 19 => some 1
  | 20 => some 1
  | 21 => some 1
  | 22 => some 1
  | 23 => some 1
  | 24 => some 1
  | _ => none
abbrev k0 : Nat → Bool := fun i => i == 0
abbrev kNo : Nat → Bool := fun _ => false
/-! ### the bodies, as plain terms -/
def b_kept_words : MS := (sSeq (sSet 0 (rD (ret (.str "yes no not and or then until since frees held next before early soon ever once sofar again settles")))) (sRet (rMt "str" gSplit (eVar 0) (eCons (ret (.str " ")) eNil))))
def F_kept_words : Fn := fnOf 0 1 kNo b_kept_words
def b_is_mark : MS := (sSeq (sIf (cOr (cNot (eTst (eUn (dIsi "str") (eVar 0)))) (cOr (cNot (eTst (eChain dLe dLe (ret (.int 1)) (eOp dLen (eCons (eVar 0) eNil)) (ret c_MOST_SIGNS)))) (eTst (eBin dNotIn (eBin dIx (eVar 0) (ret (.int 0))) (ret c_SMALL))))) (sRet (rD (ret (.bl false)))) sNext) (sRet (rD (eAnd (eOp dAll (eCons (eFz nf (rLc (iText (eVar 0)) (gN 1) cYes (eOr (eBin dIn (eVar 1) (ret c_SMALL)) (eBin dIn (eVar 1) (ret c_FIGURES))) [1])) eNil)) (eBin dNotIn (eVar 0) (eFz nf (rCall 0 F_kept_words [] aNil)))))))
def F_is_mark : Fn := fnOf 1 2 kNo b_is_mark
def b_Statement_word : MS := (sRet (rD (ret (.str ""))))
def F_Statement_word : Fn := fnOf 1 1 kNo b_Statement_word
def b_Statement_inner : MS := (sRet (rLst eNil))
def F_Statement_inner : Fn := fnOf 1 1 kNo b_Statement_inner
def b_Again_word : MS := (sRet (rD (ret (.str "again"))))
def F_Again_word : Fn := fnOf 1 1 kNo b_Again_word
def b_Before_word : MS := (sRet (rD (ret (.str "before"))))
def F_Before_word : Fn := fnOf 1 1 kNo b_Before_word
def b_Both_word : MS := (sRet (rD (ret (.str "and"))))
def F_Both_word : Fn := fnOf 1 1 kNo b_Both_word
def b_Early_word : MS := (sRet (rD (ret (.str "early"))))
def F_Early_word : Fn := fnOf 1 1 kNo b_Early_word
def b_Either_word : MS := (sRet (rD (ret (.str "or"))))
def F_Either_word : Fn := fnOf 1 1 kNo b_Either_word
def b_Ever_word : MS := (sRet (rD (ret (.str "ever"))))
def F_Ever_word : Fn := fnOf 1 1 kNo b_Ever_word
def b_Frees_word : MS := (sRet (rD (ret (.str "frees"))))
def F_Frees_word : Fn := fnOf 1 1 kNo b_Frees_word
def b_Held_word : MS := (sRet (rD (ret (.str "held"))))
def F_Held_word : Fn := fnOf 1 1 kNo b_Held_word
def b_Next_word : MS := (sRet (rD (ret (.str "next"))))
def F_Next_word : Fn := fnOf 1 1 kNo b_Next_word
def b_No_word : MS := (sRet (rD (ret (.str "no"))))
def F_No_word : Fn := fnOf 1 1 kNo b_No_word
def b_Not_word : MS := (sRet (rD (ret (.str "not"))))
def F_Not_word : Fn := fnOf 1 1 kNo b_Not_word
def b_Now_tree : MS := (sRet (rD (eTup (eCons (ret (.str "now")) (eCons (eFld ix_mark (eVar 0)) eNil)))))
def F_Now_tree : Fn := fnOf 1 1 kNo b_Now_tree
def b_Now_word : MS := (sRet (rD (ret (.str "now"))))
def F_Now_word : Fn := fnOf 1 1 kNo b_Now_word
def b_OfOne_inner : MS := (sRet (rLst (eCons (eFld ix_one (eVar 0)) eNil)))
def F_OfOne_inner : Fn := fnOf 1 1 kNo b_OfOne_inner
def b_OfTwo_inner : MS := (sRet (rLst (eCons (eFld ix_one (eVar 0)) (eCons (eFld ix_other (eVar 0)) eNil))))
def F_OfTwo_inner : Fn := fnOf 1 1 kNo b_OfTwo_inner
def b_Once_word : MS := (sRet (rD (ret (.str "once"))))
def F_Once_word : Fn := fnOf 1 1 kNo b_Once_word
def b_Settles_word : MS := (sRet (rD (ret (.str "settles"))))
def F_Settles_word : Fn := fnOf 1 1 kNo b_Settles_word
def b_Since_word : MS := (sRet (rD (ret (.str "since"))))
def F_Since_word : Fn := fnOf 1 1 kNo b_Since_word
def b_Sofar_word : MS := (sRet (rD (ret (.str "sofar"))))
def F_Sofar_word : Fn := fnOf 1 1 kNo b_Sofar_word
def b_Soon_word : MS := (sRet (rD (ret (.str "soon"))))
def F_Soon_word : Fn := fnOf 1 1 kNo b_Soon_word
def b_Then_word : MS := (sRet (rD (ret (.str "then"))))
def F_Then_word : Fn := fnOf 1 1 kNo b_Then_word
def b_Until_word : MS := (sRet (rD (ret (.str "until"))))
def F_Until_word : Fn := fnOf 1 1 kNo b_Until_word
def b_Yes_word : MS := (sRet (rD (ret (.str "yes"))))
def F_Yes_word : Fn := fnOf 1 1 kNo b_Yes_word
def tab_inner : Nat → Option Fn
  | 2 => some F_Statement_inner
  | 3 => some F_Statement_inner
  | 4 => some F_Statement_inner
  | 5 => some F_Statement_inner
  | 6 => some F_OfOne_inner
  | 7 => some F_OfTwo_inner
  | 8 => some F_OfOne_inner
  | 9 => some F_OfOne_inner
  | 10 => some F_OfOne_inner
  | 11 => some F_OfOne_inner
  | 12 => some F_OfOne_inner
  | 13 => some F_OfOne_inner
  | 14 => some F_OfOne_inner
  | 15 => some F_OfOne_inner
  | 16 => some F_OfOne_inner
  | 17 => some F_OfOne_inner
  | 18 => some F_OfTwo_inner
  | 19 => some F_OfTwo_inner
  | 20 => some F_OfTwo_inner
  | 21 => some F_OfTwo_inner
  | 22 => some F_OfTwo_inner
  | 23 => some F_OfTwo_inner
  | 24 => some F_OfTwo_inner
  | _ => none
def tab_word : Nat → Option Fn
  | 2 => some F_Statement_word
  | 3 => some F_Yes_word
  | 4 => some F_No_word
  | 5 => some F_Now_word
  | 6 => some F_Statement_word
  | 7 => some F_Statement_word
  | 8 => some F_Not_word
  | 9 => some F_Next_word
  | 10 => some F_Before_word
  | 11 => some F_Early_word
  | 12 => some F_Soon_word
  | 13 => some F_Ever_word
  | 14 => some F_Once_word
  | 15 => some F_Sofar_word
  | 16 => some F_Again_word
  | 17 => some F_Settles_word
  | 18 => some F_Both_word
  | 19 => some F_Either_word
  | 20 => some F_Then_word
  | 21 => some F_Until_word
  | 22 => some F_Since_word
  | 23 => some F_Frees_word
  | 24 => some F_Held_word
  | _ => none
def b_Statement_tree (tab_tree_n : Nat → Option Fn) : MS := (sRet (rD (eBin dAdd (eTup (eCons (eFz nf (rMeth 1 tab_word (eVar 0) aNil)) eNil)) (eOp dTuple (eCons (eFz nf (rLc (iLst (eFz nf (rMeth 1 tab_inner (eVar 0) aNil))) (gN 1) cYes (eFz nf (rMeth 1 tab_tree_n (eVar 1) aNil)) [1])) eNil)))))
def tabOf_tree (f : Fn) : Nat → Option Fn
  | 2 => some f
  | 3 => some f
  | 4 => some f
  | 5 => some F_Now_tree
  | 6 => some f
  | 7 => some f
  | 8 => some f
  | 9 => some f
  | 10 => some f
  | 11 => some f
  | 12 => some f
  | 13 => some f
  | 14 => some f
  | 15 => some f
  | 16 => some f
  | 17 => some f
  | 18 => some f
  | 19 => some f
  | 20 => some f
  | 21 => some f
  | 22 => some f
  | 23 => some f
  | 24 => some f
  | _ => none
def F_Statement_tree : Nat → Fn
  | 0 => fnOf 1 2 kNo sNever
  | n + 1 => fnOf 1 2 kNo (b_Statement_tree (tabOf_tree (F_Statement_tree n)))
def tab_tree (n : Nat) : Nat → Option Fn := tabOf_tree (F_Statement_tree n)
def b_Now___init__ : MS := (sSeq (sIf (cNot (eTst (eFz nf (rCall 1 F_is_mark [] (aV (eVar 1) aNil))))) sNever sNext) (sFldSet 0 ix_mark (eVar 1)))
def F_Now___init__ : Fn := fnOf 2 2 k0 b_Now___init__
def b_OfOne___init__ : MS := (sFldSet 0 ix_one (eVar 1))
def F_OfOne___init__ : Fn := fnOf 2 2 k0 b_OfOne___init__
def b_OfTwo___init__ : MS := (sSeq (sFldSet 0 ix_one (eVar 1)) (sFldSet 0 ix_other (eVar 2)))
def F_OfTwo___init__ : Fn := fnOf 3 3 k0 b_OfTwo___init__
def b_of_one : MS := (sSeq (sIf (eTst (eBin dEq (eVar 0) (ret (.str "not")))) (sRet (rMake 8 1 2 F_OfOne___init__ (aV (eVar 1) aNil))) sNext) (sSeq (sIf (eTst (eBin dEq (eVar 0) (ret (.str "next")))) (sRet (rMake 9 1 2 F_OfOne___init__ (aV (eVar 1) aNil))) sNext) (sSeq (sIf (eTst (eBin dEq (eVar 0) (ret (.str "before")))) (sRet (rMake 10 1 2 F_OfOne___init__ (aV (eVar 1) aNil))) sNext) (sSeq (sIf (eTst (eBin dEq (eVar 0) (ret (.str "early")))) (sRet (rMake 11 1 2 F_OfOne___init__ (aV (eVar 1) aNil))) sNext) (sSeq (sIf (eTst (eBin dEq (eVar 0) (ret (.str "soon")))) (sRet (rMake 12 1 2 F_OfOne___init__ (aV (eVar 1) aNil))) sNext) (sSeq (sIf (eTst (eBin dEq (eVar 0) (ret (.str "ever")))) (sRet (rMake 13 1 2 F_OfOne___init__ (aV (eVar 1) aNil))) sNext) (sSeq (sIf (eTst (eBin dEq (eVar 0) (ret (.str "once")))) (sRet (rMake 14 1 2 F_OfOne___init__ (aV (eVar 1) aNil))) sNext) (sSeq (sIf (eTst (eBin dEq (eVar 0) (ret (.str "sofar")))) (sRet (rMake 15 1 2 F_OfOne___init__ (aV (eVar 1) aNil))) sNext) (sSeq (sIf (eTst (eBin dEq (eVar 0) (ret (.str "again")))) (sRet (rMake 16 1 2 F_OfOne___init__ (aV (eVar 1) aNil))) sNext) (sSeq (sIf (eTst (eBin dEq (eVar 0) (ret (.str "settles")))) (sRet (rMake 17 1 2 F_OfOne___init__ (aV (eVar 1) aNil))) sNext) (sRet (rD (ret .non)))))))))))))
def F_of_one : Fn := fnOf 2 2 kNo b_of_one
def b_of_two : MS := (sSeq (sIf (eTst (eBin dEq (eVar 0) (ret (.str "and")))) (sRet (rMake 18 2 3 F_OfTwo___init__ (aV (eVar 1) (aV (eVar 2) aNil)))) sNext) (sSeq (sIf (eTst (eBin dEq (eVar 0) (ret (.str "or")))) (sRet (rMake 19 2 3 F_OfTwo___init__ (aV (eVar 1) (aV (eVar 2) aNil)))) sNext) (sSeq (sIf (eTst (eBin dEq (eVar 0) (ret (.str "then")))) (sRet (rMake 20 2 3 F_OfTwo___init__ (aV (eVar 1) (aV (eVar 2) aNil)))) sNext) (sSeq (sIf (eTst (eBin dEq (eVar 0) (ret (.str "until")))) (sRet (rMake 21 2 3 F_OfTwo___init__ (aV (eVar 1) (aV (eVar 2) aNil)))) sNext) (sSeq (sIf (eTst (eBin dEq (eVar 0) (ret (.str "since")))) (sRet (rMake 22 2 3 F_OfTwo___init__ (aV (eVar 1) (aV (eVar 2) aNil)))) sNext) (sSeq (sIf (eTst (eBin dEq (eVar 0) (ret (.str "frees")))) (sRet (rMake 23 2 3 F_OfTwo___init__ (aV (eVar 1) (aV (eVar 2) aNil)))) sNext) (sSeq (sIf (eTst (eBin dEq (eVar 0) (ret (.str "held")))) (sRet (rMake 24 2 3 F_OfTwo___init__ (aV (eVar 1) (aV (eVar 2) aNil)))) sNext) (sRet (rD (ret .non))))))))))
def F_of_two : Fn := fnOf 3 3 kNo b_of_two
def b_is_form : MS := (sSeq (sIf (cOr (cNot (eTst (eUn (dIsi "tuple") (eVar 0)))) (cOr (eTst (eBin dEq (eOp dLen (eCons (eVar 0) eNil)) (ret (.int 0)))) (cNot (eTst (eUn (dIsi "str") (eBin dIx (eVar 0) (ret (.int 0)))))))) (sRet (rD (ret (.bl false)))) sNext) (sSeq (sIf (eTst (eBin dIn (eBin dIx (eVar 0) (ret (.int 0))) (eTup (eCons (ret (.str "yes")) (eCons (ret (.str "no")) eNil))))) (sRet (rD (eBin dEq (eOp dLen (eCons (eVar 0) eNil)) (ret (.int 1))))) sNext) (sSeq (sIf (eTst (eBin dEq (eBin dIx (eVar 0) (ret (.int 0))) (ret (.str "now")))) (sRet (rD (eAnd (eBin dEq (eOp dLen (eCons (eVar 0) eNil)) (ret (.int 2))) (eFz nf (rCall 1 F_is_mark [] (aV (eBin dIx (eVar 0) (ret (.int 1))) aNil)))))) sNext) (sRet (rD (eOr (eAnd (eBin dIn (eBin dIx (eVar 0) (ret (.int 0))) (ret c_OF_ONE)) (eBin dEq (eOp dLen (eCons (eVar 0) eNil)) (ret (.int 2)))) (eAnd (eBin dIn (eBin dIx (eVar 0) (ret (.int 0))) (ret c_OF_TWO)) (eBin dEq (eOp dLen (eCons (eVar 0) eNil)) (ret (.int 3))))))))))
def F_is_form : Fn := fnOf 1 1 kNo b_is_form
def b_need_tree : MS := (sSeq (sSet 1 (rLst (eCons (eVar 0) eNil))) (whileL (eTst (eBin dNe (eVar 1) (eFz nf (rLst eNil)))) (sSeq (sIf (cNot (eTst (eOp dAll (eCons (eFz nf (rLc (iLst (eVar 1)) (gN 3) cYes (eFz nf (rCall 1 F_is_form [] (aV (eVar 3) aNil))) [3])) eNil)))) sNever sNext) (sSeq (sSet 2 (rLst eNil)) (sSeq (sFor (iLst (eVar 1)) (gN 3) (sExtA 2 (eIf (eTst (eBin dNe (eBin dIx (eVar 3) (ret (.int 0))) (ret (.str "now")))) (eSl (eVar 3) (oSome (ret (.int 1))) oNone) (eTup eNil)))) (sSet 1 (rD (eVar 2)))))) 100))
def F_need_tree : Fn := fnOf 1 4 kNo b_need_tree
def b_built (f : Fn) : MS := (sSeq (sIf (eTst (eBin dEq (eBin dIx (eVar 0) (ret (.int 0))) (ret (.str "now")))) (sRet (rMake 5 1 2 F_Now___init__ (aV (eBin dIx (eVar 0) (ret (.int 1))) aNil))) sNext) (sSeq (sSet 1 (rLc (iTupl (eSl (eVar 0) (oSome (ret (.int 1))) oNone)) (gN 2) cYes (eFz nf (rCall 1 f [] (aV (eVar 2) aNil))) [2])) (sSeq (sIf (eTst (eBin dEqL (eVar 1) (eFz nf (rLst eNil)))) (sRet (rIf (eTst (eBin dEq (eBin dIx (eVar 0) (ret (.int 0))) (ret (.str "yes")))) (rMakeN 3) (rMakeN 4))) sNext) (sRet (rIf (eTst (eBin dEq (eOp dLen (eCons (eVar 1) eNil)) (ret (.int 1)))) (rCall 2 F_of_one [] (aV (eBin dIx (eVar 0) (ret (.int 0))) (aV (eBin dIx (eVar 1) (ret (.int 0))) aNil))) (rCall 3 F_of_two [] (aV (eBin dIx (eVar 0) (ret (.int 0))) (aV (eBin dIx (eVar 1) (ret (.int 0))) (aV (eBin dIx (eVar 1) (ret (.int 1))) aNil)))))))))
def F_built : Nat → Fn
  | 0 => fnOf 1 3 kNo sNever
  | n + 1 => fnOf 1 3 kNo (b_built (F_built n))
def b_statement_of : MS := (sSeq (sDrop (rCall 1 F_need_tree [] (aV (eVar 0) aNil))) (sRet (rCall 1 (F_built 40) [] (aV (eVar 0) aNil))))
def F_statement_of : Fn := fnOf 1 1 kNo b_statement_of
def b_soon_of : MS := (sRet (rD (eTup (eCons (ret (.str "until")) (eCons (eTup (eCons (ret (.str "yes")) eNil)) (eCons (eVar 0) eNil))))))
def F_soon_of : Fn := fnOf 1 1 kNo b_soon_of
def b_ever_of : MS := (sRet (rD (eTup (eCons (ret (.str "frees")) (eCons (eTup (eCons (ret (.str "no")) eNil)) (eCons (eVar 0) eNil))))))
def F_ever_of : Fn := fnOf 1 1 kNo b_ever_of
def b_plain_of (f : Fn) : MS := (sSeq (sIf (eTst (eBin dEq (eBin dIx (eVar 0) (ret (.int 0))) (ret (.str "now")))) (sRet (rD (eVar 0))) sNext) (sSeq (sSet 1 (rLc (iTupl (eSl (eVar 0) (oSome (ret (.int 1))) oNone)) (gN 2) cYes (eFz nf (rCall 1 f [] (aV (eVar 2) aNil))) [2])) (sSeq (sIf (eTst (eBin dEq (eBin dIx (eVar 0) (ret (.int 0))) (ret (.str "soon")))) (sRet (rCall 1 F_soon_of [] (aV (eBin dIx (eVar 1) (ret (.int 0))) aNil))) sNext) (sSeq (sIf (eTst (eBin dEq (eBin dIx (eVar 0) (ret (.int 0))) (ret (.str "ever")))) (sRet (rCall 1 F_ever_of [] (aV (eBin dIx (eVar 1) (ret (.int 0))) aNil))) sNext) (sSeq (sIf (eTst (eBin dEq (eBin dIx (eVar 0) (ret (.int 0))) (ret (.str "once")))) (sRet (rD (eTup (eCons (ret (.str "since")) (eCons (eTup (eCons (ret (.str "yes")) eNil)) (eCons (eBin dIx (eVar 1) (ret (.int 0))) eNil)))))) sNext) (sSeq (sIf (eTst (eBin dEq (eBin dIx (eVar 0) (ret (.int 0))) (ret (.str "sofar")))) (sRet (rD (eTup (eCons (ret (.str "held")) (eCons (eTup (eCons (ret (.str "no")) eNil)) (eCons (eBin dIx (eVar 1) (ret (.int 0))) eNil)))))) sNext) (sSeq (sIf (eTst (eBin dEq (eBin dIx (eVar 0) (ret (.int 0))) (ret (.str "again")))) (sRet (rCall 1 F_ever_of [] (aV (eFz nf (rCall 1 F_soon_of [] (aV (eBin dIx (eVar 1) (ret (.int 0))) aNil))) aNil))) sNext) (sSeq (sIf (eTst (eBin dEq (eBin dIx (eVar 0) (ret (.int 0))) (ret (.str "settles")))) (sRet (rCall 1 F_soon_of [] (aV (eFz nf (rCall 1 F_ever_of [] (aV (eBin dIx (eVar 1) (ret (.int 0))) aNil))) aNil))) sNext) (sSeq (sIf (eTst (eBin dEq (eBin dIx (eVar 0) (ret (.int 0))) (ret (.str "then")))) (sRet (rD (eTup (eCons (ret (.str "or")) (eCons (eTup (eCons (ret (.str "not")) (eCons (eBin dIx (eVar 1) (ret (.int 0))) eNil))) (eCons (eBin dIx (eVar 1) (ret (.int 1))) eNil)))))) sNext) (sRet (rD (eBin dAdd (eTup (eCons (eBin dIx (eVar 0) (ret (.int 0))) eNil)) (eOp dTuple (eCons (eVar 1) eNil))))))))))))))
def F_plain_of : Nat → Fn
  | 0 => fnOf 1 3 kNo sNever
  | n + 1 => fnOf 1 3 kNo (b_plain_of (F_plain_of n))
def b_pushed_of (f : Fn) : MS := (sSeq (sIf (eTst (eBin dEq (eBin dIx (eVar 0) (ret (.int 0))) (ret (.str "not")))) (sRet (rCall 2 f [] (aV (eBin dIx (eVar 0) (ret (.int 1))) (aV (eNot (eVar 1)) aNil)))) sNext) (sSeq (sIf (cAnd (eTst (eBin dEq (eBin dIx (eVar 0) (ret (.int 0))) (ret (.str "now")))) (eTst (eVar 1))) (sRet (rD (eTup (eCons (ret (.str "not")) (eCons (eVar 0) eNil))))) sNext) (sSeq (sIf (eTst (eBin dEq (eBin dIx (eVar 0) (ret (.int 0))) (ret (.str "now")))) (sRet (rD (eVar 0))) sNext) (sSeq (sSet 2 (rD (eBin dIx (eVar 0) (ret (.int 0))))) (sSeq (sIf (eTst (eVar 1)) (sSet 2 (rD (eUn (dGd c_DUALS) (eVar 2)))) sNext) (sRet (rD (eBin dAdd (eTup (eCons (eVar 2) eNil)) (eOp dTuple (eCons (eFz nf (rLc (iTupl (eSl (eVar 0) (oSome (ret (.int 1))) oNone)) (gN 3) cYes (eFz nf (rCall 2 f [] (aV (eVar 3) (aV (eVar 1) aNil)))) [3])) eNil))))))))))
def F_pushed_of : Nat → Fn
  | 0 => fnOf 2 4 kNo sNever
  | n + 1 => fnOf 2 4 kNo (b_pushed_of (F_pushed_of n))
def b_pushed : MS := (sRet (rCall 1 F_statement_of [] (aV (eFz nf (rCall 2 (F_pushed_of 40) [] (aV (eFz nf (rCall 1 (F_plain_of 40) [] (aV (eFz nf (rMeth 1 (tab_tree 40) (eVar 0) aNil)) aNil))) (aV (ret (.bl false)) aNil)))) aNil)))
def F_pushed : Fn := fnOf 1 1 kNo b_pushed
def b_is_pushed : MS := (sSeq (sSet 1 (rMeth 1 (tab_tree 40) (eVar 0) aNil)) (sRet (rD (eBin dEq (eFz nf (rCall 2 (F_pushed_of 40) [] (aV (eFz nf (rCall 1 (F_plain_of 40) [] (aV (eVar 1) aNil))) (aV (ret (.bl false)) aNil)))) (eVar 1)))))
def F_is_pushed : Fn := fnOf 1 2 kNo b_is_pushed
def b__law_begin : MS := (sRet (rLst (eCons (eBin dAdd (eOp dLen (eCons (eVar 0) eNil)) (ret (.int 7))) (eCons (eVar 0) (eCons (ret (.int 0)) eNil)))))
def F__law_begin : Fn := fnOf 1 1 kNo b__law_begin
def b__law_next : MS := (sSeq (sSet 1 (rD (ret (.int 0)))) (sSeq (sIf (tFull nf (eTst (eBin dGt (eOp dLen (eCons (eBin dIx (eVar 0) (ret (.int 1))) eNil)) (ret (.int 0))))) (sSet 1 (rD (eFull nf (eBin dIx (eBin dIx (eVar 0) (ret (.int 1))) (eBin dMod (eBin dIx (eVar 0) (ret (.int 2))) (eOp dLen (eCons (eBin dIx (eVar 0) (ret (.int 1))) eNil))))))) sNext) (sSeq (sSub 0 (ret (.int 2)) (eFull nf (eBin dAdd (eBin dIx (eVar 0) (ret (.int 2))) (ret (.int 1))))) (sSeq (sSub 0 (ret (.int 0)) (eFull nf (eBin dMod (eBin dAdd (eBin dAdd (eBin dMul (eBin dIx (eVar 0) (ret (.int 0))) (ret (.int 48271))) (eVar 1)) (eBin dIx (eVar 0) (ret (.int 2)))) (ret (.int 2147483647))))) (sRet (rD (eFull nf (eBin dMod (eBin dAdd (eBin dMul (eBin dIx (eVar 0) (ret (.int 0))) (eBin dIx (eVar 0) (ret (.int 0)))) (eBin dMul (ret (.int 16807)) (eBin dIx (eVar 0) (ret (.int 0))))) (ret (.int 2147483629))))))))))
def F__law_next : Fn := fnOf 1 2 k0 b__law_next
def b__law_mark_of : MS := (sSeq (sSet 1 (rLst (eCons (ret (.str "yes")) (eCons (ret (.str "no")) (eCons (ret (.str "not")) (eCons (ret (.str "and")) (eCons (ret (.str "or")) (eCons (ret (.str "then")) (eCons (ret (.str "until")) (eCons (ret (.str "since")) (eCons (ret (.str "frees")) (eCons (ret (.str "held")) (eCons (ret (.str "next")) (eCons (ret (.str "before")) (eCons (ret (.str "early")) eNil))))))))))))))) (sSeq (sIf (eTst (eBin dIn (eVar 0) (eFz nf (rBin gCat (eVar 1) (eFz nf (rLst (eCons (ret (.str "soon")) (eCons (ret (.str "ever")) (eCons (ret (.str "once")) (eCons (ret (.str "sofar")) (eCons (ret (.str "again")) (eCons (ret (.str "settles")) eNil)))))))))))) (sRet (rD (eBin dAdd (eVar 0) (ret (.str "0"))))) sNext) (sRet (rD (eVar 0)))))
def F__law_mark_of : Fn := fnOf 1 2 kNo b__law_mark_of
def b__law_marks : MS := (sSeq (sSet 1 (rD (ret (.str "abcdefghijklmnopqrstuvwxyz")))) (sSeq (sSet 2 (rD (eBin dAdd (eVar 1) (ret (.str "0123456789"))))) (sSeq (sSet 3 (rD (eBin dIx (eFz nf (rLst (eCons (ret (.int 1)) (eCons (ret (.int 2)) (eCons (eBin dAdd (ret (.int 1)) (eBin dMod (eFz nf (rCall 1 F__law_next [] (aO 0 aNil))) (ret (.int 7)))) eNil))))) (eBin dMod (eFz nf (rCall 1 F__law_next [] (aO 0 aNil))) (ret (.int 3)))))) (sSeq (sSet 4 (rD (eBin dIx (eVar 1) (eBin dMod (eFz nf (rCall 1 F__law_next [] (aO 0 aNil))) (ret (.int 26)))))) (sSeq (sFor (iR1 (eCons (eBin dSub (eVar 3) (ret (.int 1))) eNil)) (gN 5) (sSet 4 (rD (eBin dAdd (eVar 4) (eBin dIx (eVar 2) (eBin dMod (eFz nf (rCall 1 F__law_next [] (aO 0 aNil))) (ret (.int 36)))))))) (sSeq (sIf (eTst (eBin dEq (eBin dMod (eFz nf (rCall 1 F__law_next [] (aO 0 aNil))) (ret (.int 8))) (ret (.int 1)))) (sSet 4 (rD (eBin dIx (eFz nf (rLst (eCons (ret (.str "no")) (eCons (ret (.str "yes")) (eCons (ret (.str "until")) (eCons (ret (.str "next")) eNil)))))) (eBin dMod (eFz nf (rCall 1 F__law_next [] (aO 0 aNil))) (ret (.int 4)))))) sNext) (sSeq (sSet 6 (rD (eBin dMod (eFz nf (rCall 1 F__law_next [] (aO 0 aNil))) (eOp dLen (eCons (eVar 4) eNil))))) (sSeq (sSet 7 (rD (eBin dAdd (ret (.int 1)) (eBin dMod (eFz nf (rCall 1 F__law_next [] (aO 0 aNil))) (ret (.int 9)))))) (sSeq (sSet 8 (rD (eBin dIx (eVar 1) (eBin dMod (eBin dAdd (eMt "str" dSIndex (eVar 1) (eCons (eBin dIx (eVar 4) (ret (.int 0))) eNil)) (eVar 7)) (ret (.int 26)))))) (sSeq (sIf (eTst (eBin dGt (eVar 6) (ret (.int 0)))) (sSet 8 (rD (eBin dIx (eVar 2) (eBin dMod (eBin dAdd (eMt "str" dSIndex (eVar 2) (eCons (eBin dIx (eVar 4) (eVar 6)) eNil)) (eVar 7)) (ret (.int 36)))))) sNext) (sSeq (sSet 9 (rLst (eCons (eVar 4) (eCons (eBin dAdd (eVar 4) (eBin dIx (eVar 2) (eVar 7))) (eCons (eBin dAdd (eBin dAdd (eSl (eVar 4) oNone (oSome (eVar 6))) (eVar 8)) (eSl (eVar 4) (oSome (eBin dAdd (eVar 6) (ret (.int 1)))) oNone)) eNil))))) (sRet (rLc (iLst (eVar 9)) (gN 10) cYes (eFz nf (rCall 1 F__law_mark_of [] (aV (eVar 10) aNil))) [10])))))))))))))
def F__law_marks : Fn := fnOf 1 11 k0 b__law_marks
def b__law_leaf : MS := (sSeq (sSet 2 (rD (eBin dMod (eFz nf (rCall 1 F__law_next [] (aO 0 aNil))) (ret (.int 12))))) (sSeq (sIf (eTst (eBin dLt (eVar 2) (ret (.int 2)))) (sRet (rD (eTup (eCons (eBin dIx (eFz nf (rLst (eCons (ret (.str "yes")) (eCons (ret (.str "no")) eNil)))) (eVar 2)) eNil)))) sNext) (sRet (rD (eTup (eCons (ret (.str "now")) (eCons (eBin dIx (eVar 1) (eBin dMod (eFz nf (rCall 1 F__law_next [] (aO 0 aNil))) (eOp dLen (eCons (eVar 1) eNil)))) eNil)))))))
def F__law_leaf : Fn := fnOf 2 3 k0 b__law_leaf
def b__law_tree (f : Fn) : MS := (sSeq (sSet 4 (rCall 1 F__law_next [] (aO 0 aNil))) (sSeq (sIf (cOr (eTst (eBin dLt (eVar 2) (ret (.int 2)))) (cOr (eTst (eBin dLt (eVar 3) (ret (.int 2)))) (eTst (eBin dEq (eBin dMod (eVar 4) (ret (.int 11))) (ret (.int 0)))))) (sRet (rCall 2 F__law_leaf [] (aO 0 (aV (eVar 1) aNil)))) sNext) (sSeq (sSet 5 (rLst (eCons (ret (.str "not")) (eCons (ret (.str "not")) (eCons (ret (.str "next")) (eCons (ret (.str "before")) (eCons (ret (.str "early")) (eCons (ret (.str "soon")) (eCons (ret (.str "ever")) (eCons (ret (.str "once")) (eCons (ret (.str "sofar")) (eCons (ret (.str "again")) (eCons (ret (.str "settles")) eNil))))))))))))) (sSeq (sSet 6 (rLst (eCons (ret (.str "and")) (eCons (ret (.str "or")) (eCons (ret (.str "then")) (eCons (ret (.str "until")) (eCons (ret (.str "since")) (eCons (ret (.str "frees")) (eCons (ret (.str "held")) eNil))))))))) (sSeq (sIf (cOr (eTst (eBin dEq (eVar 2) (ret (.int 2)))) (eTst (eBin dLt (eBin dMod (eVar 4) (ret (.int 5))) (ret (.int 2))))) (sRet (rD (eTup (eCons (eBin dIx (eVar 5) (eBin dMod (eBin dDiv (eVar 4) (ret (.int 55))) (ret (.int 11)))) (eCons (eFz nf (rCall 4 f [] (aO 0 (aV (eVar 1) (aV (eBin dSub (eVar 2) (ret (.int 1))) (aV (eBin dSub (eVar 3) (ret (.int 1))) aNil)))))) eNil))))) sNext) (sSeq (sSet 7 (rD (eBin dAdd (ret (.int 1)) (eBin dMod (eFz nf (rCall 1 F__law_next [] (aO 0 aNil))) (eBin dSub (eVar 2) (ret (.int 2))))))) (sSeq (sSet 8 (rCall 4 f [] (aO 0 (aV (eVar 1) (aV (eVar 7) (aV (eBin dSub (eVar 3) (ret (.int 1))) aNil)))))) (sRet (rD (eTup (eCons (eBin dIx (eVar 6) (eBin dMod (eBin dDiv (eVar 4) (ret (.int 55))) (ret (.int 7)))) (eCons (eVar 8) (eCons (eFz nf (rCall 4 f [] (aO 0 (aV (eVar 1) (aV (eBin dSub (eBin dSub (eVar 2) (ret (.int 1))) (eVar 7)) (aV (eBin dSub (eVar 3) (ret (.int 1))) aNil)))))) eNil)))))))))))))
def F__law_tree : Nat → Fn
  | 0 => fnOf 4 9 k0 sNever
  | n + 1 => fnOf 4 9 k0 (b__law_tree (F__law_tree n))
def b__law_spoilt (f : Fn) : MS := (sSeq (sIf (eTst (eBin dEq (eVar 1) (ret (.int 0)))) (sSeq (sSet 3 (rLst (eCons (eTup (eCons (ret (.str "not")) (eCons (eVar 0) eNil))) (eCons (eTup (eCons (ret (.str "not")) (eCons (eTup (eCons (ret (.str "not")) (eCons (eVar 0) eNil))) eNil))) (eCons (eTup (eCons (ret (.str "soon")) (eCons (eVar 0) eNil))) (eCons (eTup (eCons (ret (.str "then")) (eCons (eTup (eCons (ret (.str "yes")) eNil)) (eCons (eVar 0) eNil)))) (eCons (eTup (eCons (ret (.str "again")) (eCons (eVar 0) eNil))) (eCons (eVar 0) eNil)))))))) (sSeq (sSet 3 (rBin gCat (eVar 3) (eFz nf (rLst (eCons (eTup (eCons (ret (.str "sofar")) (eCons (eVar 0) eNil))) (eCons (eTup (eCons (ret (.str "once")) (eCons (eVar 0) eNil))) (eCons (eTup (eCons (ret (.str "ever")) (eCons (eVar 0) eNil))) (eCons (eTup (eCons (ret (.str "settles")) (eCons (eVar 0) eNil))) (eCons (eTup (eCons (ret (.str "before")) (eCons (eVar 0) eNil))) eNil))))))))) (sRet (rD (eTup (eCons (eBin dIx (eVar 3) (eBin dMod (eVar 2) (ret (.int 11)))) (eCons (eUn dNeg (ret (.int 1))) eNil))))))) sNext) (sSeq (sSet 1 (rD (eBin dSub (eVar 1) (ret (.int 1))))) (sSeq (sIf (eTst (eBin dEq (eBin dIx (eVar 0) (ret (.int 0))) (ret (.str "now")))) (sRet (rD (eTup (eCons (eVar 0) (eCons (eVar 1) eNil))))) sNext) (sSeq (sSet 4 (rLst eNil)) (sSeq (sFor (iTupl (eSl (eVar 0) (oSome (ret (.int 1))) oNone)) (gN 5) (sSeq (sIf (eTst (eBin dGe (eVar 1) (ret (.int 0)))) (sAsg (eFz nf (rCall 3 f [] (aV (eVar 5) (aV (eVar 1) (aV (eVar 2) aNil))))) (gT 2 (gsC (gN 5) (gsC (gN 1) gsN)))) sNext) (sApp' 4 (eVar 5)))) (sRet (rD (eTup (eCons (eBin dAdd (eTup (eCons (eBin dIx (eVar 0) (ret (.int 0))) eNil)) (eOp dTuple (eCons (eVar 4) eNil))) (eCons (eVar 1) eNil))))))))))
def F__law_spoilt : Nat → Fn
  | 0 => fnOf 3 6 kNo sNever
  | n + 1 => fnOf 3 6 kNo (b__law_spoilt (F__law_spoilt n))
def b__law_is_pushed (f : Fn) : MS := (sSeq (sIf (eTst (eBin dEq (eBin dIx (eVar 0) (ret (.int 0))) (ret (.str "now")))) (sRet (rD (ret (.bl true)))) sNext) (sSeq (sIf (eTst (eBin dEq (eBin dIx (eVar 0) (ret (.int 0))) (ret (.str "not")))) (sRet (rD (eBin dEq (eBin dIx (eBin dIx (eVar 0) (ret (.int 1))) (ret (.int 0))) (ret (.str "now"))))) sNext) (sSeq (sIf (eTst (eBin dIn (eBin dIx (eVar 0) (ret (.int 0))) (eTup (eCons (ret (.str "soon")) (eCons (ret (.str "ever")) (eCons (ret (.str "once")) (eCons (ret (.str "sofar")) (eCons (ret (.str "again")) (eCons (ret (.str "settles")) (eCons (ret (.str "then")) eNil)))))))))) (sRet (rD (ret (.bl false)))) sNext) (sRet (rD (eOp dAll (eCons (eFz nf (rLc (iSeq (eSl (eVar 0) (oSome (ret (.int 1))) oNone)) (gN 1) cYes (eFz nf (rCall 1 f [] (aV (eVar 1) aNil))) [1])) eNil)))))))
def F__law_is_pushed : Nat → Fn
  | 0 => fnOf 1 2 kNo sNever
  | n + 1 => fnOf 1 2 kNo (b__law_is_pushed (F__law_is_pushed n))
def b_law : MS := (sSeq (sSet 1 (rCall 1 F__law_begin [] (aV (eVar 0) aNil))) (sSeq (sSet 2 (rCall 1 F__law_marks [] (aO 1 aNil))) (sSeq (sSet 3 (rMeth 1 (tab_tree 40) (eFz nf (rCall 1 F_pushed [] (aV (eFz nf (rCall 1 F_statement_of [] (aV (eFz nf (rCall 4 (F__law_tree 40) [] (aO 1 (aV (eVar 2) (aV (eBin dAdd (ret (.int 3)) (eBin dMod (eFz nf (rCall 1 F__law_next [] (aO 1 aNil))) (ret (.int 10)))) (aV (ret (.int 6)) aNil)))))) aNil))) aNil))) aNil)) (sSeq (sFor (iR1 (eCons (ret (.int 3)) eNil)) (gN 4) (sSeq (sSet 5 (rD (eBin dIx (eFz nf (rCall 3 (F__law_spoilt 40) [] (aV (eVar 3) (aV (eBin dMod (eFz nf (rCall 1 F__law_next [] (aO 1 aNil))) (ret (.int 12))) (aV (eFz nf (rCall 1 F__law_next [] (aO 1 aNil))) aNil))))) (ret (.int 0))))) (sSeq (sSet 6 (rCall 1 F_is_pushed [] (aV (eFz nf (rCall 1 F_statement_of [] (aV (eVar 5) aNil))) aNil))) (sIf (cOr (cNot (eTst (eUn (dIsi "bool") (eVar 6)))) (eTst (eBin dNe (eVar 6) (eFz nf (rCall 1 (F__law_is_pushed 40) [] (aV (eVar 5) aNil)))))) (sRet (rD (ret (.bl false)))) sNext)))) (sRet (rD (eBin dIs (eFz nf (rCall 1 F_is_pushed [] (aV (eFz nf (rCall 1 F_statement_of [] (aV (eVar 3) aNil))) aNil))) (ret (.bl true)))))))))
def F_law : Fn := fnOf 1 7 kNo b_law
/-! ### what the top has left -/
structure Vx (w : World) (K : PySem.W.Frag) (mg : Str → Option Value) : Prop where
  n_all : mg "all" = none
  n_bool : mg "bool" = none
  n_isinstance : mg "isinstance" = none
  n_len : mg "len" = none
  n_range : mg "range" = none
  n_str : mg "str" = none
  n_tuple : mg "tuple" = none
  c_DUALS : GlobK (tb K) mg w "DUALS" c_DUALS
  c_FIGURES : GlobD (tb K) mg "FIGURES" c_FIGURES
  c_MOST_SIGNS : GlobD (tb K) mg "MOST_SIGNS" c_MOST_SIGNS
  c_OF_ONE : GlobD (tb K) mg "OF_ONE" c_OF_ONE
  c_OF_TWO : GlobD (tb K) mg "OF_TWO" c_OF_TWO
  c_SMALL : GlobD (tb K) mg "SMALL" c_SMALL
  f_kept_words : GFun (tb K) mg "kept_words" s_kept_words P_kept_words
  f_is_mark : GFun (tb K) mg "is_mark" s_is_mark P_is_mark
  f_of_one : GFun (tb K) mg "of_one" s_of_one P_of_one
  f_of_two : GFun (tb K) mg "of_two" s_of_two P_of_two
  f_is_form : GFun (tb K) mg "is_form" s_is_form P_is_form
  f_need_tree : GFun (tb K) mg "need_tree" s_need_tree P_need_tree
  f_built : GFun (tb K) mg "built" s_built P_built
  f_statement_of : GFun (tb K) mg "statement_of" s_statement_of P_statement_of
  f_soon_of : GFun (tb K) mg "soon_of" s_soon_of P_soon_of
  f_ever_of : GFun (tb K) mg "ever_of" s_ever_of P_ever_of
  f_plain_of : GFun (tb K) mg "plain_of" s_plain_of P_plain_of
  f_pushed_of : GFun (tb K) mg "pushed_of" s_pushed_of P_pushed_of
  f_pushed : GFun (tb K) mg "pushed" s_pushed P_pushed
  f_is_pushed : GFun (tb K) mg "is_pushed" s_is_pushed P_is_pushed
  f__law_begin : GFun (tb K) mg "_law_begin" s__law_begin P__law_begin
  f__law_next : GFun (tb K) mg "_law_next" s__law_next P__law_next
  f__law_mark_of : GFun (tb K) mg "_law_mark_of" s__law_mark_of P__law_mark_of
  f__law_marks : GFun (tb K) mg "_law_marks" s__law_marks P__law_marks
  f__law_leaf : GFun (tb K) mg "_law_leaf" s__law_leaf P__law_leaf
  f__law_tree : GFun (tb K) mg "_law_tree" s__law_tree P__law_tree
  f__law_spoilt : GFun (tb K) mg "_law_spoilt" s__law_spoilt P__law_spoilt
  f__law_is_pushed : GFun (tb K) mg "_law_is_pushed" s__law_is_pushed P__law_is_pushed
  f_law : GFun (tb K) mg "law" s_law P_law
  m_Statement_inner : GMth (tb K) 2 "inner" "Statement.inner" s_Statement_inner P_Statement_inner
  m_Yes_inner : GMth (tb K) 3 "inner" "Statement.inner" s_Statement_inner P_Statement_inner
  m_No_inner : GMth (tb K) 4 "inner" "Statement.inner" s_Statement_inner P_Statement_inner
  m_Now_inner : GMth (tb K) 5 "inner" "Statement.inner" s_Statement_inner P_Statement_inner
  m_OfOne_inner : GMth (tb K) 6 "inner" "OfOne.inner" s_OfOne_inner P_OfOne_inner
  m_OfTwo_inner : GMth (tb K) 7 "inner" "OfTwo.inner" s_OfTwo_inner P_OfTwo_inner
  m_Not_inner : GMth (tb K) 8 "inner" "OfOne.inner" s_OfOne_inner P_OfOne_inner
  m_Next_inner : GMth (tb K) 9 "inner" "OfOne.inner" s_OfOne_inner P_OfOne_inner
  m_Before_inner : GMth (tb K) 10 "inner" "OfOne.inner" s_OfOne_inner P_OfOne_inner
  m_Early_inner : GMth (tb K) 11 "inner" "OfOne.inner" s_OfOne_inner P_OfOne_inner
  m_Soon_inner : GMth (tb K) 12 "inner" "OfOne.inner" s_OfOne_inner P_OfOne_inner
  m_Ever_inner : GMth (tb K) 13 "inner" "OfOne.inner" s_OfOne_inner P_OfOne_inner
  m_Once_inner : GMth (tb K) 14 "inner" "OfOne.inner" s_OfOne_inner P_OfOne_inner
  m_Sofar_inner : GMth (tb K) 15 "inner" "OfOne.inner" s_OfOne_inner P_OfOne_inner
  m_Again_inner : GMth (tb K) 16 "inner" "OfOne.inner" s_OfOne_inner P_OfOne_inner
  m_Settles_inner : GMth (tb K) 17 "inner" "OfOne.inner" s_OfOne_inner P_OfOne_inner
  m_Both_inner : GMth (tb K) 18 "inner" "OfTwo.inner" s_OfTwo_inner P_OfTwo_inner
  m_Either_inner : GMth (tb K) 19 "inner" "OfTwo.inner" s_OfTwo_inner P_OfTwo_inner
  m_Then_inner : GMth (tb K) 20 "inner" "OfTwo.inner" s_OfTwo_inner P_OfTwo_inner
  m_Until_inner : GMth (tb K) 21 "inner" "OfTwo.inner" s_OfTwo_inner P_OfTwo_inner
  m_Since_inner : GMth (tb K) 22 "inner" "OfTwo.inner" s_OfTwo_inner P_OfTwo_inner
  m_Frees_inner : GMth (tb K) 23 "inner" "OfTwo.inner" s_OfTwo_inner P_OfTwo_inner
  m_Held_inner : GMth (tb K) 24 "inner" "OfTwo.inner" s_OfTwo_inner P_OfTwo_inner
  m_Statement_tree : GMth (tb K) 2 "tree" "Statement.tree" s_Statement_tree P_Statement_tree
  m_Yes_tree : GMth (tb K) 3 "tree" "Statement.tree" s_Statement_tree P_Statement_tree
  m_No_tree : GMth (tb K) 4 "tree" "Statement.tree" s_Statement_tree P_Statement_tree
  m_Now_tree : GMth (tb K) 5 "tree" "Now.tree" s_Now_tree P_Now_tree
  m_OfOne_tree : GMth (tb K) 6 "tree" "Statement.tree" s_Statement_tree P_Statement_tree
  m_OfTwo_tree : GMth (tb K) 7 "tree" "Statement.tree" s_Statement_tree P_Statement_tree
  m_Not_tree : GMth (tb K) 8 "tree" "Statement.tree" s_Statement_tree P_Statement_tree
  m_Next_tree : GMth (tb K) 9 "tree" "Statement.tree" s_Statement_tree P_Statement_tree
  m_Before_tree : GMth (tb K) 10 "tree" "Statement.tree" s_Statement_tree P_Statement_tree
  m_Early_tree : GMth (tb K) 11 "tree" "Statement.tree" s_Statement_tree P_Statement_tree
  m_Soon_tree : GMth (tb K) 12 "tree" "Statement.tree" s_Statement_tree P_Statement_tree
  m_Ever_tree : GMth (tb K) 13 "tree" "Statement.tree" s_Statement_tree P_Statement_tree
  m_Once_tree : GMth (tb K) 14 "tree" "Statement.tree" s_Statement_tree P_Statement_tree
  m_Sofar_tree : GMth (tb K) 15 "tree" "Statement.tree" s_Statement_tree P_Statement_tree
  m_Again_tree : GMth (tb K) 16 "tree" "Statement.tree" s_Statement_tree P_Statement_tree
  m_Settles_tree : GMth (tb K) 17 "tree" "Statement.tree" s_Statement_tree P_Statement_tree
  m_Both_tree : GMth (tb K) 18 "tree" "Statement.tree" s_Statement_tree P_Statement_tree
  m_Either_tree : GMth (tb K) 19 "tree" "Statement.tree" s_Statement_tree P_Statement_tree
  m_Then_tree : GMth (tb K) 20 "tree" "Statement.tree" s_Statement_tree P_Statement_tree
  m_Until_tree : GMth (tb K) 21 "tree" "Statement.tree" s_Statement_tree P_Statement_tree
  m_Since_tree : GMth (tb K) 22 "tree" "Statement.tree" s_Statement_tree P_Statement_tree
  m_Frees_tree : GMth (tb K) 23 "tree" "Statement.tree" s_Statement_tree P_Statement_tree
  m_Held_tree : GMth (tb K) 24 "tree" "Statement.tree" s_Statement_tree P_Statement_tree
  m_Statement_word : GMth (tb K) 2 "word" "Statement.word" s_Statement_word P_Statement_word
  m_Yes_word : GMth (tb K) 3 "word" "Yes.word" s_Yes_word P_Yes_word
  m_No_word : GMth (tb K) 4 "word" "No.word" s_No_word P_No_word
  m_Now_word : GMth (tb K) 5 "word" "Now.word" s_Now_word P_Now_word
  m_OfOne_word : GMth (tb K) 6 "word" "Statement.word" s_Statement_word P_Statement_word
  m_OfTwo_word : GMth (tb K) 7 "word" "Statement.word" s_Statement_word P_Statement_word
  m_Not_word : GMth (tb K) 8 "word" "Not.word" s_Not_word P_Not_word
  m_Next_word : GMth (tb K) 9 "word" "Next.word" s_Next_word P_Next_word
  m_Before_word : GMth (tb K) 10 "word" "Before.word" s_Before_word P_Before_word
  m_Early_word : GMth (tb K) 11 "word" "Early.word" s_Early_word P_Early_word
  m_Soon_word : GMth (tb K) 12 "word" "Soon.word" s_Soon_word P_Soon_word
  m_Ever_word : GMth (tb K) 13 "word" "Ever.word" s_Ever_word P_Ever_word
  m_Once_word : GMth (tb K) 14 "word" "Once.word" s_Once_word P_Once_word
  m_Sofar_word : GMth (tb K) 15 "word" "Sofar.word" s_Sofar_word P_Sofar_word
  m_Again_word : GMth (tb K) 16 "word" "Again.word" s_Again_word P_Again_word
  m_Settles_word : GMth (tb K) 17 "word" "Settles.word" s_Settles_word P_Settles_word
  m_Both_word : GMth (tb K) 18 "word" "Both.word" s_Both_word P_Both_word
  m_Either_word : GMth (tb K) 19 "word" "Either.word" s_Either_word P_Either_word
  m_Then_word : GMth (tb K) 20 "word" "Then.word" s_Then_word P_Then_word
  m_Until_word : GMth (tb K) 21 "word" "Until.word" s_Until_word P_Until_word
  m_Since_word : GMth (tb K) 22 "word" "Since.word" s_Since_word P_Since_word
  m_Frees_word : GMth (tb K) 23 "word" "Frees.word" s_Frees_word P_Frees_word
  m_Held_word : GMth (tb K) 24 "word" "Held.word" s_Held_word P_Held_word
  k_Yes : GMkN (tb K) mg "Yes" 3
  k_No : GMkN (tb K) mg "No" 4
  k_Now : GMk (tb K) mg "Now" 5 "Now.__init__" s_Now___init__ P_Now___init__
  k_Not : GMk (tb K) mg "Not" 8 "OfOne.__init__" s_OfOne___init__ P_OfOne___init__
  k_Next : GMk (tb K) mg "Next" 9 "OfOne.__init__" s_OfOne___init__ P_OfOne___init__
  k_Before : GMk (tb K) mg "Before" 10 "OfOne.__init__" s_OfOne___init__ P_OfOne___init__
  k_Early : GMk (tb K) mg "Early" 11 "OfOne.__init__" s_OfOne___init__ P_OfOne___init__
  k_Soon : GMk (tb K) mg "Soon" 12 "OfOne.__init__" s_OfOne___init__ P_OfOne___init__
  k_Ever : GMk (tb K) mg "Ever" 13 "OfOne.__init__" s_OfOne___init__ P_OfOne___init__
  k_Once : GMk (tb K) mg "Once" 14 "OfOne.__init__" s_OfOne___init__ P_OfOne___init__
  k_Sofar : GMk (tb K) mg "Sofar" 15 "OfOne.__init__" s_OfOne___init__ P_OfOne___init__
  k_Again : GMk (tb K) mg "Again" 16 "OfOne.__init__" s_OfOne___init__ P_OfOne___init__
  k_Settles : GMk (tb K) mg "Settles" 17 "OfOne.__init__" s_OfOne___init__ P_OfOne___init__
  k_Both : GMk (tb K) mg "Both" 18 "OfTwo.__init__" s_OfTwo___init__ P_OfTwo___init__
  k_Either : GMk (tb K) mg "Either" 19 "OfTwo.__init__" s_OfTwo___init__ P_OfTwo___init__
  k_Then : GMk (tb K) mg "Then" 20 "OfTwo.__init__" s_OfTwo___init__ P_OfTwo___init__
  k_Until : GMk (tb K) mg "Until" 21 "OfTwo.__init__" s_OfTwo___init__ P_OfTwo___init__
  k_Since : GMk (tb K) mg "Since" 22 "OfTwo.__init__" s_OfTwo___init__ P_OfTwo___init__
  k_Frees : GMk (tb K) mg "Frees" 23 "OfTwo.__init__" s_OfTwo___init__ P_OfTwo___init__
  k_Held : GMk (tb K) mg "Held" 24 "OfTwo.__init__" s_OfTwo___init__ P_OfTwo___init__
  q_Statement : ClsOk (tb K) 2
  q_Yes : ClsOk (tb K) 3
  q_No : ClsOk (tb K) 4
  q_Now : ClsOk (tb K) 5
  q_OfOne : ClsOk (tb K) 6
  q_OfTwo : ClsOk (tb K) 7
  q_Not : ClsOk (tb K) 8
  q_Next : ClsOk (tb K) 9
  q_Before : ClsOk (tb K) 10
  q_Early : ClsOk (tb K) 11
  q_Soon : ClsOk (tb K) 12
  q_Ever : ClsOk (tb K) 13
  q_Once : ClsOk (tb K) 14
  q_Sofar : ClsOk (tb K) 15
  q_Again : ClsOk (tb K) 16
  q_Settles : ClsOk (tb K) 17
  q_Both : ClsOk (tb K) 18
  q_Either : ClsOk (tb K) 19
  q_Then : ClsOk (tb K) 20
  q_Until : ClsOk (tb K) 21
  q_Since : ClsOk (tb K) 22
  q_Frees : ClsOk (tb K) 23
  q_Held : ClsOk (tb K) 24
/-! ### each def does as its term says -/
section
variable {P : Program} {w : World} {K : PySem.W.Frag} {mg : Str → Option Value} {base : Heap}
theorem ixok_mark (V : Vx w K mg) : ∀ c i, ix_mark c = some i → ClsOk (tb K) c ∧ ((tb K).flds c)[i]? = some "mark" := by
  intro c i h
  unfold ix_mark at h
  split at h
  · cases h; exact ⟨V.q_Now, rfl⟩
  · cases h
theorem ixok_one (V : Vx w K mg) : ∀ c i, ix_one c = some i → ClsOk (tb K) c ∧ ((tb K).flds c)[i]? = some "one" := by
  intro c i h
  unfold ix_one at h
  split at h
  · cases h; exact ⟨V.q_OfOne, rfl⟩
  · cases h; exact ⟨V.q_OfTwo, rfl⟩
  · cases h; exact ⟨V.q_Not, rfl⟩
  · cases h; exact ⟨V.q_Next, rfl⟩
  · cases h; exact ⟨V.q_Before, rfl⟩
  · cases h; exact ⟨V.q_Early, rfl⟩
  · cases h; exact ⟨V.q_Soon, rfl⟩
  · cases h; exact ⟨V.q_Ever, rfl⟩
  · cases h; exact ⟨V.q_Once, rfl⟩
  · cases h; exact ⟨V.q_Sofar, rfl⟩
  · cases h; exact ⟨V.q_Again, rfl⟩
  · cases h; exact ⟨V.q_Settles, rfl⟩
  · cases h; exact ⟨V.q_Both, rfl⟩
  · cases h; exact ⟨V.q_Either, rfl⟩
  · cases h; exact ⟨V.q_Then, rfl⟩
  · cases h; exact ⟨V.q_Until, rfl⟩
  · cases h; exact ⟨V.q_Since, rfl⟩
  · cases h; exact ⟨V.q_Frees, rfl⟩
  · cases h; exact ⟨V.q_Held, rfl⟩
  · cases h
theorem ixok_other (V : Vx w K mg) : ∀ c i, ix_other c = some i → ClsOk (tb K) c ∧ ((tb K).flds c)[i]? = some "other" := by
  intro c i h
  unfold ix_other at h
  split at h
  · cases h; exact ⟨V.q_OfTwo, rfl⟩
  · cases h; exact ⟨V.q_Both, rfl⟩
  · cases h; exact ⟨V.q_Either, rfl⟩
  · cases h; exact ⟨V.q_Then, rfl⟩
  · cases h; exact ⟨V.q_Until, rfl⟩
  · cases h; exact ⟨V.q_Since, rfl⟩
  · cases h; exact ⟨V.q_Frees, rfl⟩
  · cases h; exact ⟨V.q_Held, rfl⟩
  · cases h
theorem does_kept_words (V : Vx w K mg) : Does P w (tb K) mg base N_kept_words "kept_words" s_kept_words 0 kNo b_kept_words := by
  intro f cdv A outer s H E hr
  unfold b_kept_words
  exact (xss_cons (xs_set 0 (fun _ => sc_kept_words.nd) (xr_d xe_str)) (xss_one (xs_ret (xr_split (xe_var 0) (xa_cons xe_str xa_nil)))))
theorem ok_kept_words (V : Vx w K mg) : FnG P w (tb K) mg base "kept_words" 0 F_kept_words 1 := fng_g V.f_kept_words sc_kept_words (does_kept_words V)
theorem does_is_mark (V : Vx w K mg) : Does P w (tb K) mg base N_is_mark "is_mark" s_is_mark 1 kNo b_is_mark := by
  intro f cdv A outer s H E hr
  unfold b_is_mark
  exact (xss_cons (xs_if (xt_w (xw_or (xt_not (xt_val (xe_isi (c := "str") (by decide) (by decide +kernel) (fun _ => V.n_isinstance) (fun _ => V.n_str) (xe_var 0)))) (xw_or (xt_not (xt_chainLe (ha := xe_int) (hb := (xe_len (fun _ => V.n_len) (xa_cons (xe_var 0) xa_nil))) (hc := (xe_gd V.c_MOST_SIGNS)))) (xw_or1 (xt_notIn (rm_def hr) (ha := (xe_ix (ha := (xe_var 0)) (hb := xe_int))) (hb := (xe_gd V.c_SMALL))))))) (xss_one (xs_ret (xr_d xe_bl))) xss_nil) (xss_one (xs_ret (xr_d (xe_and (xe_all (fun _ => V.n_all) (xa_cons (xe_fz (xr_lc (own := [("sign", 1)]) (fun _ => sc_is_mark.nd) (xi_str (xe_var 0)) (fun _ => show BlkOk N_is_mark (defScope s_is_mark) _ _ from blkOk_by (by decide +kernel)) (xgb_name 1 (by simp) (fun _ => sc_is_mark.nd)) xts_nil (xe_or (xe_in (rm_blk (rm_def hr)) (ha := (xe_var 1)) (hb := (xe_gd V.c_SMALL))) (xe_one (xe_in (rm_blk (rm_def hr)) (ha := (xe_var 1)) (hb := (xe_gd V.c_FIGURES))))))) xa_nil)) (xe_one (xe_notIn (rm_def hr) (ha := (xe_var 0)) (hb := (xe_fz (xr_call0 (dvs := []) (dd := []) ((ok_kept_words V).d hr (by omega)) .nil (fun _ => reps_nil)))))))))))
theorem ok_is_mark (V : Vx w K mg) : FnG P w (tb K) mg base "is_mark" 1 F_is_mark 2 := fng_g V.f_is_mark sc_is_mark (does_is_mark V)
theorem does_Statement_word (V : Vx w K mg) : Does P w (tb K) mg base N_Statement_word "Statement.word" s_Statement_word 0 kNo b_Statement_word := by
  intro f cdv A outer s H E hr
  unfold b_Statement_word
  exact (xss_one (xs_ret (xr_d xe_str)))
theorem does_Statement_inner (V : Vx w K mg) : Does P w (tb K) mg base N_Statement_inner "Statement.inner" s_Statement_inner 0 kNo b_Statement_inner := by
  intro f cdv A outer s H E hr
  unfold b_Statement_inner
  exact (xss_one (xs_ret (xr_lst xa_nil)))
theorem does_Again_word (V : Vx w K mg) : Does P w (tb K) mg base N_Again_word "Again.word" s_Again_word 0 kNo b_Again_word := by
  intro f cdv A outer s H E hr
  unfold b_Again_word
  exact (xss_one (xs_ret (xr_d xe_str)))
theorem does_Before_word (V : Vx w K mg) : Does P w (tb K) mg base N_Before_word "Before.word" s_Before_word 0 kNo b_Before_word := by
  intro f cdv A outer s H E hr
  unfold b_Before_word
  exact (xss_one (xs_ret (xr_d xe_str)))
theorem does_Both_word (V : Vx w K mg) : Does P w (tb K) mg base N_Both_word "Both.word" s_Both_word 0 kNo b_Both_word := by
  intro f cdv A outer s H E hr
  unfold b_Both_word
  exact (xss_one (xs_ret (xr_d xe_str)))
theorem does_Early_word (V : Vx w K mg) : Does P w (tb K) mg base N_Early_word "Early.word" s_Early_word 0 kNo b_Early_word := by
  intro f cdv A outer s H E hr
  unfold b_Early_word
  exact (xss_one (xs_ret (xr_d xe_str)))
theorem does_Either_word (V : Vx w K mg) : Does P w (tb K) mg base N_Either_word "Either.word" s_Either_word 0 kNo b_Either_word := by
  intro f cdv A outer s H E hr
  unfold b_Either_word
  exact (xss_one (xs_ret (xr_d xe_str)))
theorem does_Ever_word (V : Vx w K mg) : Does P w (tb K) mg base N_Ever_word "Ever.word" s_Ever_word 0 kNo b_Ever_word := by
  intro f cdv A outer s H E hr
  unfold b_Ever_word
  exact (xss_one (xs_ret (xr_d xe_str)))
theorem does_Frees_word (V : Vx w K mg) : Does P w (tb K) mg base N_Frees_word "Frees.word" s_Frees_word 0 kNo b_Frees_word := by
  intro f cdv A outer s H E hr
  unfold b_Frees_word
  exact (xss_one (xs_ret (xr_d xe_str)))
theorem does_Held_word (V : Vx w K mg) : Does P w (tb K) mg base N_Held_word "Held.word" s_Held_word 0 kNo b_Held_word := by
  intro f cdv A outer s H E hr
  unfold b_Held_word
  exact (xss_one (xs_ret (xr_d xe_str)))
theorem does_Next_word (V : Vx w K mg) : Does P w (tb K) mg base N_Next_word "Next.word" s_Next_word 0 kNo b_Next_word := by
  intro f cdv A outer s H E hr
  unfold b_Next_word
  exact (xss_one (xs_ret (xr_d xe_str)))
theorem does_No_word (V : Vx w K mg) : Does P w (tb K) mg base N_No_word "No.word" s_No_word 0 kNo b_No_word := by
  intro f cdv A outer s H E hr
  unfold b_No_word
  exact (xss_one (xs_ret (xr_d xe_str)))
theorem does_Not_word (V : Vx w K mg) : Does P w (tb K) mg base N_Not_word "Not.word" s_Not_word 0 kNo b_Not_word := by
  intro f cdv A outer s H E hr
  unfold b_Not_word
  exact (xss_one (xs_ret (xr_d xe_str)))
theorem does_Now_tree (V : Vx w K mg) : Does P w (tb K) mg base N_Now_tree "Now.tree" s_Now_tree 0 kNo b_Now_tree := by
  intro f cdv A outer s H E hr
  unfold b_Now_tree
  exact (xss_one (xs_ret (xr_d (xe_tup (xa_cons xe_str (xa_cons (xe_fld (ixok_mark V) (xe_var 0)) xa_nil))))))
theorem does_Now_word (V : Vx w K mg) : Does P w (tb K) mg base N_Now_word "Now.word" s_Now_word 0 kNo b_Now_word := by
  intro f cdv A outer s H E hr
  unfold b_Now_word
  exact (xss_one (xs_ret (xr_d xe_str)))
theorem does_OfOne_inner (V : Vx w K mg) : Does P w (tb K) mg base N_OfOne_inner "OfOne.inner" s_OfOne_inner 0 kNo b_OfOne_inner := by
  intro f cdv A outer s H E hr
  unfold b_OfOne_inner
  exact (xss_one (xs_ret (xr_lst (xa_cons (xe_fld (ixok_one V) (xe_var 0)) xa_nil))))
theorem does_OfTwo_inner (V : Vx w K mg) : Does P w (tb K) mg base N_OfTwo_inner "OfTwo.inner" s_OfTwo_inner 0 kNo b_OfTwo_inner := by
  intro f cdv A outer s H E hr
  unfold b_OfTwo_inner
  exact (xss_one (xs_ret (xr_lst (xa_cons (xe_fld (ixok_one V) (xe_var 0)) (xa_cons (xe_fld (ixok_other V) (xe_var 0)) xa_nil)))))
theorem does_Once_word (V : Vx w K mg) : Does P w (tb K) mg base N_Once_word "Once.word" s_Once_word 0 kNo b_Once_word := by
  intro f cdv A outer s H E hr
  unfold b_Once_word
  exact (xss_one (xs_ret (xr_d xe_str)))
theorem does_Settles_word (V : Vx w K mg) : Does P w (tb K) mg base N_Settles_word "Settles.word" s_Settles_word 0 kNo b_Settles_word := by
  intro f cdv A outer s H E hr
  unfold b_Settles_word
  exact (xss_one (xs_ret (xr_d xe_str)))
theorem does_Since_word (V : Vx w K mg) : Does P w (tb K) mg base N_Since_word "Since.word" s_Since_word 0 kNo b_Since_word := by
  intro f cdv A outer s H E hr
  unfold b_Since_word
  exact (xss_one (xs_ret (xr_d xe_str)))
theorem does_Sofar_word (V : Vx w K mg) : Does P w (tb K) mg base N_Sofar_word "Sofar.word" s_Sofar_word 0 kNo b_Sofar_word := by
  intro f cdv A outer s H E hr
  unfold b_Sofar_word
  exact (xss_one (xs_ret (xr_d xe_str)))
theorem does_Soon_word (V : Vx w K mg) : Does P w (tb K) mg base N_Soon_word "Soon.word" s_Soon_word 0 kNo b_Soon_word := by
  intro f cdv A outer s H E hr
  unfold b_Soon_word
  exact (xss_one (xs_ret (xr_d xe_str)))
theorem does_Then_word (V : Vx w K mg) : Does P w (tb K) mg base N_Then_word "Then.word" s_Then_word 0 kNo b_Then_word := by
  intro f cdv A outer s H E hr
  unfold b_Then_word
  exact (xss_one (xs_ret (xr_d xe_str)))
theorem does_Until_word (V : Vx w K mg) : Does P w (tb K) mg base N_Until_word "Until.word" s_Until_word 0 kNo b_Until_word := by
  intro f cdv A outer s H E hr
  unfold b_Until_word
  exact (xss_one (xs_ret (xr_d xe_str)))
theorem does_Yes_word (V : Vx w K mg) : Does P w (tb K) mg base N_Yes_word "Yes.word" s_Yes_word 0 kNo b_Yes_word := by
  intro f cdv A outer s H E hr
  unfold b_Yes_word
  exact (xss_one (xs_ret (xr_d xe_str)))
theorem tok_inner (V : Vx w K mg) : MtT P w (tb K) mg base "inner" 1 1 tab_inner := by
  intro c F h
  unfold tab_inner at h
  split at h
  · cases h; exact (mtg_g V.m_Statement_inner V.q_Statement (show ("inner" : Str) ∉ flds 2 by decide +kernel) sc_Statement_inner (does_Statement_inner V)).mono (by decide)
  · cases h; exact (mtg_g V.m_Yes_inner V.q_Yes (show ("inner" : Str) ∉ flds 3 by decide +kernel) sc_Statement_inner (does_Statement_inner V)).mono (by decide)
  · cases h; exact (mtg_g V.m_No_inner V.q_No (show ("inner" : Str) ∉ flds 4 by decide +kernel) sc_Statement_inner (does_Statement_inner V)).mono (by decide)
  · cases h; exact (mtg_g V.m_Now_inner V.q_Now (show ("inner" : Str) ∉ flds 5 by decide +kernel) sc_Statement_inner (does_Statement_inner V)).mono (by decide)
  · cases h; exact (mtg_g V.m_OfOne_inner V.q_OfOne (show ("inner" : Str) ∉ flds 6 by decide +kernel) sc_OfOne_inner (does_OfOne_inner V)).mono (by decide)
  · cases h; exact (mtg_g V.m_OfTwo_inner V.q_OfTwo (show ("inner" : Str) ∉ flds 7 by decide +kernel) sc_OfTwo_inner (does_OfTwo_inner V)).mono (by decide)
  · cases h; exact (mtg_g V.m_Not_inner V.q_Not (show ("inner" : Str) ∉ flds 8 by decide +kernel) sc_OfOne_inner (does_OfOne_inner V)).mono (by decide)
  · cases h; exact (mtg_g V.m_Next_inner V.q_Next (show ("inner" : Str) ∉ flds 9 by decide +kernel) sc_OfOne_inner (does_OfOne_inner V)).mono (by decide)
  · cases h; exact (mtg_g V.m_Before_inner V.q_Before (show ("inner" : Str) ∉ flds 10 by decide +kernel) sc_OfOne_inner (does_OfOne_inner V)).mono (by decide)
  · cases h; exact (mtg_g V.m_Early_inner V.q_Early (show ("inner" : Str) ∉ flds 11 by decide +kernel) sc_OfOne_inner (does_OfOne_inner V)).mono (by decide)
  · cases h; exact (mtg_g V.m_Soon_inner V.q_Soon (show ("inner" : Str) ∉ flds 12 by decide +kernel) sc_OfOne_inner (does_OfOne_inner V)).mono (by decide)
  · cases h; exact (mtg_g V.m_Ever_inner V.q_Ever (show ("inner" : Str) ∉ flds 13 by decide +kernel) sc_OfOne_inner (does_OfOne_inner V)).mono (by decide)
  · cases h; exact (mtg_g V.m_Once_inner V.q_Once (show ("inner" : Str) ∉ flds 14 by decide +kernel) sc_OfOne_inner (does_OfOne_inner V)).mono (by decide)
  · cases h; exact (mtg_g V.m_Sofar_inner V.q_Sofar (show ("inner" : Str) ∉ flds 15 by decide +kernel) sc_OfOne_inner (does_OfOne_inner V)).mono (by decide)
  · cases h; exact (mtg_g V.m_Again_inner V.q_Again (show ("inner" : Str) ∉ flds 16 by decide +kernel) sc_OfOne_inner (does_OfOne_inner V)).mono (by decide)
  · cases h; exact (mtg_g V.m_Settles_inner V.q_Settles (show ("inner" : Str) ∉ flds 17 by decide +kernel) sc_OfOne_inner (does_OfOne_inner V)).mono (by decide)
  · cases h; exact (mtg_g V.m_Both_inner V.q_Both (show ("inner" : Str) ∉ flds 18 by decide +kernel) sc_OfTwo_inner (does_OfTwo_inner V)).mono (by decide)
  · cases h; exact (mtg_g V.m_Either_inner V.q_Either (show ("inner" : Str) ∉ flds 19 by decide +kernel) sc_OfTwo_inner (does_OfTwo_inner V)).mono (by decide)
  · cases h; exact (mtg_g V.m_Then_inner V.q_Then (show ("inner" : Str) ∉ flds 20 by decide +kernel) sc_OfTwo_inner (does_OfTwo_inner V)).mono (by decide)
  · cases h; exact (mtg_g V.m_Until_inner V.q_Until (show ("inner" : Str) ∉ flds 21 by decide +kernel) sc_OfTwo_inner (does_OfTwo_inner V)).mono (by decide)
  · cases h; exact (mtg_g V.m_Since_inner V.q_Since (show ("inner" : Str) ∉ flds 22 by decide +kernel) sc_OfTwo_inner (does_OfTwo_inner V)).mono (by decide)
  · cases h; exact (mtg_g V.m_Frees_inner V.q_Frees (show ("inner" : Str) ∉ flds 23 by decide +kernel) sc_OfTwo_inner (does_OfTwo_inner V)).mono (by decide)
  · cases h; exact (mtg_g V.m_Held_inner V.q_Held (show ("inner" : Str) ∉ flds 24 by decide +kernel) sc_OfTwo_inner (does_OfTwo_inner V)).mono (by decide)
  · cases h
theorem tok_word (V : Vx w K mg) : MtT P w (tb K) mg base "word" 1 1 tab_word := by
  intro c F h
  unfold tab_word at h
  split at h
  · cases h; exact (mtg_g V.m_Statement_word V.q_Statement (show ("word" : Str) ∉ flds 2 by decide +kernel) sc_Statement_word (does_Statement_word V)).mono (by decide)
  · cases h; exact (mtg_g V.m_Yes_word V.q_Yes (show ("word" : Str) ∉ flds 3 by decide +kernel) sc_Yes_word (does_Yes_word V)).mono (by decide)
  · cases h; exact (mtg_g V.m_No_word V.q_No (show ("word" : Str) ∉ flds 4 by decide +kernel) sc_No_word (does_No_word V)).mono (by decide)
  · cases h; exact (mtg_g V.m_Now_word V.q_Now (show ("word" : Str) ∉ flds 5 by decide +kernel) sc_Now_word (does_Now_word V)).mono (by decide)
  · cases h; exact (mtg_g V.m_OfOne_word V.q_OfOne (show ("word" : Str) ∉ flds 6 by decide +kernel) sc_Statement_word (does_Statement_word V)).mono (by decide)
  · cases h; exact (mtg_g V.m_OfTwo_word V.q_OfTwo (show ("word" : Str) ∉ flds 7 by decide +kernel) sc_Statement_word (does_Statement_word V)).mono (by decide)
  · cases h; exact (mtg_g V.m_Not_word V.q_Not (show ("word" : Str) ∉ flds 8 by decide +kernel) sc_Not_word (does_Not_word V)).mono (by decide)
  · cases h; exact (mtg_g V.m_Next_word V.q_Next (show ("word" : Str) ∉ flds 9 by decide +kernel) sc_Next_word (does_Next_word V)).mono (by decide)
  · cases h; exact (mtg_g V.m_Before_word V.q_Before (show ("word" : Str) ∉ flds 10 by decide +kernel) sc_Before_word (does_Before_word V)).mono (by decide)
  · cases h; exact (mtg_g V.m_Early_word V.q_Early (show ("word" : Str) ∉ flds 11 by decide +kernel) sc_Early_word (does_Early_word V)).mono (by decide)
  · cases h; exact (mtg_g V.m_Soon_word V.q_Soon (show ("word" : Str) ∉ flds 12 by decide +kernel) sc_Soon_word (does_Soon_word V)).mono (by decide)
  · cases h; exact (mtg_g V.m_Ever_word V.q_Ever (show ("word" : Str) ∉ flds 13 by decide +kernel) sc_Ever_word (does_Ever_word V)).mono (by decide)
  · cases h; exact (mtg_g V.m_Once_word V.q_Once (show ("word" : Str) ∉ flds 14 by decide +kernel) sc_Once_word (does_Once_word V)).mono (by decide)
  · cases h; exact (mtg_g V.m_Sofar_word V.q_Sofar (show ("word" : Str) ∉ flds 15 by decide +kernel) sc_Sofar_word (does_Sofar_word V)).mono (by decide)
  · cases h; exact (mtg_g V.m_Again_word V.q_Again (show ("word" : Str) ∉ flds 16 by decide +kernel) sc_Again_word (does_Again_word V)).mono (by decide)
  · cases h; exact (mtg_g V.m_Settles_word V.q_Settles (show ("word" : Str) ∉ flds 17 by decide +kernel) sc_Settles_word (does_Settles_word V)).mono (by decide)
  · cases h; exact (mtg_g V.m_Both_word V.q_Both (show ("word" : Str) ∉ flds 18 by decide +kernel) sc_Both_word (does_Both_word V)).mono (by decide)
  · cases h; exact (mtg_g V.m_Either_word V.q_Either (show ("word" : Str) ∉ flds 19 by decide +kernel) sc_Either_word (does_Either_word V)).mono (by decide)
  · cases h; exact (mtg_g V.m_Then_word V.q_Then (show ("word" : Str) ∉ flds 20 by decide +kernel) sc_Then_word (does_Then_word V)).mono (by decide)
  · cases h; exact (mtg_g V.m_Until_word V.q_Until (show ("word" : Str) ∉ flds 21 by decide +kernel) sc_Until_word (does_Until_word V)).mono (by decide)
  · cases h; exact (mtg_g V.m_Since_word V.q_Since (show ("word" : Str) ∉ flds 22 by decide +kernel) sc_Since_word (does_Since_word V)).mono (by decide)
  · cases h; exact (mtg_g V.m_Frees_word V.q_Frees (show ("word" : Str) ∉ flds 23 by decide +kernel) sc_Frees_word (does_Frees_word V)).mono (by decide)
  · cases h; exact (mtg_g V.m_Held_word V.q_Held (show ("word" : Str) ∉ flds 24 by decide +kernel) sc_Held_word (does_Held_word V)).mono (by decide)
  · cases h
theorem does_Statement_tree (V : Vx w K mg) (t : Nat → Option Fn) (n : Nat) (HT_tree : MtT P w (tb K) mg base "tree" 1 (2 + n) t) : Does P w (tb K) mg base N_Statement_tree "Statement.tree" s_Statement_tree (2 + n) kNo (b_Statement_tree t) := by
  intro f cdv A outer s H E hr
  unfold b_Statement_tree
  exact (xss_one (xs_ret (xr_d (xe_add (ha := (xe_tup (xa_cons (xe_fz (xr_meth0 ((tok_word V).d hr (by omega)) (tok_word V (P := P) (base := base)).nf (xe_var 0))) xa_nil))) (hb := (xe_tuple (fun _ => V.n_tuple) (xa_cons (xe_fz (xr_lc (own := [("part", 1)]) (fun _ => sc_Statement_tree.nd) (xi_lst (h := (xe_fz (xr_meth0 ((tok_inner V).d hr (by omega)) (tok_inner V (P := P) (base := base)).nf (xe_var 0))))) (fun _ => show BlkOk N_Statement_tree (defScope s_Statement_tree) _ _ from blkOk_by (by decide +kernel)) (xgb_name 1 (by simp) (fun _ => sc_Statement_tree.nd)) xts_nil (xe_fz (xr_meth0 (HT_tree.b hr (by omega)) HT_tree.nf (xe_var 1))))) xa_nil)))))))
theorem tokf_tree (V : Vx w K mg) (body : MS) (j : Nat) (hj : 2 ≤ j) (h : Does P w (tb K) mg base N_Statement_tree "Statement.tree" s_Statement_tree j kNo body) : MtT P w (tb K) mg base "tree" 1 (j + 1) (tabOf_tree (fnOf 1 2 kNo body)) := by
  intro c F h'
  unfold tabOf_tree at h'
  split at h'
  · cases h'; exact mtg_g V.m_Statement_tree V.q_Statement (show ("tree" : Str) ∉ flds 2 by decide +kernel) sc_Statement_tree h
  · cases h'; exact mtg_g V.m_Yes_tree V.q_Yes (show ("tree" : Str) ∉ flds 3 by decide +kernel) sc_Statement_tree h
  · cases h'; exact mtg_g V.m_No_tree V.q_No (show ("tree" : Str) ∉ flds 4 by decide +kernel) sc_Statement_tree h
  · cases h'; exact (mtg_g V.m_Now_tree V.q_Now (show ("tree" : Str) ∉ flds 5 by decide +kernel) sc_Now_tree (does_Now_tree V)).mono (by omega)
  · cases h'; exact mtg_g V.m_OfOne_tree V.q_OfOne (show ("tree" : Str) ∉ flds 6 by decide +kernel) sc_Statement_tree h
  · cases h'; exact mtg_g V.m_OfTwo_tree V.q_OfTwo (show ("tree" : Str) ∉ flds 7 by decide +kernel) sc_Statement_tree h
  · cases h'; exact mtg_g V.m_Not_tree V.q_Not (show ("tree" : Str) ∉ flds 8 by decide +kernel) sc_Statement_tree h
  · cases h'; exact mtg_g V.m_Next_tree V.q_Next (show ("tree" : Str) ∉ flds 9 by decide +kernel) sc_Statement_tree h
  · cases h'; exact mtg_g V.m_Before_tree V.q_Before (show ("tree" : Str) ∉ flds 10 by decide +kernel) sc_Statement_tree h
  · cases h'; exact mtg_g V.m_Early_tree V.q_Early (show ("tree" : Str) ∉ flds 11 by decide +kernel) sc_Statement_tree h
  · cases h'; exact mtg_g V.m_Soon_tree V.q_Soon (show ("tree" : Str) ∉ flds 12 by decide +kernel) sc_Statement_tree h
  · cases h'; exact mtg_g V.m_Ever_tree V.q_Ever (show ("tree" : Str) ∉ flds 13 by decide +kernel) sc_Statement_tree h
  · cases h'; exact mtg_g V.m_Once_tree V.q_Once (show ("tree" : Str) ∉ flds 14 by decide +kernel) sc_Statement_tree h
  · cases h'; exact mtg_g V.m_Sofar_tree V.q_Sofar (show ("tree" : Str) ∉ flds 15 by decide +kernel) sc_Statement_tree h
  · cases h'; exact mtg_g V.m_Again_tree V.q_Again (show ("tree" : Str) ∉ flds 16 by decide +kernel) sc_Statement_tree h
  · cases h'; exact mtg_g V.m_Settles_tree V.q_Settles (show ("tree" : Str) ∉ flds 17 by decide +kernel) sc_Statement_tree h
  · cases h'; exact mtg_g V.m_Both_tree V.q_Both (show ("tree" : Str) ∉ flds 18 by decide +kernel) sc_Statement_tree h
  · cases h'; exact mtg_g V.m_Either_tree V.q_Either (show ("tree" : Str) ∉ flds 19 by decide +kernel) sc_Statement_tree h
  · cases h'; exact mtg_g V.m_Then_tree V.q_Then (show ("tree" : Str) ∉ flds 20 by decide +kernel) sc_Statement_tree h
  · cases h'; exact mtg_g V.m_Until_tree V.q_Until (show ("tree" : Str) ∉ flds 21 by decide +kernel) sc_Statement_tree h
  · cases h'; exact mtg_g V.m_Since_tree V.q_Since (show ("tree" : Str) ∉ flds 22 by decide +kernel) sc_Statement_tree h
  · cases h'; exact mtg_g V.m_Frees_tree V.q_Frees (show ("tree" : Str) ∉ flds 23 by decide +kernel) sc_Statement_tree h
  · cases h'; exact mtg_g V.m_Held_tree V.q_Held (show ("tree" : Str) ∉ flds 24 by decide +kernel) sc_Statement_tree h
  · cases h'
theorem tok_tree (V : Vx w K mg) : ∀ n, MtT P w (tb K) mg base "tree" 1 (3 + n) (tab_tree n)
  | 0 => (tokf_tree V sNever 2 (by omega) (fun _ _ _ _ _ _ _ _ => xss_never)).mono (by omega)
  | n + 1 => (tokf_tree V _ (2 + (n + 1)) (by omega) (does_Statement_tree V _ (n + 1) ((tok_tree V n).mono (by omega)))).mono (by omega)
theorem does_Now___init__ (V : Vx w K mg) : Does P w (tb K) mg base N_Now___init__ "Now.__init__" s_Now___init__ 2 k0 b_Now___init__ := by
  intro f cdv A outer s H E hr
  unfold b_Now___init__
  exact (xss_cons (xs_if (xt_not (xt_val (xe_fz (xr_call (dvs := []) (dd := []) ((ok_is_mark V).d hr (by omega)) .nil (fun _ => reps_nil) (xaa_v (xe_var 1) xaa_nil))))) (xss_one xs_never) xss_nil) (xss_one (xs_fld 0 (ixok_mark V) (xe_var 1))))
theorem mok_Now (V : Vx w K mg) : MkG P w (tb K) mg base "Now" 5 2 F_Now___init__ 3 := mkg_g V.k_Now sc_Now___init__ (does_Now___init__ V)
theorem does_OfOne___init__ (V : Vx w K mg) : Does P w (tb K) mg base N_OfOne___init__ "OfOne.__init__" s_OfOne___init__ 0 k0 b_OfOne___init__ := by
  intro f cdv A outer s H E hr
  unfold b_OfOne___init__
  exact (xss_one (xs_fld 0 (ixok_one V) (xe_var 1)))
theorem mok_Not (V : Vx w K mg) : MkG P w (tb K) mg base "Not" 8 2 F_OfOne___init__ 1 := mkg_g V.k_Not sc_OfOne___init__ (does_OfOne___init__ V)
theorem mok_Next (V : Vx w K mg) : MkG P w (tb K) mg base "Next" 9 2 F_OfOne___init__ 1 := mkg_g V.k_Next sc_OfOne___init__ (does_OfOne___init__ V)
theorem mok_Before (V : Vx w K mg) : MkG P w (tb K) mg base "Before" 10 2 F_OfOne___init__ 1 := mkg_g V.k_Before sc_OfOne___init__ (does_OfOne___init__ V)
theorem mok_Early (V : Vx w K mg) : MkG P w (tb K) mg base "Early" 11 2 F_OfOne___init__ 1 := mkg_g V.k_Early sc_OfOne___init__ (does_OfOne___init__ V)
theorem mok_Soon (V : Vx w K mg) : MkG P w (tb K) mg base "Soon" 12 2 F_OfOne___init__ 1 := mkg_g V.k_Soon sc_OfOne___init__ (does_OfOne___init__ V)
theorem mok_Ever (V : Vx w K mg) : MkG P w (tb K) mg base "Ever" 13 2 F_OfOne___init__ 1 := mkg_g V.k_Ever sc_OfOne___init__ (does_OfOne___init__ V)
theorem mok_Once (V : Vx w K mg) : MkG P w (tb K) mg base "Once" 14 2 F_OfOne___init__ 1 := mkg_g V.k_Once sc_OfOne___init__ (does_OfOne___init__ V)
theorem mok_Sofar (V : Vx w K mg) : MkG P w (tb K) mg base "Sofar" 15 2 F_OfOne___init__ 1 := mkg_g V.k_Sofar sc_OfOne___init__ (does_OfOne___init__ V)
theorem mok_Again (V : Vx w K mg) : MkG P w (tb K) mg base "Again" 16 2 F_OfOne___init__ 1 := mkg_g V.k_Again sc_OfOne___init__ (does_OfOne___init__ V)
theorem mok_Settles (V : Vx w K mg) : MkG P w (tb K) mg base "Settles" 17 2 F_OfOne___init__ 1 := mkg_g V.k_Settles sc_OfOne___init__ (does_OfOne___init__ V)
theorem does_OfTwo___init__ (V : Vx w K mg) : Does P w (tb K) mg base N_OfTwo___init__ "OfTwo.__init__" s_OfTwo___init__ 0 k0 b_OfTwo___init__ := by
  intro f cdv A outer s H E hr
  unfold b_OfTwo___init__
  exact (xss_cons (xs_fld 0 (ixok_one V) (xe_var 1)) (xss_one (xs_fld 0 (ixok_other V) (xe_var 2))))
theorem mok_Both (V : Vx w K mg) : MkG P w (tb K) mg base "Both" 18 3 F_OfTwo___init__ 1 := mkg_g V.k_Both sc_OfTwo___init__ (does_OfTwo___init__ V)
theorem mok_Either (V : Vx w K mg) : MkG P w (tb K) mg base "Either" 19 3 F_OfTwo___init__ 1 := mkg_g V.k_Either sc_OfTwo___init__ (does_OfTwo___init__ V)
theorem mok_Then (V : Vx w K mg) : MkG P w (tb K) mg base "Then" 20 3 F_OfTwo___init__ 1 := mkg_g V.k_Then sc_OfTwo___init__ (does_OfTwo___init__ V)
theorem mok_Until (V : Vx w K mg) : MkG P w (tb K) mg base "Until" 21 3 F_OfTwo___init__ 1 := mkg_g V.k_Until sc_OfTwo___init__ (does_OfTwo___init__ V)
theorem mok_Since (V : Vx w K mg) : MkG P w (tb K) mg base "Since" 22 3 F_OfTwo___init__ 1 := mkg_g V.k_Since sc_OfTwo___init__ (does_OfTwo___init__ V)
theorem mok_Frees (V : Vx w K mg) : MkG P w (tb K) mg base "Frees" 23 3 F_OfTwo___init__ 1 := mkg_g V.k_Frees sc_OfTwo___init__ (does_OfTwo___init__ V)
theorem mok_Held (V : Vx w K mg) : MkG P w (tb K) mg base "Held" 24 3 F_OfTwo___init__ 1 := mkg_g V.k_Held sc_OfTwo___init__ (does_OfTwo___init__ V)
theorem does_of_one (V : Vx w K mg) : Does P w (tb K) mg base N_of_one "of_one" s_of_one 2 kNo b_of_one := by
  intro f cdv A outer s H E hr
  unfold b_of_one
  exact (xss_cons (xs_if (xt_eq (rm_def hr) (ha := (xe_var 0)) (hb := xe_str)) (xss_one (xs_ret (xr_make (nf := 1) ((mok_Not V).d hr (by omega)) (xaa_v (xe_var 1) xaa_nil)))) xss_nil) (xss_cons (xs_if (xt_eq (rm_def hr) (ha := (xe_var 0)) (hb := xe_str)) (xss_one (xs_ret (xr_make (nf := 1) ((mok_Next V).d hr (by omega)) (xaa_v (xe_var 1) xaa_nil)))) xss_nil) (xss_cons (xs_if (xt_eq (rm_def hr) (ha := (xe_var 0)) (hb := xe_str)) (xss_one (xs_ret (xr_make (nf := 1) ((mok_Before V).d hr (by omega)) (xaa_v (xe_var 1) xaa_nil)))) xss_nil) (xss_cons (xs_if (xt_eq (rm_def hr) (ha := (xe_var 0)) (hb := xe_str)) (xss_one (xs_ret (xr_make (nf := 1) ((mok_Early V).d hr (by omega)) (xaa_v (xe_var 1) xaa_nil)))) xss_nil) (xss_cons (xs_if (xt_eq (rm_def hr) (ha := (xe_var 0)) (hb := xe_str)) (xss_one (xs_ret (xr_make (nf := 1) ((mok_Soon V).d hr (by omega)) (xaa_v (xe_var 1) xaa_nil)))) xss_nil) (xss_cons (xs_if (xt_eq (rm_def hr) (ha := (xe_var 0)) (hb := xe_str)) (xss_one (xs_ret (xr_make (nf := 1) ((mok_Ever V).d hr (by omega)) (xaa_v (xe_var 1) xaa_nil)))) xss_nil) (xss_cons (xs_if (xt_eq (rm_def hr) (ha := (xe_var 0)) (hb := xe_str)) (xss_one (xs_ret (xr_make (nf := 1) ((mok_Once V).d hr (by omega)) (xaa_v (xe_var 1) xaa_nil)))) xss_nil) (xss_cons (xs_if (xt_eq (rm_def hr) (ha := (xe_var 0)) (hb := xe_str)) (xss_one (xs_ret (xr_make (nf := 1) ((mok_Sofar V).d hr (by omega)) (xaa_v (xe_var 1) xaa_nil)))) xss_nil) (xss_cons (xs_if (xt_eq (rm_def hr) (ha := (xe_var 0)) (hb := xe_str)) (xss_one (xs_ret (xr_make (nf := 1) ((mok_Again V).d hr (by omega)) (xaa_v (xe_var 1) xaa_nil)))) xss_nil) (xss_cons (xs_if (xt_eq (rm_def hr) (ha := (xe_var 0)) (hb := xe_str)) (xss_one (xs_ret (xr_make (nf := 1) ((mok_Settles V).d hr (by omega)) (xaa_v (xe_var 1) xaa_nil)))) xss_nil) (xss_one (xs_ret (xr_d xe_non)))))))))))))
theorem ok_of_one (V : Vx w K mg) : FnG P w (tb K) mg base "of_one" 2 F_of_one 3 := fng_g V.f_of_one sc_of_one (does_of_one V)
theorem does_of_two (V : Vx w K mg) : Does P w (tb K) mg base N_of_two "of_two" s_of_two 2 kNo b_of_two := by
  intro f cdv A outer s H E hr
  unfold b_of_two
  exact (xss_cons (xs_if (xt_eq (rm_def hr) (ha := (xe_var 0)) (hb := xe_str)) (xss_one (xs_ret (xr_make (nf := 2) ((mok_Both V).d hr (by omega)) (xaa_v (xe_var 1) (xaa_v (xe_var 2) xaa_nil))))) xss_nil) (xss_cons (xs_if (xt_eq (rm_def hr) (ha := (xe_var 0)) (hb := xe_str)) (xss_one (xs_ret (xr_make (nf := 2) ((mok_Either V).d hr (by omega)) (xaa_v (xe_var 1) (xaa_v (xe_var 2) xaa_nil))))) xss_nil) (xss_cons (xs_if (xt_eq (rm_def hr) (ha := (xe_var 0)) (hb := xe_str)) (xss_one (xs_ret (xr_make (nf := 2) ((mok_Then V).d hr (by omega)) (xaa_v (xe_var 1) (xaa_v (xe_var 2) xaa_nil))))) xss_nil) (xss_cons (xs_if (xt_eq (rm_def hr) (ha := (xe_var 0)) (hb := xe_str)) (xss_one (xs_ret (xr_make (nf := 2) ((mok_Until V).d hr (by omega)) (xaa_v (xe_var 1) (xaa_v (xe_var 2) xaa_nil))))) xss_nil) (xss_cons (xs_if (xt_eq (rm_def hr) (ha := (xe_var 0)) (hb := xe_str)) (xss_one (xs_ret (xr_make (nf := 2) ((mok_Since V).d hr (by omega)) (xaa_v (xe_var 1) (xaa_v (xe_var 2) xaa_nil))))) xss_nil) (xss_cons (xs_if (xt_eq (rm_def hr) (ha := (xe_var 0)) (hb := xe_str)) (xss_one (xs_ret (xr_make (nf := 2) ((mok_Frees V).d hr (by omega)) (xaa_v (xe_var 1) (xaa_v (xe_var 2) xaa_nil))))) xss_nil) (xss_cons (xs_if (xt_eq (rm_def hr) (ha := (xe_var 0)) (hb := xe_str)) (xss_one (xs_ret (xr_make (nf := 2) ((mok_Held V).d hr (by omega)) (xaa_v (xe_var 1) (xaa_v (xe_var 2) xaa_nil))))) xss_nil) (xss_one (xs_ret (xr_d xe_non))))))))))
theorem ok_of_two (V : Vx w K mg) : FnG P w (tb K) mg base "of_two" 3 F_of_two 3 := fng_g V.f_of_two sc_of_two (does_of_two V)
theorem does_is_form (V : Vx w K mg) : Does P w (tb K) mg base N_is_form "is_form" s_is_form 2 kNo b_is_form := by
  intro f cdv A outer s H E hr
  unfold b_is_form
  exact (xss_cons (xs_if (xt_w (xw_or (xt_not (xt_val (xe_isi (c := "tuple") (by decide) (by decide +kernel) (fun _ => V.n_isinstance) (fun _ => V.n_tuple) (xe_var 0)))) (xw_or (xt_eq (rm_def hr) (ha := (xe_len (fun _ => V.n_len) (xa_cons (xe_var 0) xa_nil))) (hb := xe_int)) (xw_or1 (xt_not (xt_val (xe_isi (c := "str") (by decide) (by decide +kernel) (fun _ => V.n_isinstance) (fun _ => V.n_str) (xe_ix (ha := (xe_var 0)) (hb := xe_int))))))))) (xss_one (xs_ret (xr_d xe_bl))) xss_nil) (xss_cons (xs_if (xt_in (rm_def hr) (ha := (xe_ix (ha := (xe_var 0)) (hb := xe_int))) (hb := (xe_tup (xa_cons xe_str (xa_cons xe_str xa_nil))))) (xss_one (xs_ret (xr_d (xe_eq (rm_def hr) (ha := (xe_len (fun _ => V.n_len) (xa_cons (xe_var 0) xa_nil))) (hb := xe_int))))) xss_nil) (xss_cons (xs_if (xt_eq (rm_def hr) (ha := (xe_ix (ha := (xe_var 0)) (hb := xe_int))) (hb := xe_str)) (xss_one (xs_ret (xr_d (xe_and (xe_eq (rm_def hr) (ha := (xe_len (fun _ => V.n_len) (xa_cons (xe_var 0) xa_nil))) (hb := xe_int)) (xe_one (xe_fz (xr_call (dvs := []) (dd := []) ((ok_is_mark V).d hr (by omega)) .nil (fun _ => reps_nil) (xaa_v (xe_ix (ha := (xe_var 0)) (hb := xe_int)) xaa_nil)))))))) xss_nil) (xss_one (xs_ret (xr_d (xe_or (xe_and (xe_in (rm_def hr) (ha := (xe_ix (ha := (xe_var 0)) (hb := xe_int))) (hb := (xe_gd V.c_OF_ONE))) (xe_one (xe_eq (rm_def hr) (ha := (xe_len (fun _ => V.n_len) (xa_cons (xe_var 0) xa_nil))) (hb := xe_int)))) (xe_one (xe_and (xe_in (rm_def hr) (ha := (xe_ix (ha := (xe_var 0)) (hb := xe_int))) (hb := (xe_gd V.c_OF_TWO))) (xe_one (xe_eq (rm_def hr) (ha := (xe_len (fun _ => V.n_len) (xa_cons (xe_var 0) xa_nil))) (hb := xe_int))))))))))))
theorem ok_is_form (V : Vx w K mg) : FnG P w (tb K) mg base "is_form" 1 F_is_form 3 := fng_g V.f_is_form sc_is_form (does_is_form V)
theorem does_need_tree (V : Vx w K mg) : Does P w (tb K) mg base N_need_tree "need_tree" s_need_tree 3 kNo b_need_tree := by
  intro f cdv A outer s H E hr
  unfold b_need_tree
  exact (xss_cons (xs_set 1 (fun _ => sc_need_tree.nd) (xr_lst (xa_cons (xe_var 0) xa_nil))) (xss_one (xs_while 100 (xt_ne (rm_def hr) (ha := (xe_var 1)) (hb := (xe_fz (xr_lst xa_nil)))) (xss_cons (xs_if (xt_not (xt_val (xe_all (fun _ => V.n_all) (xa_cons (xe_fz (xr_lc (own := [("part", 3)]) (fun _ => sc_need_tree.nd) (xi_lst (h := (xe_var 1))) (fun _ => show BlkOk N_need_tree (defScope s_need_tree) _ _ from blkOk_by (by decide +kernel)) (xgb_name 3 (by simp) (fun _ => sc_need_tree.nd)) xts_nil (xe_fz (xr_call (dvs := []) (dd := []) ((ok_is_form V).b hr (by omega)) .nil (fun _ => reps_nil) (xaa_v (xe_var 3) xaa_nil))))) xa_nil)))) (xss_one xs_never) xss_nil) (xss_cons (xs_set 2 (fun _ => sc_need_tree.nd) (xr_lst xa_nil)) (xss_cons (xs_for (xi_lst (h := (xe_var 1))) (xg_name 3 (hN := (fun _ => sc_need_tree.nd))) (xss_one (xs_ext 2 (xe_if (xt_ne (rm_def hr) (ha := (xe_ix (ha := (xe_var 3)) (hb := xe_int))) (hb := xe_str)) (xe_sl (ha := (xe_var 3)) (hl := (xo_some xe_int)) (hh := xo_none)) (xe_tup xa_nil)))) own_def) (xss_one (xs_set 1 (fun _ => sc_need_tree.nd) (xr_d (xe_var 2))))))) own_def)))
theorem ok_need_tree (V : Vx w K mg) : FnG P w (tb K) mg base "need_tree" 1 F_need_tree 4 := fng_g V.f_need_tree sc_need_tree (does_need_tree V)
theorem does_built (V : Vx w K mg) (f : Fn) (n : Nat) (H_built : FnG P w (tb K) mg base "built" 1 f (5 + n)) : Does P w (tb K) mg base N_built "built" s_built (5 + n) kNo (b_built f) := by
  intro f cdv A outer s H E hr
  unfold b_built
  exact (xss_cons (xs_if (xt_eq (rm_def hr) (ha := (xe_ix (ha := (xe_var 0)) (hb := xe_int))) (hb := xe_str)) (xss_one (xs_ret (xr_make (nf := 1) ((mok_Now V).d hr (by omega)) (xaa_v (xe_ix (ha := (xe_var 0)) (hb := xe_int)) xaa_nil)))) xss_nil) (xss_cons (xs_setLc 1 (own := [("part", 2)]) (fun _ => sc_built.nd) (xi_tup (h := (xe_sl (ha := (xe_var 0)) (hl := (xo_some xe_int)) (hh := xo_none)))) (fun _ => show BlkOk N_built (defScope s_built) _ _ from blkOk_by (by decide +kernel)) (xgb_name 2 (by simp) (fun _ => sc_built.nd)) xts_nil (xe_fz (xr_call (dvs := []) (dd := []) (H_built.b hr (by omega)) .nil (fun _ => reps_nil) (xaa_v (xe_var 2) xaa_nil))) (fun _ => sw_true rfl rfl rfl (by decide +kernel))) (xss_cons (xs_if (xt_eqL (rm_def hr) (ha := (xe_var 1)) (hb := (xe_fz (xr_lst xa_nil)))) (xss_one (xs_ret (xr_if (xt_eq (rm_def hr) (ha := (xe_ix (ha := (xe_var 0)) (hb := xe_int))) (hb := xe_str)) (xr_makeN (c := 3) V.k_Yes.2 (fun _ => V.k_Yes.1)) (xr_makeN (c := 4) V.k_No.2 (fun _ => V.k_No.1))))) xss_nil) (xss_one (xs_ret (xr_if (xt_eq (rm_def hr) (ha := (xe_len (fun _ => V.n_len) (xa_cons (xe_var 1) xa_nil))) (hb := xe_int)) (xr_call (dvs := []) (dd := []) ((ok_of_one V).d hr (by omega)) .nil (fun _ => reps_nil) (xaa_v (xe_ix (ha := (xe_var 0)) (hb := xe_int)) (xaa_v (xe_ix (ha := (xe_var 1)) (hb := xe_int)) xaa_nil))) (xr_call (dvs := []) (dd := []) ((ok_of_two V).d hr (by omega)) .nil (fun _ => reps_nil) (xaa_v (xe_ix (ha := (xe_var 0)) (hb := xe_int)) (xaa_v (xe_ix (ha := (xe_var 1)) (hb := xe_int)) (xaa_v (xe_ix (ha := (xe_var 1)) (hb := xe_int)) xaa_nil))))))))))
theorem ok_built (V : Vx w K mg) : ∀ n, FnG P w (tb K) mg base "built" 1 (F_built n) (5 + n)
  | 0 => (fng_g (k := 4) V.f_built sc_built (fun _ _ _ _ _ _ _ _ => xss_never)).mono (by omega)
  | n + 1 => (fng_g V.f_built sc_built (does_built V _ n (ok_built V n)))
theorem does_statement_of (V : Vx w K mg) : Does P w (tb K) mg base N_statement_of "statement_of" s_statement_of 45 kNo b_statement_of := by
  intro f cdv A outer s H E hr
  unfold b_statement_of
  exact (xss_cons (xs_expr (xr_call (dvs := []) (dd := []) ((ok_need_tree V).d hr (by omega)) .nil (fun _ => reps_nil) (xaa_v (xe_var 0) xaa_nil))) (xss_one (xs_ret (xr_call (dvs := []) (dd := []) ((ok_built V 40).d hr (by omega)) .nil (fun _ => reps_nil) (xaa_v (xe_var 0) xaa_nil)))))
theorem ok_statement_of (V : Vx w K mg) : FnG P w (tb K) mg base "statement_of" 1 F_statement_of 46 := fng_g V.f_statement_of sc_statement_of (does_statement_of V)
theorem does_soon_of (V : Vx w K mg) : Does P w (tb K) mg base N_soon_of "soon_of" s_soon_of 0 kNo b_soon_of := by
  intro f cdv A outer s H E hr
  unfold b_soon_of
  exact (xss_one (xs_ret (xr_d (xe_tup (xa_cons xe_str (xa_cons (xe_tup (xa_cons xe_str xa_nil)) (xa_cons (xe_var 0) xa_nil)))))))
theorem ok_soon_of (V : Vx w K mg) : FnG P w (tb K) mg base "soon_of" 1 F_soon_of 1 := fng_g V.f_soon_of sc_soon_of (does_soon_of V)
theorem does_ever_of (V : Vx w K mg) : Does P w (tb K) mg base N_ever_of "ever_of" s_ever_of 0 kNo b_ever_of := by
  intro f cdv A outer s H E hr
  unfold b_ever_of
  exact (xss_one (xs_ret (xr_d (xe_tup (xa_cons xe_str (xa_cons (xe_tup (xa_cons xe_str xa_nil)) (xa_cons (xe_var 0) xa_nil)))))))
theorem ok_ever_of (V : Vx w K mg) : FnG P w (tb K) mg base "ever_of" 1 F_ever_of 1 := fng_g V.f_ever_of sc_ever_of (does_ever_of V)
theorem does_plain_of (V : Vx w K mg) (f : Fn) (n : Nat) (H_plain_of : FnG P w (tb K) mg base "plain_of" 1 f (2 + n)) : Does P w (tb K) mg base N_plain_of "plain_of" s_plain_of (2 + n) kNo (b_plain_of f) := by
  intro f cdv A outer s H E hr
  unfold b_plain_of
  exact (xss_cons (xs_if (xt_eq (rm_def hr) (ha := (xe_ix (ha := (xe_var 0)) (hb := xe_int))) (hb := xe_str)) (xss_one (xs_ret (xr_d (xe_var 0)))) xss_nil) (xss_cons (xs_setLc 1 (own := [("part", 2)]) (fun _ => sc_plain_of.nd) (xi_tup (h := (xe_sl (ha := (xe_var 0)) (hl := (xo_some xe_int)) (hh := xo_none)))) (fun _ => show BlkOk N_plain_of (defScope s_plain_of) _ _ from blkOk_by (by decide +kernel)) (xgb_name 2 (by simp) (fun _ => sc_plain_of.nd)) xts_nil (xe_fz (xr_call (dvs := []) (dd := []) (H_plain_of.b hr (by omega)) .nil (fun _ => reps_nil) (xaa_v (xe_var 2) xaa_nil))) (fun _ => sw_true rfl rfl rfl (by decide +kernel))) (xss_cons (xs_if (xt_eq (rm_def hr) (ha := (xe_ix (ha := (xe_var 0)) (hb := xe_int))) (hb := xe_str)) (xss_one (xs_ret (xr_call (dvs := []) (dd := []) ((ok_soon_of V).d hr (by omega)) .nil (fun _ => reps_nil) (xaa_v (xe_ix (ha := (xe_var 1)) (hb := xe_int)) xaa_nil)))) xss_nil) (xss_cons (xs_if (xt_eq (rm_def hr) (ha := (xe_ix (ha := (xe_var 0)) (hb := xe_int))) (hb := xe_str)) (xss_one (xs_ret (xr_call (dvs := []) (dd := []) ((ok_ever_of V).d hr (by omega)) .nil (fun _ => reps_nil) (xaa_v (xe_ix (ha := (xe_var 1)) (hb := xe_int)) xaa_nil)))) xss_nil) (xss_cons (xs_if (xt_eq (rm_def hr) (ha := (xe_ix (ha := (xe_var 0)) (hb := xe_int))) (hb := xe_str)) (xss_one (xs_ret (xr_d (xe_tup (xa_cons xe_str (xa_cons (xe_tup (xa_cons xe_str xa_nil)) (xa_cons (xe_ix (ha := (xe_var 1)) (hb := xe_int)) xa_nil))))))) xss_nil) (xss_cons (xs_if (xt_eq (rm_def hr) (ha := (xe_ix (ha := (xe_var 0)) (hb := xe_int))) (hb := xe_str)) (xss_one (xs_ret (xr_d (xe_tup (xa_cons xe_str (xa_cons (xe_tup (xa_cons xe_str xa_nil)) (xa_cons (xe_ix (ha := (xe_var 1)) (hb := xe_int)) xa_nil))))))) xss_nil) (xss_cons (xs_if (xt_eq (rm_def hr) (ha := (xe_ix (ha := (xe_var 0)) (hb := xe_int))) (hb := xe_str)) (xss_one (xs_ret (xr_call (dvs := []) (dd := []) ((ok_ever_of V).d hr (by omega)) .nil (fun _ => reps_nil) (xaa_v (xe_fz (xr_call (dvs := []) (dd := []) ((ok_soon_of V).d hr (by omega)) .nil (fun _ => reps_nil) (xaa_v (xe_ix (ha := (xe_var 1)) (hb := xe_int)) xaa_nil))) xaa_nil)))) xss_nil) (xss_cons (xs_if (xt_eq (rm_def hr) (ha := (xe_ix (ha := (xe_var 0)) (hb := xe_int))) (hb := xe_str)) (xss_one (xs_ret (xr_call (dvs := []) (dd := []) ((ok_soon_of V).d hr (by omega)) .nil (fun _ => reps_nil) (xaa_v (xe_fz (xr_call (dvs := []) (dd := []) ((ok_ever_of V).d hr (by omega)) .nil (fun _ => reps_nil) (xaa_v (xe_ix (ha := (xe_var 1)) (hb := xe_int)) xaa_nil))) xaa_nil)))) xss_nil) (xss_cons (xs_if (xt_eq (rm_def hr) (ha := (xe_ix (ha := (xe_var 0)) (hb := xe_int))) (hb := xe_str)) (xss_one (xs_ret (xr_d (xe_tup (xa_cons xe_str (xa_cons (xe_tup (xa_cons xe_str (xa_cons (xe_ix (ha := (xe_var 1)) (hb := xe_int)) xa_nil))) (xa_cons (xe_ix (ha := (xe_var 1)) (hb := xe_int)) xa_nil))))))) xss_nil) (xss_one (xs_ret (xr_d (xe_add (ha := (xe_tup (xa_cons (xe_ix (ha := (xe_var 0)) (hb := xe_int)) xa_nil))) (hb := (xe_tuple (fun _ => V.n_tuple) (xa_cons (xe_var 1) xa_nil))))))))))))))))
theorem ok_plain_of (V : Vx w K mg) : ∀ n, FnG P w (tb K) mg base "plain_of" 1 (F_plain_of n) (2 + n)
  | 0 => (fng_g (k := 1) V.f_plain_of sc_plain_of (fun _ _ _ _ _ _ _ _ => xss_never)).mono (by omega)
  | n + 1 => (fng_g V.f_plain_of sc_plain_of (does_plain_of V _ n (ok_plain_of V n)))
theorem does_pushed_of (V : Vx w K mg) (f : Fn) (n : Nat) (H_pushed_of : FnG P w (tb K) mg base "pushed_of" 2 f (1 + n)) : Does P w (tb K) mg base N_pushed_of "pushed_of" s_pushed_of (1 + n) kNo (b_pushed_of f) := by
  intro f cdv A outer s H E hr
  unfold b_pushed_of
  exact (xss_cons (xs_if (xt_eq (rm_def hr) (ha := (xe_ix (ha := (xe_var 0)) (hb := xe_int))) (hb := xe_str)) (xss_one (xs_ret (xr_call (dvs := []) (dd := []) (H_pushed_of.d hr (by omega)) .nil (fun _ => reps_nil) (xaa_v (xe_ix (ha := (xe_var 0)) (hb := xe_int)) (xaa_v (xe_not (xe_var 1)) xaa_nil))))) xss_nil) (xss_cons (xs_if (xt_w (xw_and (xt_eq (rm_def hr) (ha := (xe_ix (ha := (xe_var 0)) (hb := xe_int))) (hb := xe_str)) (xw_and1 (xt_val (xe_var 1))))) (xss_one (xs_ret (xr_d (xe_tup (xa_cons xe_str (xa_cons (xe_var 0) xa_nil)))))) xss_nil) (xss_cons (xs_if (xt_eq (rm_def hr) (ha := (xe_ix (ha := (xe_var 0)) (hb := xe_int))) (hb := xe_str)) (xss_one (xs_ret (xr_d (xe_var 0)))) xss_nil) (xss_cons (xs_set 2 (fun _ => sc_pushed_of.nd) (xr_d (xe_ix (ha := (xe_var 0)) (hb := xe_int)))) (xss_cons (xs_if (xt_val (xe_var 1)) (xss_one (xs_set 2 (fun _ => sc_pushed_of.nd) (xr_d (xe_gk V.c_DUALS (xe_var 2))))) xss_nil) (xss_one (xs_ret (xr_d (xe_add (ha := (xe_tup (xa_cons (xe_var 2) xa_nil))) (hb := (xe_tuple (fun _ => V.n_tuple) (xa_cons (xe_fz (xr_lc (own := [("part", 3)]) (fun _ => sc_pushed_of.nd) (xi_tup (h := (xe_sl (ha := (xe_var 0)) (hl := (xo_some xe_int)) (hh := xo_none)))) (fun _ => show BlkOk N_pushed_of (defScope s_pushed_of) _ _ from blkOk_by (by decide +kernel)) (xgb_name 3 (by simp) (fun _ => sc_pushed_of.nd)) xts_nil (xe_fz (xr_call (dvs := []) (dd := []) (H_pushed_of.b hr (by omega)) .nil (fun _ => reps_nil) (xaa_v (xe_var 3) (xaa_v (xe_var 1) xaa_nil)))))) xa_nil))))))))))))
theorem ok_pushed_of (V : Vx w K mg) : ∀ n, FnG P w (tb K) mg base "pushed_of" 2 (F_pushed_of n) (1 + n)
  | 0 => (fng_g (k := 0) V.f_pushed_of sc_pushed_of (fun _ _ _ _ _ _ _ _ => xss_never)).mono (by omega)
  | n + 1 => (fng_g V.f_pushed_of sc_pushed_of (does_pushed_of V _ n (ok_pushed_of V n)))
theorem does_pushed (V : Vx w K mg) : Does P w (tb K) mg base N_pushed "pushed" s_pushed 46 kNo b_pushed := by
  intro f cdv A outer s H E hr
  unfold b_pushed
  exact (xss_one (xs_ret (xr_call (dvs := []) (dd := []) ((ok_statement_of V).d hr (by omega)) .nil (fun _ => reps_nil) (xaa_v (xe_fz (xr_call (dvs := []) (dd := []) ((ok_pushed_of V 40).d hr (by omega)) .nil (fun _ => reps_nil) (xaa_v (xe_fz (xr_call (dvs := []) (dd := []) ((ok_plain_of V 40).d hr (by omega)) .nil (fun _ => reps_nil) (xaa_v (xe_fz (xr_meth0 ((tok_tree V 40).d hr (by omega)) (tok_tree V 40 (P := P) (base := base)).nf (xe_var 0))) xaa_nil))) (xaa_v xe_bl xaa_nil)))) xaa_nil))))
theorem ok_pushed (V : Vx w K mg) : FnG P w (tb K) mg base "pushed" 1 F_pushed 47 := fng_g V.f_pushed sc_pushed (does_pushed V)
theorem does_is_pushed (V : Vx w K mg) : Does P w (tb K) mg base N_is_pushed "is_pushed" s_is_pushed 43 kNo b_is_pushed := by
  intro f cdv A outer s H E hr
  unfold b_is_pushed
  exact (xss_cons (xs_set 1 (fun _ => sc_is_pushed.nd) (xr_meth0 ((tok_tree V 40).d hr (by omega)) (tok_tree V 40 (P := P) (base := base)).nf (xe_var 0))) (xss_one (xs_ret (xr_d (xe_eq (rm_def hr) (ha := (xe_fz (xr_call (dvs := []) (dd := []) ((ok_pushed_of V 40).d hr (by omega)) .nil (fun _ => reps_nil) (xaa_v (xe_fz (xr_call (dvs := []) (dd := []) ((ok_plain_of V 40).d hr (by omega)) .nil (fun _ => reps_nil) (xaa_v (xe_var 1) xaa_nil))) (xaa_v xe_bl xaa_nil))))) (hb := (xe_var 1)))))))
theorem ok_is_pushed (V : Vx w K mg) : FnG P w (tb K) mg base "is_pushed" 1 F_is_pushed 44 := fng_g V.f_is_pushed sc_is_pushed (does_is_pushed V)
theorem does__law_begin (V : Vx w K mg) : Does P w (tb K) mg base N__law_begin "_law_begin" s__law_begin 0 kNo b__law_begin := by
  intro f cdv A outer s H E hr
  unfold b__law_begin
  exact (xss_one (xs_ret (xr_lst (xa_cons (xe_add (ha := (xe_len (fun _ => V.n_len) (xa_cons (xe_var 0) xa_nil))) (hb := xe_int)) (xa_cons (xe_var 0) (xa_cons xe_int xa_nil))))))
theorem ok__law_begin (V : Vx w K mg) : FnG P w (tb K) mg base "_law_begin" 1 F__law_begin 1 := fng_g V.f__law_begin sc__law_begin (does__law_begin V)
theorem does__law_next (V : Vx w K mg) : Does P w (tb K) mg base N__law_next "_law_next" s__law_next 0 k0 b__law_next := by
  intro f cdv A outer s H E hr
  unfold b__law_next
  exact (xss_cons (xs_set 1 (fun _ => sc__law_next.nd) (xr_d xe_int)) (xss_cons (xs_if (xt_full (xt_gt (xe_len (fun _ => V.n_len) (xa_cons (xe_ix (ha := (xe_var 0)) (hb := xe_int)) xa_nil)) xe_int)) (xss_one (xs_set 1 (fun _ => sc__law_next.nd) (xr_d (xe_full (xe_ix (ha := (xe_ix (ha := (xe_var 0)) (hb := xe_int))) (hb := (xe_mod (xe_ix (ha := (xe_var 0)) (hb := xe_int)) (xe_len (fun _ => V.n_len) (xa_cons (xe_ix (ha := (xe_var 0)) (hb := xe_int)) xa_nil))))))))) xss_nil) (xss_cons (xs_sub 0 (xe_full (xe_add (ha := (xe_ix (ha := (xe_var 0)) (hb := xe_int))) (hb := xe_int))) xe_int) (xss_cons (xs_sub 0 (xe_full (xe_mod (xe_add (ha := (xe_add (ha := (xe_mul (xe_ix (ha := (xe_var 0)) (hb := xe_int)) xe_int)) (hb := (xe_var 1)))) (hb := (xe_ix (ha := (xe_var 0)) (hb := xe_int)))) xe_int)) xe_int) (xss_one (xs_ret (xr_d (xe_full (xe_mod (xe_add (ha := (xe_mul (xe_ix (ha := (xe_var 0)) (hb := xe_int)) (xe_ix (ha := (xe_var 0)) (hb := xe_int)))) (hb := (xe_mul xe_int (xe_ix (ha := (xe_var 0)) (hb := xe_int))))) xe_int)))))))))
theorem ok__law_next (V : Vx w K mg) : FnG P w (tb K) mg base "_law_next" 1 F__law_next 1 := fng_g V.f__law_next sc__law_next (does__law_next V)
theorem does__law_mark_of (V : Vx w K mg) : Does P w (tb K) mg base N__law_mark_of "_law_mark_of" s__law_mark_of 0 kNo b__law_mark_of := by
  intro f cdv A outer s H E hr
  unfold b__law_mark_of
  exact (xss_cons (xs_set 1 (fun _ => sc__law_mark_of.nd) (xr_lst (xa_cons xe_str (xa_cons xe_str (xa_cons xe_str (xa_cons xe_str (xa_cons xe_str (xa_cons xe_str (xa_cons xe_str (xa_cons xe_str (xa_cons xe_str (xa_cons xe_str (xa_cons xe_str (xa_cons xe_str (xa_cons xe_str xa_nil))))))))))))))) (xss_cons (xs_if (xt_in (rm_def hr) (ha := (xe_var 0)) (hb := (xe_fz (xr_cat (xe_var 1) (xe_fz (xr_lst (xa_cons xe_str (xa_cons xe_str (xa_cons xe_str (xa_cons xe_str (xa_cons xe_str (xa_cons xe_str xa_nil)))))))))))) (xss_one (xs_ret (xr_d (xe_add (ha := (xe_var 0)) (hb := xe_str))))) xss_nil) (xss_one (xs_ret (xr_d (xe_var 0))))))
theorem ok__law_mark_of (V : Vx w K mg) : FnG P w (tb K) mg base "_law_mark_of" 1 F__law_mark_of 1 := fng_g V.f__law_mark_of sc__law_mark_of (does__law_mark_of V)
theorem does__law_marks (V : Vx w K mg) : Does P w (tb K) mg base N__law_marks "_law_marks" s__law_marks 1 k0 b__law_marks := by
  intro f cdv A outer s H E hr
  unfold b__law_marks
  exact (xss_cons (xs_set 1 (fun _ => sc__law_marks.nd) (xr_d xe_str)) (xss_cons (xs_set 2 (fun _ => sc__law_marks.nd) (xr_d (xe_add (ha := (xe_var 1)) (hb := xe_str)))) (xss_cons (xs_set 3 (fun _ => sc__law_marks.nd) (xr_d (xe_ix (ha := (xe_fz (xr_lst (xa_cons xe_int (xa_cons xe_int (xa_cons (xe_add (ha := xe_int) (hb := (xe_mod (xe_fz (xr_call (dvs := []) (dd := []) ((ok__law_next V).d hr (by omega)) .nil (fun _ => reps_nil) (xaa_o 0 xaa_nil))) xe_int))) xa_nil)))))) (hb := (xe_mod (xe_fz (xr_call (dvs := []) (dd := []) ((ok__law_next V).d hr (by omega)) .nil (fun _ => reps_nil) (xaa_o 0 xaa_nil))) xe_int))))) (xss_cons (xs_set 4 (fun _ => sc__law_marks.nd) (xr_d (xe_ix (ha := (xe_var 1)) (hb := (xe_mod (xe_fz (xr_call (dvs := []) (dd := []) ((ok__law_next V).d hr (by omega)) .nil (fun _ => reps_nil) (xaa_o 0 xaa_nil))) xe_int))))) (xss_cons (xs_for (xi_r1 (fun _ => V.n_range) (xa_cons (xe_sub (xe_var 3) xe_int) xa_nil)) (xg_name 5 (hN := (fun _ => sc__law_marks.nd))) (xss_one (xs_set 4 (fun _ => sc__law_marks.nd) (xr_d (xe_add (ha := (xe_var 4)) (hb := (xe_ix (ha := (xe_var 2)) (hb := (xe_mod (xe_fz (xr_call (dvs := []) (dd := []) ((ok__law_next V).d hr (by omega)) .nil (fun _ => reps_nil) (xaa_o 0 xaa_nil))) xe_int)))))))) own_def) (xss_cons (xs_if (xt_eq (rm_def hr) (ha := (xe_mod (xe_fz (xr_call (dvs := []) (dd := []) ((ok__law_next V).d hr (by omega)) .nil (fun _ => reps_nil) (xaa_o 0 xaa_nil))) xe_int)) (hb := xe_int)) (xss_one (xs_set 4 (fun _ => sc__law_marks.nd) (xr_d (xe_ix (ha := (xe_fz (xr_lst (xa_cons xe_str (xa_cons xe_str (xa_cons xe_str (xa_cons xe_str xa_nil))))))) (hb := (xe_mod (xe_fz (xr_call (dvs := []) (dd := []) ((ok__law_next V).d hr (by omega)) .nil (fun _ => reps_nil) (xaa_o 0 xaa_nil))) xe_int)))))) xss_nil) (xss_cons (xs_set 6 (fun _ => sc__law_marks.nd) (xr_d (xe_mod (xe_fz (xr_call (dvs := []) (dd := []) ((ok__law_next V).d hr (by omega)) .nil (fun _ => reps_nil) (xaa_o 0 xaa_nil))) (xe_len (fun _ => V.n_len) (xa_cons (xe_var 4) xa_nil))))) (xss_cons (xs_set 7 (fun _ => sc__law_marks.nd) (xr_d (xe_add (ha := xe_int) (hb := (xe_mod (xe_fz (xr_call (dvs := []) (dd := []) ((ok__law_next V).d hr (by omega)) .nil (fun _ => reps_nil) (xaa_o 0 xaa_nil))) xe_int))))) (xss_cons (xs_set 8 (fun _ => sc__law_marks.nd) (xr_d (xe_ix (ha := (xe_var 1)) (hb := (xe_mod (xe_add (ha := (xe_sindex (xe_var 1) (xa_cons (xe_ix (ha := (xe_var 4)) (hb := xe_int)) xa_nil))) (hb := (xe_var 7))) xe_int))))) (xss_cons (xs_if (xt_gt (xe_var 6) xe_int) (xss_one (xs_set 8 (fun _ => sc__law_marks.nd) (xr_d (xe_ix (ha := (xe_var 2)) (hb := (xe_mod (xe_add (ha := (xe_sindex (xe_var 2) (xa_cons (xe_ix (ha := (xe_var 4)) (hb := (xe_var 6))) xa_nil))) (hb := (xe_var 7))) xe_int)))))) xss_nil) (xss_cons (xs_set 9 (fun _ => sc__law_marks.nd) (xr_lst (xa_cons (xe_var 4) (xa_cons (xe_add (ha := (xe_var 4)) (hb := (xe_ix (ha := (xe_var 2)) (hb := (xe_var 7))))) (xa_cons (xe_add (ha := (xe_add (ha := (xe_sl (ha := (xe_var 4)) (hl := xo_none) (hh := (xo_some (xe_var 6))))) (hb := (xe_var 8)))) (hb := (xe_sl (ha := (xe_var 4)) (hl := (xo_some (xe_add (ha := (xe_var 6)) (hb := xe_int)))) (hh := xo_none)))) xa_nil))))) (xss_one (xs_ret (xr_lc (own := [("_law_one", 10)]) (fun _ => sc__law_marks.nd) (xi_lst (h := (xe_var 9))) (fun _ => show BlkOk N__law_marks (defScope s__law_marks) _ _ from blkOk_by (by decide +kernel)) (xgb_name 10 (by simp) (fun _ => sc__law_marks.nd)) xts_nil (xe_fz (xr_call (dvs := []) (dd := []) ((ok__law_mark_of V).b hr (by omega)) .nil (fun _ => reps_nil) (xaa_v (xe_var 10) xaa_nil)))))))))))))))))
theorem ok__law_marks (V : Vx w K mg) : FnG P w (tb K) mg base "_law_marks" 1 F__law_marks 2 := fng_g V.f__law_marks sc__law_marks (does__law_marks V)
theorem does__law_leaf (V : Vx w K mg) : Does P w (tb K) mg base N__law_leaf "_law_leaf" s__law_leaf 1 k0 b__law_leaf := by
  intro f cdv A outer s H E hr
  unfold b__law_leaf
  exact (xss_cons (xs_set 2 (fun _ => sc__law_leaf.nd) (xr_d (xe_mod (xe_fz (xr_call (dvs := []) (dd := []) ((ok__law_next V).d hr (by omega)) .nil (fun _ => reps_nil) (xaa_o 0 xaa_nil))) xe_int))) (xss_cons (xs_if (xt_lt (xe_var 2) xe_int) (xss_one (xs_ret (xr_d (xe_tup (xa_cons (xe_ix (ha := (xe_fz (xr_lst (xa_cons xe_str (xa_cons xe_str xa_nil))))) (hb := (xe_var 2))) xa_nil))))) xss_nil) (xss_one (xs_ret (xr_d (xe_tup (xa_cons xe_str (xa_cons (xe_ix (ha := (xe_var 1)) (hb := (xe_mod (xe_fz (xr_call (dvs := []) (dd := []) ((ok__law_next V).d hr (by omega)) .nil (fun _ => reps_nil) (xaa_o 0 xaa_nil))) (xe_len (fun _ => V.n_len) (xa_cons (xe_var 1) xa_nil))))) xa_nil))))))))
theorem ok__law_leaf (V : Vx w K mg) : FnG P w (tb K) mg base "_law_leaf" 2 F__law_leaf 2 := fng_g V.f__law_leaf sc__law_leaf (does__law_leaf V)
theorem does__law_tree (V : Vx w K mg) (f : Fn) (n : Nat) (H__law_tree : FnG P w (tb K) mg base "_law_tree" 4 f (3 + n)) : Does P w (tb K) mg base N__law_tree "_law_tree" s__law_tree (3 + n) k0 (b__law_tree f) := by
  intro f cdv A outer s H E hr
  unfold b__law_tree
  exact (xss_cons (xs_set 4 (fun _ => sc__law_tree.nd) (xr_call (dvs := []) (dd := []) ((ok__law_next V).d hr (by omega)) .nil (fun _ => reps_nil) (xaa_o 0 xaa_nil))) (xss_cons (xs_if (xt_w (xw_or (xt_lt (xe_var 2) xe_int) (xw_or (xt_lt (xe_var 3) xe_int) (xw_or1 (xt_eq (rm_def hr) (ha := (xe_mod (xe_var 4) xe_int)) (hb := xe_int)))))) (xss_one (xs_ret (xr_call (dvs := []) (dd := []) ((ok__law_leaf V).d hr (by omega)) .nil (fun _ => reps_nil) (xaa_o 0 (xaa_v (xe_var 1) xaa_nil))))) xss_nil) (xss_cons (xs_set 5 (fun _ => sc__law_tree.nd) (xr_lst (xa_cons xe_str (xa_cons xe_str (xa_cons xe_str (xa_cons xe_str (xa_cons xe_str (xa_cons xe_str (xa_cons xe_str (xa_cons xe_str (xa_cons xe_str (xa_cons xe_str (xa_cons xe_str xa_nil))))))))))))) (xss_cons (xs_set 6 (fun _ => sc__law_tree.nd) (xr_lst (xa_cons xe_str (xa_cons xe_str (xa_cons xe_str (xa_cons xe_str (xa_cons xe_str (xa_cons xe_str (xa_cons xe_str xa_nil))))))))) (xss_cons (xs_if (xt_w (xw_or (xt_eq (rm_def hr) (ha := (xe_var 2)) (hb := xe_int)) (xw_or1 (xt_lt (xe_mod (xe_var 4) xe_int) xe_int)))) (xss_one (xs_ret (xr_d (xe_tup (xa_cons (xe_ix (ha := (xe_var 5)) (hb := (xe_mod (xe_div (xe_var 4) xe_int) xe_int))) (xa_cons (xe_fz (xr_call (dvs := []) (dd := []) (H__law_tree.d hr (by omega)) .nil (fun _ => reps_nil) (xaa_o 0 (xaa_v (xe_var 1) (xaa_v (xe_sub (xe_var 2) xe_int) (xaa_v (xe_sub (xe_var 3) xe_int) xaa_nil)))))) xa_nil)))))) xss_nil) (xss_cons (xs_set 7 (fun _ => sc__law_tree.nd) (xr_d (xe_add (ha := xe_int) (hb := (xe_mod (xe_fz (xr_call (dvs := []) (dd := []) ((ok__law_next V).d hr (by omega)) .nil (fun _ => reps_nil) (xaa_o 0 xaa_nil))) (xe_sub (xe_var 2) xe_int)))))) (xss_cons (xs_set 8 (fun _ => sc__law_tree.nd) (xr_call (dvs := []) (dd := []) (H__law_tree.d hr (by omega)) .nil (fun _ => reps_nil) (xaa_o 0 (xaa_v (xe_var 1) (xaa_v (xe_var 7) (xaa_v (xe_sub (xe_var 3) xe_int) xaa_nil)))))) (xss_one (xs_ret (xr_d (xe_tup (xa_cons (xe_ix (ha := (xe_var 6)) (hb := (xe_mod (xe_div (xe_var 4) xe_int) xe_int))) (xa_cons (xe_var 8) (xa_cons (xe_fz (xr_call (dvs := []) (dd := []) (H__law_tree.d hr (by omega)) .nil (fun _ => reps_nil) (xaa_o 0 (xaa_v (xe_var 1) (xaa_v (xe_sub (xe_sub (xe_var 2) xe_int) (xe_var 7)) (xaa_v (xe_sub (xe_var 3) xe_int) xaa_nil)))))) xa_nil))))))))))))))
theorem ok__law_tree (V : Vx w K mg) : ∀ n, FnG P w (tb K) mg base "_law_tree" 4 (F__law_tree n) (3 + n)
  | 0 => (fng_g (k := 2) V.f__law_tree sc__law_tree (fun _ _ _ _ _ _ _ _ => xss_never)).mono (by omega)
  | n + 1 => (fng_g V.f__law_tree sc__law_tree (does__law_tree V _ n (ok__law_tree V n)))
theorem does__law_spoilt (V : Vx w K mg) (f : Fn) (n : Nat) (H__law_spoilt : FnG P w (tb K) mg base "_law_spoilt" 3 f (1 + n)) : Does P w (tb K) mg base N__law_spoilt "_law_spoilt" s__law_spoilt (1 + n) kNo (b__law_spoilt f) := by
  intro f cdv A outer s H E hr
  unfold b__law_spoilt
  exact (xss_cons (xs_if (xt_eq (rm_def hr) (ha := (xe_var 1)) (hb := xe_int)) (xss_cons (xs_set 3 (fun _ => sc__law_spoilt.nd) (xr_lst (xa_cons (xe_tup (xa_cons xe_str (xa_cons (xe_var 0) xa_nil))) (xa_cons (xe_tup (xa_cons xe_str (xa_cons (xe_tup (xa_cons xe_str (xa_cons (xe_var 0) xa_nil))) xa_nil))) (xa_cons (xe_tup (xa_cons xe_str (xa_cons (xe_var 0) xa_nil))) (xa_cons (xe_tup (xa_cons xe_str (xa_cons (xe_tup (xa_cons xe_str xa_nil)) (xa_cons (xe_var 0) xa_nil)))) (xa_cons (xe_tup (xa_cons xe_str (xa_cons (xe_var 0) xa_nil))) (xa_cons (xe_var 0) xa_nil)))))))) (xss_cons (xs_set 3 (fun _ => sc__law_spoilt.nd) (xr_cat (xe_var 3) (xe_fz (xr_lst (xa_cons (xe_tup (xa_cons xe_str (xa_cons (xe_var 0) xa_nil))) (xa_cons (xe_tup (xa_cons xe_str (xa_cons (xe_var 0) xa_nil))) (xa_cons (xe_tup (xa_cons xe_str (xa_cons (xe_var 0) xa_nil))) (xa_cons (xe_tup (xa_cons xe_str (xa_cons (xe_var 0) xa_nil))) (xa_cons (xe_tup (xa_cons xe_str (xa_cons (xe_var 0) xa_nil))) xa_nil))))))))) (xss_one (xs_ret (xr_d (xe_tup (xa_cons (xe_ix (ha := (xe_var 3)) (hb := (xe_mod (xe_var 2) xe_int))) (xa_cons (xe_neg xe_int) xa_nil)))))))) xss_nil) (xss_cons (xs_set 1 (fun _ => sc__law_spoilt.nd) (xr_d (xe_sub (xe_var 1) xe_int))) (xss_cons (xs_if (xt_eq (rm_def hr) (ha := (xe_ix (ha := (xe_var 0)) (hb := xe_int))) (hb := xe_str)) (xss_one (xs_ret (xr_d (xe_tup (xa_cons (xe_var 0) (xa_cons (xe_var 1) xa_nil)))))) xss_nil) (xss_cons (xs_set 4 (fun _ => sc__law_spoilt.nd) (xr_lst xa_nil)) (xss_cons (xs_for (xi_tup (h := (xe_sl (ha := (xe_var 0)) (hl := (xo_some xe_int)) (hh := xo_none)))) (xg_name 5 (hN := (fun _ => sc__law_spoilt.nd))) (xss_cons (xs_if (xt_ge (xe_var 1) xe_int) (xss_one (xs_asg (xe_fz (xr_call (dvs := []) (dd := []) (H__law_spoilt.d hr (by omega)) .nil (fun _ => reps_nil) (xaa_v (xe_var 5) (xaa_v (xe_var 1) (xaa_v (xe_var 2) xaa_nil))))) (xg_tup (n := 2) (h := (xgs_cons (xg_name 5 (hN := (fun _ => sc__law_spoilt.nd))) (xgs_cons (xg_name 1 (hN := (fun _ => sc__law_spoilt.nd))) xgs_nil)))))) xss_nil) (xss_one (xs_app 4 (xe_var 5)))) own_def) (xss_one (xs_ret (xr_d (xe_tup (xa_cons (xe_add (ha := (xe_tup (xa_cons (xe_ix (ha := (xe_var 0)) (hb := xe_int)) xa_nil))) (hb := (xe_tuple (fun _ => V.n_tuple) (xa_cons (xe_var 4) xa_nil)))) (xa_cons (xe_var 1) xa_nil)))))))))))
theorem ok__law_spoilt (V : Vx w K mg) : ∀ n, FnG P w (tb K) mg base "_law_spoilt" 3 (F__law_spoilt n) (1 + n)
  | 0 => (fng_g (k := 0) V.f__law_spoilt sc__law_spoilt (fun _ _ _ _ _ _ _ _ => xss_never)).mono (by omega)
  | n + 1 => (fng_g V.f__law_spoilt sc__law_spoilt (does__law_spoilt V _ n (ok__law_spoilt V n)))
theorem does__law_is_pushed (V : Vx w K mg) (f : Fn) (n : Nat) (H__law_is_pushed : FnG P w (tb K) mg base "_law_is_pushed" 1 f (1 + n)) : Does P w (tb K) mg base N__law_is_pushed "_law_is_pushed" s__law_is_pushed (1 + n) kNo (b__law_is_pushed f) := by
  intro f cdv A outer s H E hr
  unfold b__law_is_pushed
  exact (xss_cons (xs_if (xt_eq (rm_def hr) (ha := (xe_ix (ha := (xe_var 0)) (hb := xe_int))) (hb := xe_str)) (xss_one (xs_ret (xr_d xe_bl))) xss_nil) (xss_cons (xs_if (xt_eq (rm_def hr) (ha := (xe_ix (ha := (xe_var 0)) (hb := xe_int))) (hb := xe_str)) (xss_one (xs_ret (xr_d (xe_eq (rm_def hr) (ha := (xe_ix (ha := (xe_ix (ha := (xe_var 0)) (hb := xe_int))) (hb := xe_int))) (hb := xe_str))))) xss_nil) (xss_cons (xs_if (xt_in (rm_def hr) (ha := (xe_ix (ha := (xe_var 0)) (hb := xe_int))) (hb := (xe_tup (xa_cons xe_str (xa_cons xe_str (xa_cons xe_str (xa_cons xe_str (xa_cons xe_str (xa_cons xe_str (xa_cons xe_str xa_nil)))))))))) (xss_one (xs_ret (xr_d xe_bl))) xss_nil) (xss_one (xs_ret (xr_d (xe_all (fun _ => V.n_all) (xa_cons (xe_fz (xr_lc (own := [("_law_one", 1)]) (fun _ => sc__law_is_pushed.nd) (xi_seq (h := (xe_sl (ha := (xe_var 0)) (hl := (xo_some xe_int)) (hh := xo_none)))) (fun _ => show BlkOk N__law_is_pushed (defScope s__law_is_pushed) _ _ from blkOk_by (by decide +kernel)) (xgb_name 1 (by simp) (fun _ => sc__law_is_pushed.nd)) xts_nil (xe_fz (xr_call (dvs := []) (dd := []) (H__law_is_pushed.b hr (by omega)) .nil (fun _ => reps_nil) (xaa_v (xe_var 1) xaa_nil))))) xa_nil))))))))
theorem ok__law_is_pushed (V : Vx w K mg) : ∀ n, FnG P w (tb K) mg base "_law_is_pushed" 1 (F__law_is_pushed n) (1 + n)
  | 0 => (fng_g (k := 0) V.f__law_is_pushed sc__law_is_pushed (fun _ _ _ _ _ _ _ _ => xss_never)).mono (by omega)
  | n + 1 => (fng_g V.f__law_is_pushed sc__law_is_pushed (does__law_is_pushed V _ n (ok__law_is_pushed V n)))
theorem does_law (V : Vx w K mg) : Does P w (tb K) mg base N_law "law" s_law 47 kNo b_law := by
  intro f cdv A outer s H E hr
  unfold b_law
  exact (xss_cons (xs_set 1 (fun _ => sc_law.nd) (xr_call (dvs := []) (dd := []) ((ok__law_begin V).d hr (by omega)) .nil (fun _ => reps_nil) (xaa_v (xe_var 0) xaa_nil))) (xss_cons (xs_set 2 (fun _ => sc_law.nd) (xr_call (dvs := []) (dd := []) ((ok__law_marks V).d hr (by omega)) .nil (fun _ => reps_nil) (xaa_o 1 xaa_nil))) (xss_cons (xs_set 3 (fun _ => sc_law.nd) (xr_meth0 ((tok_tree V 40).d hr (by omega)) (tok_tree V 40 (P := P) (base := base)).nf (xe_fz (xr_call (dvs := []) (dd := []) ((ok_pushed V).d hr (by omega)) .nil (fun _ => reps_nil) (xaa_v (xe_fz (xr_call (dvs := []) (dd := []) ((ok_statement_of V).d hr (by omega)) .nil (fun _ => reps_nil) (xaa_v (xe_fz (xr_call (dvs := []) (dd := []) ((ok__law_tree V 40).d hr (by omega)) .nil (fun _ => reps_nil) (xaa_o 1 (xaa_v (xe_var 2) (xaa_v (xe_add (ha := xe_int) (hb := (xe_mod (xe_fz (xr_call (dvs := []) (dd := []) ((ok__law_next V).d hr (by omega)) .nil (fun _ => reps_nil) (xaa_o 1 xaa_nil))) xe_int))) (xaa_v xe_int xaa_nil)))))) xaa_nil))) xaa_nil))))) (xss_cons (xs_for (xi_r1 (fun _ => V.n_range) (xa_cons xe_int xa_nil)) (xg_name 4 (hN := (fun _ => sc_law.nd))) (xss_cons (xs_set 5 (fun _ => sc_law.nd) (xr_d (xe_ix (ha := (xe_fz (xr_call (dvs := []) (dd := []) ((ok__law_spoilt V 40).d hr (by omega)) .nil (fun _ => reps_nil) (xaa_v (xe_var 3) (xaa_v (xe_mod (xe_fz (xr_call (dvs := []) (dd := []) ((ok__law_next V).d hr (by omega)) .nil (fun _ => reps_nil) (xaa_o 1 xaa_nil))) xe_int) (xaa_v (xe_fz (xr_call (dvs := []) (dd := []) ((ok__law_next V).d hr (by omega)) .nil (fun _ => reps_nil) (xaa_o 1 xaa_nil))) xaa_nil)))))) (hb := xe_int)))) (xss_cons (xs_set 6 (fun _ => sc_law.nd) (xr_call (dvs := []) (dd := []) ((ok_is_pushed V).d hr (by omega)) .nil (fun _ => reps_nil) (xaa_v (xe_fz (xr_call (dvs := []) (dd := []) ((ok_statement_of V).d hr (by omega)) .nil (fun _ => reps_nil) (xaa_v (xe_var 5) xaa_nil))) xaa_nil))) (xss_one (xs_if (xt_w (xw_or (xt_not (xt_val (xe_isi (c := "bool") (by decide) (by decide +kernel) (fun _ => V.n_isinstance) (fun _ => V.n_bool) (xe_var 6)))) (xw_or1 (xt_ne (rm_def hr) (ha := (xe_var 6)) (hb := (xe_fz (xr_call (dvs := []) (dd := []) ((ok__law_is_pushed V 40).d hr (by omega)) .nil (fun _ => reps_nil) (xaa_v (xe_var 5) xaa_nil)))))))) (xss_one (xs_ret (xr_d xe_bl))) xss_nil)))) own_def) (xss_one (xs_ret (xr_d (xe_is (xe_fz (xr_call (dvs := []) (dd := []) ((ok_is_pushed V).d hr (by omega)) .nil (fun _ => reps_nil) (xaa_v (xe_fz (xr_call (dvs := []) (dd := []) ((ok_statement_of V).d hr (by omega)) .nil (fun _ => reps_nil) (xaa_v (xe_var 3) xaa_nil))) xaa_nil))) xe_bl))))))))
theorem ok_law (V : Vx w K mg) : FnG P w (tb K) mg base "law" 1 F_law 48 := fng_g V.f_law sc_law (does_law V)
end
end K23

-- text P2
set_option Elab.async false
set_option linter.all false
set_option maxRecDepth 100000
set_option maxHeartbeats 2000000
namespace K23
open PySem hiding ret
open Fz
inductive W1 | nt | nx | bf | er | so | ev | on | sf | ag | se
inductive W2 | an | orr | th | un | si | fr | he
def W1.s : W1 → Str
  | .nt => "not" | .nx => "next" | .bf => "before" | .er => "early" | .so => "soon" | .ev => "ever" | .on => "once" | .sf => "sofar" | .ag => "again" | .se => "settles"
def W2.s : W2 → Str
  | .an => "and" | .orr => "or" | .th => "then" | .un => "until" | .si => "since" | .fr => "frees" | .he => "held"
inductive Tr | yes | no | now (m : Str) | one (w : W1) (t : Tr) | two (w : W2) (a b : Tr)
def dt : Tr → D
  | .yes => .tup [.str "yes"]
  | .no => .tup [.str "no"]
  | .now m => .tup [.str "now", .str m]
  | .one w t => .tup [.str w.s, dt t]
  | .two w a b => .tup [.str w.s, dt a, dt b]
def W1.c : W1 → Nat
  | .nt => 8 | .nx => 9 | .bf => 10 | .er => 11 | .so => 12 | .ev => 13 | .on => 14 | .sf => 15 | .ag => 16 | .se => 17
def W2.c : W2 → Nat
  | .an => 18 | .orr => 19 | .th => 20 | .un => 21 | .si => 22 | .fr => 23 | .he => 24
def ob : Tr → D
  | .yes => .obj 3 []
  | .no => .obj 4 []
  | .now m => .obj 5 [.str m]
  | .one w t => .obj w.c [ob t]
  | .two w a b => .obj w.c [ob a, ob b]
/-- a good mark -/
def good (m : Str) : Prop := F_is_mark [.d (.str m)] = some (.v (.d (.bl true)), [.d (.str m)])
def ok : Tr → Prop
  | .now m => good m
  | .one _ t => ok t
  | .two _ a b => ok a ∧ ok b
  | _ => True
def dp : Tr → Nat
  | .one _ t => dp t + 1
  | .two _ a b => max (dp a) (dp b) + 1
  | _ => 1
theorem same_str (a b : Str) : same (.str a) (.str b) = decide (a = b) := by
  show (a == b) = _
  exact rfl
theorem eq_str (a b : Str) : dEq (.str a) (.str b) = some (.bl (decide (a = b))) := by
  show some (D.bl (same (.str a) (.str b))) = _
  rw [same_str]
theorem eq_int (a b : Int) : dEq (.int a) (.int b) = some (.bl (decide (a = b))) := by
  show some (D.bl (a == b)) = _
  exact rfl
theorem ix0 (x : D) (xs : List D) : dIx (.tup (x :: xs)) (.int 0) = some x := by
  show L2.atI (x :: xs) 0 = some x
  have : (0 : Int) < (xs.length : Int) + 1 := by omega
  simp [L2.atI, L2.ixN, this]
theorem ix1 (x y : D) (xs : List D) : dIx (.tup (x :: y :: xs)) (.int 1) = some y := by
  show L2.atI (x :: y :: xs) 1 = some y
  have : (1 : Int) < (xs.length : Int) + 1 + 1 := by omega
  simp [L2.atI, L2.ixN, this]
theorem ix2 (x y z : D) (xs : List D) : dIx (.tup (x :: y :: z :: xs)) (.int 2) = some z := by
  show L2.atI (x :: y :: z :: xs) 2 = some z
  have : (2 : Int) < (xs.length : Int) + 1 + 1 + 1 := by omega
  simp [L2.atI, L2.ixN, this]
theorem len_t (xs : List D) : dLen [.tup xs] = some (.int (xs.length : Nat)) := rfl
theorem len_l (xs : List D) : dLen [.lst xs] = some (.int (xs.length : Nat)) := rfl
theorem isi_s (s : Str) : dIsi "str" (.str s) = some (.bl true) := rfl
theorem isi_t (s : List D) : dIsi "tuple" (.tup s) = some (.bl true) := rfl
theorem isi_b (s : Bool) : dIsi "bool" (.bl s) = some (.bl true) := rfl
theorem in_yn (s : Str) : dIn (.str s) (.tup [.str "yes", .str "no"]) = some (.bl (decide (s = "yes") || decide (s = "no"))) := by
  show some (D.bl ([D.str "yes", D.str "no"].any fun z => same z (.str s))) = _
  simp only [List.any_cons, List.any_nil, same_str, Bool.or_false, eq_comm]
theorem form_ok : ∀ t, ok t → F_is_form [.d (dt t)] = some (.v (.d (.bl true)), [.d (dt t)]) := by
  intro t h
  cases t with
  | yes => rfl
  | no => rfl
  | now m =>
    have h : F_is_mark [.d (.str m)] = _ := h
    have e1 : decide (("now" : Str) = "yes") = false := by decide +kernel
    have e2 : decide (("now" : Str) = "no") = false := by decide +kernel
    simp [F_is_form, b_is_form, dt, fnOf, fnEnd, outs, sSeq, sNext, sSet, sAsg, sIf, sRet, sRetN, sDrop, rMv, bnd, Fz.ret, opt, eVar, eUn, eBin, eCons, eNil, eOp, eTup, rD, rOp, rLst, eFz, wholeB, vw, eFull, tFull, rFull, vwN, eTst, cAnd, cOr, cNot, eIf, rIf, eAnd, eOr, eNot, callF, rCall, aNil, aV, aO, getA, putA, owns, isD, oNone, oSome, eSl, gN, gT, gsC, gsN, iTupl, iLst, iSeq, ix0, ix1, len_t, isi_s, isi_t, eq_int, eq_str, in_yn, e1, e2, h, sizeLine]
  | one w t => cases w <;> rfl
  | two w a b => cases w <;> rfl

/-! ### a comprehension whose block is a plain function -/
inductive Two {α β : Type} (R : α → β → Prop) : List α → List β → Prop
  | nil : Two R [] []
  | cons {a b as bs} : R a b → Two R as bs → Two R (a :: as) (b :: bs)
theorem Two.of_map {α β γ : Type} {R : α → β → Prop} {p : γ → α} {q : γ → β} : ∀ l : List γ, (∀ x ∈ l, R (p x) (q x)) → Two R (l.map p) (l.map q)
  | [], _ => .nil
  | x :: l, h => .cons (h x List.mem_cons_self) (Two.of_map l fun y hy => h y (List.mem_cons_of_mem _ hy))
theorem lcL_two {g : D → Sl → Option Sl} {c : M Bool} {e : M D} {vs : List Nat} {s : Sl} {ds ys : List D} (h : Two (fun d y => ∃ s1 s2 s3, g d s = some s1 ∧ c s1 = some (.v true, s2) ∧ e s2 = some (.v y, s3) ∧ wipeS s3 vs = s) ds ys) : ∀ acc : List D, acc.length + ds.length ≤ sizeLine → lcL g c e vs ds acc s = some (acc ++ ys, s) := by
  induction h with
  | nil => intro acc _; simp [lcL]
  | @cons d y as bs h1 t ih =>
    intro acc hl
    obtain ⟨s1, s2, s3, h1, h2, h3, h4⟩ := h1
    have hlt : acc.length < sizeLine := by simp only [List.length_cons] at hl; omega
    have ih := ih (acc ++ [y]) (by simp only [List.length_append, List.length_cons, List.length_nil] at hl ⊢; omega)
    simp only [lcL, h1, h2, h3, hlt, if_true, h4, ih]
    simp
theorem set_none {s : Sl} {i : Nat} {v : Option R} (hi : s[i]? = some none) : (s.set i v).set i none = s := by
  rw [List.set_set]
  apply List.ext_getElem?
  intro j
  have hlt : i < s.length := (List.getElem?_eq_some_iff.mp hi).1
  by_cases hj : i = j
  · subst hj; rw [List.getElem?_set_self hlt, hi]
  · rw [List.getElem?_set_ne hj]
/-- [f(x) for x in ..], f a def of one argument -/
theorem lc_call {i : Nat} {F : Fn} {s : Sl} {ds ys : List D} (hF : Two (fun d y => ∃ r, F [.d d] = some (.v r, [.d d]) ∧ wholeB nf r = true ∧ vw r = y) ds ys) (hl : ds.length ≤ sizeLine) (hi : s[i]? = some none) :
    lcL (gN i) cYes (eFz nf (rCall 1 F [] (aV (eVar i) aNil))) [i] ds [] s = some (ys, s) := by
  have hlt : i < s.length := (List.getElem?_eq_some_iff.mp hi).1
  have gen : ∀ {ds ys : List D}, Two (fun d y => ∃ r, F [.d d] = some (.v r, [.d d]) ∧ wholeB nf r = true ∧ vw r = y) ds ys → Two (fun d y => ∃ s1 s2 s3, gN i d s = some s1 ∧ cYes s1 = some (.v true, s2) ∧ eFz nf (rCall 1 F [] (aV (eVar i) aNil)) s2 = some (.v y, s3) ∧ wipeS s3 [i] = s) ds ys := by
    intro ds ys h
    induction h with
    | nil => exact .nil
    | @cons d y as bs h1 t ih =>
      refine .cons ?_ ih
      obtain ⟨r, h1, h2, h3⟩ := h1
      have e1 : (s.set i (some (R.d d)))[i]? = some (some (R.d d)) := by rw [List.getElem?_set_self hlt]
      refine ⟨s.set i (some (.d d)), s.set i (some (.d d)), s.set i (some (.d d)), rfl, rfl, ?_, set_none hi⟩
      have h2' : wholeB nf r = true := h2
      simp [eFz, bnd, rCall, aV, aNil, eVar, e1, Fz.ret, callF, getA, owns, h1, putA, opt, h2', h3]
  have := lcL_two (gen hF) [] (by simpa using hl)
  simpa using this
/-! ### built -/
def kids : Tr → List Tr
  | .one _ t => [t]
  | .two _ a b => [a, b]
  | _ => []
def obR : Tr → R
  | .yes => .oi 3 []
  | .no => .oi 4 []
  | .now m => .oi 5 [.str m]
  | .one w t => .oi w.c [ob t]
  | .two w a b => .oi w.c [ob a, ob b]
theorem vw_ob (t : Tr) : vw (obR t) = ob t := by cases t <;> rfl
theorem wh_ob (t : Tr) : wholeB nf (obR t) = true := by
  cases t with
  | one w t => cases w <;> rfl
  | two w a b => cases w <;> rfl
  | _ => rfl
theorem now_init (m : Str) (h : good m) : F_Now___init__ [.oi 5 [], .d (.str m)] = some (.v (.d .non), [.oi 5 [.str m], .d (.str m)]) := by
  have h : F_is_mark [.d (.str m)] = _ := h
  simp [F_Now___init__, b_Now___init__, fnOf, fnEnd, outs, sSeq, sNext, sSet, sAsg, sIf, sRet, sRetN, sDrop, rMv, bnd, Fz.ret, opt, eVar, eUn, eBin, eCons, eNil, eOp, eTup, rD, rOp, rLst, eFz, wholeB, vw, eFull, tFull, rFull, vwN, eTst, cAnd, cOr, cNot, eIf, rIf, eAnd, eOr, eNot, callF, rCall, aNil, aV, aO, getA, putA, owns, isD, oNone, oSome, eSl, gN, gT, gsC, gsN, iTupl, iLst, iSeq, sFldSet, ix_mark, h]
theorem one_init (c : Nat) (x : D) (hc : ix_one c = some 0) : F_OfOne___init__ [.oi c [], .d x] = some (.v (.d .non), [.oi c [x], .d x]) := by
  simp [F_OfOne___init__, b_OfOne___init__, fnOf, fnEnd, outs, sSeq, sNext, sSet, sAsg, sIf, sRet, sRetN, sDrop, rMv, bnd, Fz.ret, opt, eVar, eUn, eBin, eCons, eNil, eOp, eTup, rD, rOp, rLst, eFz, wholeB, vw, eFull, tFull, rFull, vwN, eTst, cAnd, cOr, cNot, eIf, rIf, eAnd, eOr, eNot, callF, rCall, aNil, aV, aO, getA, putA, owns, isD, oNone, oSome, eSl, gN, gT, gsC, gsN, iTupl, iLst, iSeq, sFldSet, hc]
theorem two_init (c : Nat) (x y : D) (hc : ix_one c = some 0) (hd : ix_other c = some 1) : F_OfTwo___init__ [.oi c [], .d x, .d y] = some (.v (.d .non), [.oi c [x, y], .d x, .d y]) := by
  simp [F_OfTwo___init__, b_OfTwo___init__, fnOf, fnEnd, outs, sSeq, sNext, sSet, sAsg, sIf, sRet, sRetN, sDrop, rMv, bnd, Fz.ret, opt, eVar, eUn, eBin, eCons, eNil, eOp, eTup, rD, rOp, rLst, eFz, wholeB, vw, eFull, tFull, rFull, vwN, eTst, cAnd, cOr, cNot, eIf, rIf, eAnd, eOr, eNot, callF, rCall, aNil, aV, aO, getA, putA, owns, isD, oNone, oSome, eSl, gN, gT, gsC, gsN, iTupl, iLst, iSeq, sFldSet, hc, hd]
theorem ofone_ok (w : W1) (x : D) : F_of_one [.d (.str w.s), .d x] = some (.v (.oi w.c [x]), [.d (.str w.s), .d x]) := by
  cases w <;> rfl
theorem oftwo_ok (w : W2) (x y : D) : F_of_two [.d (.str w.s), .d x, .d y] = some (.v (.oi w.c [x, y]), [.d (.str w.s), .d x, .d y]) := by
  cases w <;> rfl
theorem plain_ob (t : Tr) : plain (ob t) = false := by cases t <;> rfl
theorem eqL_one (t : Tr) : dEqL (.lst [ob t]) (.lst []) = some (.bl false) := by
  have : dEq (.lst [ob t]) (.lst []) = none := by
    unfold dEq cok
    have : plain (.lst [ob t]) = false := by show (plain (ob t) && true) = false; rw [plain_ob]; rfl
    rw [this]; rfl
  unfold dEqL
  rw [this]; rfl
theorem eqL_two (a b : Tr) : dEqL (.lst [ob a, ob b]) (.lst []) = some (.bl false) := by
  have : dEq (.lst [ob a, ob b]) (.lst []) = none := by
    unfold dEq cok
    have : plain (.lst [ob a, ob b]) = false := by show (plain (ob a) && _) = false; rw [plain_ob]; rfl
    rw [this]; rfl
  unfold dEqL
  rw [this]; rfl
theorem w1_now (w : W1) : decide (w.s = "now") = false := by cases w <;> decide +kernel
theorem w2_now (w : W2) : decide (w.s = "now") = false := by cases w <;> decide +kernel
theorem sq {f g : MS} {st s : Sl} (h : f st = some (.nx, s)) : sSeq f g st = g s := by unfold sSeq; rw [h]
theorem rLc_eq {it : M (List D)} {g : D → Sl → Option Sl} {c : M Bool} {e : M D} {vs : List Nat} {st s s' : Sl} {ds ys : List D} (h1 : it st = some (.v ds, s)) (h2 : vs.all (fun i => !isOwned (s.getD i none)) = true) (h3 : lcL g c e vs ds [] (wipeS s vs) = some (ys, s')) : rLc it g c e vs st = some (.v (.ol ys), backS s s' vs) := by
  unfold rLc; rw [h1]; dsimp only; rw [if_pos h2, h3]
theorem set_r {i : Nat} {m : M R} {st s : Sl} {r : R} (h : m st = some (.v r, s)) : sSet i m st = some (.nx, s.set i (some r)) := by unfold sSet; rw [h]
theorem fn_rt {n N : Nat} {kp : Nat → Bool} {body : MS} {rs qs : List R} {r : R} {s : Sl} (hn : rs.length = n) (h : body (rs.map some ++ List.replicate (N - n) none) = some (.rt r, s)) (ho : outs kp 0 rs s = some qs) : fnOf n N kp body rs = some (.v r, qs) := by
  unfold fnOf; rw [if_pos hn, h]; dsimp only; unfold fnEnd; rw [ho]; rfl
theorem fn_nx {n N : Nat} {kp : Nat → Bool} {body : MS} {rs qs : List R} {s : Sl} (hn : rs.length = n) (h : body (rs.map some ++ List.replicate (N - n) none) = some (.nx, s)) (ho : outs kp 0 rs s = some qs) : fnOf n N kp body rs = some (.v (.d .non), qs) := by
  unfold fnOf; rw [if_pos hn, h]; dsimp only; unfold fnEnd; rw [ho]; rfl
theorem built_ok : ∀ t, ok t → ∀ n, dp t ≤ n → F_built n [.d (dt t)] = some (.v (obR t), [.d (dt t)]) := by
  intro t
  induction t with
  | yes => intro _ n hn; cases n with | zero => simp [dp] at hn | succ n => rfl
  | no => intro _ n hn; cases n with | zero => simp [dp] at hn | succ n => rfl
  | now m =>
    intro h n hn
    cases n with
    | zero => simp [dp] at hn
    | succ n =>
      have h1 := now_init m h
      simp [F_built, b_built, dt, fnOf, fnEnd, outs, sSeq, sNext, sSet, sAsg, sIf, sRet, sRetN, sDrop, rMv, bnd, Fz.ret, opt, eVar, eUn, eBin, eCons, eNil, eOp, eTup, rD, rOp, rLst, eFz, wholeB, vw, eFull, tFull, rFull, vwN, eTst, cAnd, cOr, cNot, eIf, rIf, eAnd, eOr, eNot, callF, rCall, aNil, aV, aO, getA, putA, owns, isD, oNone, oSome, eSl, gN, gT, gsC, gsN, iTupl, iLst, iSeq, ix0, ix1, eq_str, rMake, upA, h1, obR]
  | one w t ih =>
    intro h n hn
    cases n with
    | zero => simp [dp] at hn
    | succ n =>
      have e := ih h n (by simp only [dp] at hn; omega)
      have hs : dSl (.tup [.str w.s, dt t]) (some 1) none = some (.tup [dt t]) := rfl
      have hl := lc_call (i := 2) (F := F_built n) (s := [some (.d (.tup [.str w.s, dt t])), none, none]) (ds := [dt t]) (ys := [ob t]) (.cons ⟨_, e, wh_ob t, vw_ob t⟩ .nil) (by show 1 ≤ 16777216; decide) rfl
      have h2 := ofone_ok w (ob t)
      have hi : dIx (.lst [ob t]) (.int 0) = some (ob t) := rfl
      have h3 := eqL_one t
      refine fn_rt (s := [some (.d (.tup [.str w.s, dt t])), some (.d (.lst [ob t])), none]) rfl ?_ rfl
      show b_built (F_built n) [some (.d (.tup [.str w.s, dt t])), none, none] = _
      unfold b_built
      rw [sq (s := [some (.d (.tup [.str w.s, dt t])), none, none]) (by simp [fnOf, fnEnd, outs, sSeq, sNext, sSet, sAsg, sIf, sRet, sRetN, sDrop, rMv, bnd, Fz.ret, opt, eVar, eUn, eBin, eCons, eNil, eOp, eTup, rD, rOp, rLst, eFz, wholeB, vw, eFull, tFull, rFull, vwN, eTst, cAnd, cOr, cNot, eIf, rIf, eAnd, eOr, eNot, callF, rCall, aNil, aV, aO, getA, putA, owns, isD, oNone, oSome, eSl, gN, gT, gsC, gsN, iTupl, iLst, iSeq, ix0, eq_str, w1_now])]
      rw [sq (s := [some (.d (.tup [.str w.s, dt t])), some (.ol [ob t]), none]) (set_r (rLc_eq (s := [some (.d (.tup [.str w.s, dt t])), none, none]) (by simp [fnOf, fnEnd, outs, sSeq, sNext, sSet, sAsg, sIf, sRet, sRetN, sDrop, rMv, bnd, Fz.ret, opt, eVar, eUn, eBin, eCons, eNil, eOp, eTup, rD, rOp, rLst, eFz, wholeB, vw, eFull, tFull, rFull, vwN, eTst, cAnd, cOr, cNot, eIf, rIf, eAnd, eOr, eNot, callF, rCall, aNil, aV, aO, getA, putA, owns, isD, oNone, oSome, eSl, gN, gT, gsC, gsN, iTupl, iLst, iSeq, hs]) rfl hl))]
      rw [sq (s := [some (.d (.tup [.str w.s, dt t])), some (.d (.lst [ob t])), none]) (by simp [fnOf, fnEnd, outs, sSeq, sNext, sSet, sAsg, sIf, sRet, sRetN, sDrop, rMv, bnd, Fz.ret, opt, eVar, eUn, eBin, eCons, eNil, eOp, eTup, rD, rOp, rLst, eFz, wholeB, vw, eFull, tFull, rFull, vwN, eTst, cAnd, cOr, cNot, eIf, rIf, eAnd, eOr, eNot, callF, rCall, aNil, aV, aO, getA, putA, owns, isD, oNone, oSome, eSl, gN, gT, gsC, gsN, iTupl, iLst, iSeq, h3, sizeLine])]
      simp [fnOf, fnEnd, outs, sSeq, sNext, sSet, sAsg, sIf, sRet, sRetN, sDrop, rMv, bnd, Fz.ret, opt, eVar, eUn, eBin, eCons, eNil, eOp, eTup, rD, rOp, rLst, eFz, wholeB, vw, eFull, tFull, rFull, vwN, eTst, cAnd, cOr, cNot, eIf, rIf, eAnd, eOr, eNot, callF, rCall, aNil, aV, aO, getA, putA, owns, isD, oNone, oSome, eSl, gN, gT, gsC, gsN, iTupl, iLst, iSeq, len_l, eq_int, ix0, hi, h2, obR]
  | two w a b iha ihb =>
    intro h n hn
    cases n with
    | zero => simp [dp] at hn
    | succ n =>
      have ea := iha h.1 n (by simp only [dp] at hn; omega)
      have eb := ihb h.2 n (by simp only [dp] at hn; omega)
      have hs : dSl (.tup [.str w.s, dt a, dt b]) (some 1) none = some (.tup [dt a, dt b]) := rfl
      have hl := lc_call (i := 2) (F := F_built n) (s := [some (.d (.tup [.str w.s, dt a, dt b])), none, none]) (ds := [dt a, dt b]) (ys := [ob a, ob b]) (.cons ⟨_, ea, wh_ob a, vw_ob a⟩ (.cons ⟨_, eb, wh_ob b, vw_ob b⟩ .nil)) (by show 2 ≤ 16777216; decide) rfl
      have h2 := oftwo_ok w (ob a) (ob b)
      have hi : dIx (.lst [ob a, ob b]) (.int 0) = some (ob a) := rfl
      have hj : dIx (.lst [ob a, ob b]) (.int 1) = some (ob b) := rfl
      have h3 := eqL_two a b
      refine fn_rt (s := [some (.d (.tup [.str w.s, dt a, dt b])), some (.d (.lst [ob a, ob b])), none]) rfl ?_ rfl
      show b_built (F_built n) [some (.d (.tup [.str w.s, dt a, dt b])), none, none] = _
      unfold b_built
      rw [sq (s := [some (.d (.tup [.str w.s, dt a, dt b])), none, none]) (by simp [fnOf, fnEnd, outs, sSeq, sNext, sSet, sAsg, sIf, sRet, sRetN, sDrop, rMv, bnd, Fz.ret, opt, eVar, eUn, eBin, eCons, eNil, eOp, eTup, rD, rOp, rLst, eFz, wholeB, vw, eFull, tFull, rFull, vwN, eTst, cAnd, cOr, cNot, eIf, rIf, eAnd, eOr, eNot, callF, rCall, aNil, aV, aO, getA, putA, owns, isD, oNone, oSome, eSl, gN, gT, gsC, gsN, iTupl, iLst, iSeq, ix0, eq_str, w2_now])]
      rw [sq (s := [some (.d (.tup [.str w.s, dt a, dt b])), some (.ol [ob a, ob b]), none]) (set_r (rLc_eq (s := [some (.d (.tup [.str w.s, dt a, dt b])), none, none]) (by simp [fnOf, fnEnd, outs, sSeq, sNext, sSet, sAsg, sIf, sRet, sRetN, sDrop, rMv, bnd, Fz.ret, opt, eVar, eUn, eBin, eCons, eNil, eOp, eTup, rD, rOp, rLst, eFz, wholeB, vw, eFull, tFull, rFull, vwN, eTst, cAnd, cOr, cNot, eIf, rIf, eAnd, eOr, eNot, callF, rCall, aNil, aV, aO, getA, putA, owns, isD, oNone, oSome, eSl, gN, gT, gsC, gsN, iTupl, iLst, iSeq, hs]) rfl hl))]
      rw [sq (s := [some (.d (.tup [.str w.s, dt a, dt b])), some (.d (.lst [ob a, ob b])), none]) (by simp [fnOf, fnEnd, outs, sSeq, sNext, sSet, sAsg, sIf, sRet, sRetN, sDrop, rMv, bnd, Fz.ret, opt, eVar, eUn, eBin, eCons, eNil, eOp, eTup, rD, rOp, rLst, eFz, wholeB, vw, eFull, tFull, rFull, vwN, eTst, cAnd, cOr, cNot, eIf, rIf, eAnd, eOr, eNot, callF, rCall, aNil, aV, aO, getA, putA, owns, isD, oNone, oSome, eSl, gN, gT, gsC, gsN, iTupl, iLst, iSeq, h3, sizeLine])]
      simp [fnOf, fnEnd, outs, sSeq, sNext, sSet, sAsg, sIf, sRet, sRetN, sDrop, rMv, bnd, Fz.ret, opt, eVar, eUn, eBin, eCons, eNil, eOp, eTup, rD, rOp, rLst, eFz, wholeB, vw, eFull, tFull, rFull, vwN, eTst, cAnd, cOr, cNot, eIf, rIf, eAnd, eOr, eNot, callF, rCall, aNil, aV, aO, getA, putA, owns, isD, oNone, oSome, eSl, gN, gT, gsC, gsN, iTupl, iLst, iSeq, len_l, eq_int, ix0, hi, hj, h2, obR]
end K23

-- text P3
set_option Elab.async false
set_option linter.all false
set_option maxRecDepth 100000
set_option maxHeartbeats 2000000
namespace K23
open PySem hiding ret
open Fz
def plainT : Tr → Tr
  | .one .so t => .two .un .yes (plainT t)
  | .one .ev t => .two .fr .no (plainT t)
  | .one .on t => .two .si .yes (plainT t)
  | .one .sf t => .two .he .no (plainT t)
  | .one .ag t => .two .fr .no (.two .un .yes (plainT t))
  | .one .se t => .two .un .yes (.two .fr .no (plainT t))
  | .one w t => .one w (plainT t)
  | .two .th a b => .two .orr (.one .nt (plainT a)) (plainT b)
  | .two w a b => .two w (plainT a) (plainT b)
  | t => t
theorem lc1 {i : Nat} {F : Fn} {s : Sl} {x y : D} (h : F [.d x] = some (.v (.d y), [.d x])) (hi : s[i]? = some none) : lcL (gN i) cYes (eFz nf (rCall 1 F [] (aV (eVar i) aNil))) [i] [x] [] s = some ([y], s) :=
  lc_call (.cons ⟨_, h, rfl, rfl⟩ .nil) (by show 1 ≤ 16777216; decide) hi
theorem lc2 {i : Nat} {F : Fn} {s : Sl} {x y x' y' : D} (h : F [.d x] = some (.v (.d y), [.d x])) (h' : F [.d x'] = some (.v (.d y'), [.d x'])) (hi : s[i]? = some none) : lcL (gN i) cYes (eFz nf (rCall 1 F [] (aV (eVar i) aNil))) [i] [x, x'] [] s = some ([y, y'], s) :=
  lc_call (.cons ⟨_, h, rfl, rfl⟩ (.cons ⟨_, h', rfl, rfl⟩ .nil)) (by show 2 ≤ 16777216; decide) hi
theorem plain_ok : ∀ t n, dp t ≤ n → F_plain_of n [.d (dt t)] = some (.v (.d (dt (plainT t))), [.d (dt t)]) := by
  intro t
  induction t with
  | yes => intro n hn; cases n with | zero => simp [dp] at hn | succ n => rfl
  | no => intro n hn; cases n with | zero => simp [dp] at hn | succ n => rfl
  | now m => intro n hn; cases n with | zero => simp [dp] at hn | succ n => rfl
  | one w t ih =>
    intro n hn
    cases n with
    | zero => simp [dp] at hn
    | succ n =>
      have e := ih n (by simp only [dp] at hn; omega)
      have hl := lc1 (i := 2) (s := [some (.d (.tup [.str w.s, dt t])), none, none]) e rfl
      refine fn_rt (s := [some (.d (.tup [.str w.s, dt t])), some (.d (.lst [dt (plainT t)])), none]) rfl ?_ rfl
      show b_plain_of (F_plain_of n) [some (.d (.tup [.str w.s, dt t])), none, none] = _
      unfold b_plain_of
      rw [sq (s := [some (.d (.tup [.str w.s, dt t])), none, none]) (by simp [fnOf, fnEnd, outs, sSeq, sNext, sSet, sAsg, sIf, sRet, sRetN, sDrop, rMv, bnd, Fz.ret, opt, eVar, eUn, eBin, eCons, eNil, eOp, eTup, rD, rOp, rLst, eFz, wholeB, vw, eFull, tFull, rFull, vwN, eTst, cAnd, cOr, cNot, eIf, rIf, eAnd, eOr, eNot, callF, rCall, aNil, aV, aO, getA, putA, owns, isD, oNone, oSome, eSl, gN, gT, gsC, gsN, iTupl, iLst, iSeq, ix0, eq_str, w1_now])]
      rw [sq (set_r (rLc_eq (s := [some (.d (.tup [.str w.s, dt t])), none, none]) rfl rfl hl))]
      cases w <;> rfl
  | two w a b iha ihb =>
    intro n hn
    cases n with
    | zero => simp [dp] at hn
    | succ n =>
      have ea := iha n (by simp only [dp] at hn; omega)
      have eb := ihb n (by simp only [dp] at hn; omega)
      have hl := lc2 (i := 2) (s := [some (.d (.tup [.str w.s, dt a, dt b])), none, none]) ea eb rfl
      refine fn_rt (s := [some (.d (.tup [.str w.s, dt a, dt b])), some (.d (.lst [dt (plainT a), dt (plainT b)])), none]) rfl ?_ rfl
      show b_plain_of (F_plain_of n) [some (.d (.tup [.str w.s, dt a, dt b])), none, none] = _
      unfold b_plain_of
      rw [sq (s := [some (.d (.tup [.str w.s, dt a, dt b])), none, none]) (by simp [fnOf, fnEnd, outs, sSeq, sNext, sSet, sAsg, sIf, sRet, sRetN, sDrop, rMv, bnd, Fz.ret, opt, eVar, eUn, eBin, eCons, eNil, eOp, eTup, rD, rOp, rLst, eFz, wholeB, vw, eFull, tFull, rFull, vwN, eTst, cAnd, cOr, cNot, eIf, rIf, eAnd, eOr, eNot, callF, rCall, aNil, aV, aO, getA, putA, owns, isD, oNone, oSome, eSl, gN, gT, gsC, gsN, iTupl, iLst, iSeq, ix0, eq_str, w2_now])]
      rw [sq (set_r (rLc_eq (s := [some (.d (.tup [.str w.s, dt a, dt b])), none, none]) rfl rfl hl))]
      cases w <;> rfl
/-! ### tree() -/
theorem meth_tree {n : Nat} {t : Tr} {st s : Sl} {fa : M D} (ha : fa st = some (.v (ob t), s)) (h : ∃ F, tab_tree n (match ob t with | .obj c _ => c | _ => 0) = some F ∧ F [.d (ob t)] = some (.v (.d (dt t)), [.d (ob t)])) : rMeth 1 (tab_tree n) fa aNil st = some (.v (.d (dt t)), s) := by
  obtain ⟨F, h1, h2⟩ := h
  unfold rMeth
  rw [ha]
  cases t <;> (
    simp only [ob] at h1 h2 ⊢
    rw [h1]
    simp [aNil, bnd, Fz.ret, callF, getA, owns, putA, h2])
end K23

-- text P4
set_option Elab.async false
set_option linter.all false
set_option maxRecDepth 100000
set_option maxHeartbeats 2000000
namespace K23
open PySem hiding ret
open Fz
/-! ### evaluation, piece by piece -/
section
variable {α β : Type} {st s s1 s2 : Sl} {m : M α} {k : α → M β} {a : α} {fa fb : M D} {x y z : D} {fs : M (List D)} {xs : List D} {r : M R} {v : R}
theorem bq (h : m st = some (.v a, s)) : bnd m k st = k a s := by unfold bnd; rw [h]
theorem fzq (h : r st = some (.v v, s)) (hw : wholeB nf v = true) : eFz nf r st = some (.v (vw v), s) := by unfold eFz; rw [bq h]; simp [opt, hw]
theorem consq (h : fa st = some (.v x, s)) (h2 : fs s = some (.v xs, s1)) : eCons fa fs st = some (.v (x :: xs), s1) := by unfold eCons; rw [bq h, bq h2]; rfl
theorem opq {g : List D → Option D} (h : fs st = some (.v xs, s)) (h2 : g xs = some z) : eOp g fs st = some (.v z, s) := by unfold eOp; rw [bq h]; simp [opt, h2]
theorem unq {g : D → Option D} (h : fa st = some (.v x, s)) (h2 : g x = some z) : eUn g fa st = some (.v z, s) := by unfold eUn; rw [bq h]; simp [opt, h2]
theorem binq {g : D → D → Option D} (h : fa st = some (.v x, s)) (h1 : fb s = some (.v y, s1)) (h2 : g x y = some z) : eBin g fa fb st = some (.v z, s1) := by unfold eBin; rw [bq h, bq h1]; simp [opt, h2]
theorem tupq (h : fs st = some (.v xs, s)) (hl : xs.length ≤ sizeLine) : eTup fs st = some (.v (.tup xs), s) := by unfold eTup; rw [bq h]; simp [opt, hl]
theorem lstq (h : fs st = some (.v xs, s)) (hl : xs.length ≤ sizeLine) : rLst fs st = some (.v (.ol xs), s) := by unfold rLst; rw [bq h]; simp [opt, hl]
theorem dq (h : fa st = some (.v x, s)) : rD fa st = some (.v (.d x), s) := by unfold rD; rw [bq h]; rfl
theorem retq (h : r st = some (.v v, s)) : sRet r st = some (.rt v, some v :: s) ∨ sRet r st = some (.rt v, s) := by unfold sRet; rw [h]; exact .inr rfl
theorem lstI (h : fa st = some (.v (.lst xs), s)) : iLst fa st = some (.v xs, s) := by unfold iLst; rw [bq h]; rfl
end
theorem retq' {r : M R} {st s : Sl} {v : R} (h : r st = some (.v v, s)) : sRet r st = some (.rt v, s) := by unfold sRet; rw [h]
theorem lc_e {i : Nat} {e : M D} {s : Sl} {ds ys : List D} (h : Two (fun d y => e (s.set i (some (.d d))) = some (.v y, s.set i (some (.d d)))) ds ys) (hl : ds.length ≤ sizeLine) (hi : s[i]? = some none) : lcL (gN i) cYes e [i] ds [] s = some (ys, s) := by
  have gen : ∀ {ds ys : List D}, Two (fun d y => e (s.set i (some (.d d))) = some (.v y, s.set i (some (.d d)))) ds ys → Two (fun d y => ∃ s1 s2 s3, gN i d s = some s1 ∧ cYes s1 = some (.v true, s2) ∧ e s2 = some (.v y, s3) ∧ wipeS s3 [i] = s) ds ys := by
    intro ds ys h
    induction h with
    | nil => exact .nil
    | @cons d y as bs h1 t ih => exact .cons ⟨s.set i (some (.d d)), s.set i (some (.d d)), s.set i (some (.d d)), rfl, rfl, h1, set_none hi⟩ ih
  have := lcL_two (gen h) [] (by simpa using hl)
  simpa using this
def obc (t : Tr) : Nat := match ob t with | .obj c _ => c | _ => 0
theorem tab_ob (f : Fn) (w : W1) : tabOf_tree f w.c = some f := by cases w <;> rfl
theorem tab_ob2 (f : Fn) (w : W2) : tabOf_tree f w.c = some f := by cases w <;> rfl
theorem word1 (w : W1) (x : D) (st : Sl) (fa : M D) (h : fa st = some (.v (.obj w.c [x]), st)) : rMeth 1 tab_word fa aNil st = some (.v (.d (.str w.s)), st) := by
  unfold rMeth; rw [h]; cases w <;> rfl
theorem word2 (w : W2) (x y : D) (st : Sl) (fa : M D) (h : fa st = some (.v (.obj w.c [x, y]), st)) : rMeth 1 tab_word fa aNil st = some (.v (.d (.str w.s)), st) := by
  unfold rMeth; rw [h]; cases w <;> rfl
theorem inner1 (w : W1) (x : D) (st : Sl) (fa : M D) (h : fa st = some (.v (.obj w.c [x]), st)) : rMeth 1 tab_inner fa aNil st = some (.v (.ol [x]), st) := by
  unfold rMeth; rw [h]; cases w <;> rfl
theorem inner2 (w : W2) (x y : D) (st : Sl) (fa : M D) (h : fa st = some (.v (.obj w.c [x, y]), st)) : rMeth 1 tab_inner fa aNil st = some (.v (.ol [x, y]), st) := by
  unfold rMeth; rw [h]; cases w <;> rfl
theorem tree_all : ∀ t n, dp t ≤ n → ∃ F, tab_tree n (obc t) = some F ∧ F [.d (ob t)] = some (.v (.d (dt t)), [.d (ob t)]) := by
  intro t
  induction t with
  | yes => intro n hn; cases n with | zero => simp [dp] at hn | succ n => exact ⟨F_Statement_tree (n + 1), rfl, rfl⟩
  | no => intro n hn; cases n with | zero => simp [dp] at hn | succ n => exact ⟨F_Statement_tree (n + 1), rfl, rfl⟩
  | now m => intro n hn; exact ⟨F_Now_tree, rfl, rfl⟩
  | one w t ih =>
    intro n hn
    cases n with
    | zero => simp [dp] at hn
    | succ n =>
      refine ⟨F_Statement_tree (n + 1), tab_ob _ w, ?_⟩
      have e := ih n (by simp only [dp] at hn; omega)
      have hl := lc_e (i := 1) (e := eFz nf (rMeth 1 (tab_tree n) (eVar 1) aNil)) (s := [some (.d (.obj w.c [ob t])), none]) (ds := [ob t]) (ys := [dt t]) (.cons (by
        have := meth_tree (n := n) (t := t) (st := [some (.d (.obj w.c [ob t])), some (.d (ob t))]) (fa := eVar 1) rfl e
        show eFz nf _ [some (.d (.obj w.c [ob t])), some (.d (ob t))] = _
        unfold eFz bnd
        rw [this]; rfl) .nil) (by show 1 ≤ 16777216; decide) rfl
      have w1 := word1 w (ob t) [some (.d (.obj w.c [ob t])), none] (eVar 0) rfl
      have i1 := inner1 w (ob t) [some (.d (.obj w.c [ob t])), none] (eVar 0) rfl
      refine fn_rt (s := [some (.d (.obj w.c [ob t])), none]) rfl ?_ rfl
      show b_Statement_tree (tab_tree n) [some (.d (.obj w.c [ob t])), none] = _
      unfold b_Statement_tree
      exact retq' (dq (binq (z := dt (.one w t)) (tupq (consq (fzq w1 rfl) rfl) (by show 1 ≤ 16777216; decide)) (opq (z := .tup [dt t]) (consq (fzq (rLc_eq (lstI (fzq i1 rfl)) rfl hl) rfl) rfl) rfl) rfl))
  | two w a b iha ihb =>
    intro n hn
    cases n with
    | zero => simp [dp] at hn
    | succ n =>
      refine ⟨F_Statement_tree (n + 1), tab_ob2 _ w, ?_⟩
      have ea := iha n (by simp only [dp] at hn; omega)
      have eb := ihb n (by simp only [dp] at hn; omega)
      have one : ∀ t : Tr, (∃ F, tab_tree n (obc t) = some F ∧ F [.d (ob t)] = some (.v (.d (dt t)), [.d (ob t)])) → eFz nf (rMeth 1 (tab_tree n) (eVar 1) aNil) [some (.d (.obj w.c [ob a, ob b])), some (.d (ob t))] = some (.v (dt t), [some (.d (.obj w.c [ob a, ob b])), some (.d (ob t))]) := fun t e =>
        fzq (meth_tree (n := n) (t := t) (st := [some (.d (.obj w.c [ob a, ob b])), some (.d (ob t))]) (fa := eVar 1) rfl e) rfl
      have hl := lc_e (i := 1) (e := eFz nf (rMeth 1 (tab_tree n) (eVar 1) aNil)) (s := [some (.d (.obj w.c [ob a, ob b])), none]) (ds := [ob a, ob b]) (ys := [dt a, dt b]) (.cons (one a ea) (.cons (one b eb) .nil)) (by show 2 ≤ 16777216; decide) rfl
      have w1 := word2 w (ob a) (ob b) [some (.d (.obj w.c [ob a, ob b])), none] (eVar 0) rfl
      have i1 := inner2 w (ob a) (ob b) [some (.d (.obj w.c [ob a, ob b])), none] (eVar 0) rfl
      refine fn_rt (s := [some (.d (.obj w.c [ob a, ob b])), none]) rfl ?_ rfl
      show b_Statement_tree (tab_tree n) [some (.d (.obj w.c [ob a, ob b])), none] = _
      unfold b_Statement_tree
      exact retq' (dq (binq (z := dt (.two w a b)) (tupq (consq (fzq w1 rfl) rfl) (by show 1 ≤ 16777216; decide)) (opq (z := .tup [dt a, dt b]) (consq (fzq (rLc_eq (lstI (fzq i1 rfl)) rfl hl) rfl) rfl) rfl) rfl))
end K23

-- text P5
set_option Elab.async false
set_option linter.all false
set_option maxRecDepth 100000
set_option maxHeartbeats 2000000
namespace K23
open PySem hiding ret
open Fz
section
variable {st s s1 s2 : Sl} {fa fb fc : M D} {x y z : D} {v : R} {F : Fn} {c : M Bool} {f g : MS} {b : Bool} {xs : List D}
theorem call1q (h : fa st = some (.v x, s)) (hF : F [.d x] = some (.v v, [.d x])) : rCall 1 F [] (aV fa aNil) st = some (.v v, s) := by
  unfold rCall aV
  rw [bq (a := [Arg.v x]) (s := s) (by rw [bq h]; rfl)]
  simp [callF, getA, owns, hF, putA]
theorem call2q (h : fa st = some (.v x, s)) (h1 : fb s = some (.v y, s1)) (hF : F [.d x, .d y] = some (.v v, [.d x, .d y])) : rCall 2 F [] (aV fa (aV fb aNil)) st = some (.v v, s1) := by
  unfold rCall
  rw [bq (a := [Arg.v x, Arg.v y]) (s := s1) (by unfold aV; rw [bq h, bq (a := [Arg.v y]) (s := s1) (by rw [bq h1]; rfl)]; rfl)]
  simp [callF, getA, owns, hF, putA]
theorem call3q (h : fa st = some (.v x, s)) (h1 : fb s = some (.v y, s1)) (h2 : fc s1 = some (.v z, s2)) (hF : F [.d x, .d y, .d z] = some (.v v, [.d x, .d y, .d z])) : rCall 3 F [] (aV fa (aV fb (aV fc aNil))) st = some (.v v, s2) := by
  unfold rCall
  rw [bq (a := [Arg.v x, Arg.v y, Arg.v z]) (s := s2) (by unfold aV; rw [bq h, bq (a := [Arg.v y, Arg.v z]) (s := s2) (by rw [bq h1, bq (a := [Arg.v z]) (s := s2) (by rw [bq h2]; rfl)]; rfl)]; rfl)]
  simp [callF, getA, owns, hF, putA]
theorem ifT (h : c st = some (.v true, s)) : sIf c f g st = f s := by unfold sIf; rw [h]; rfl
theorem ifF (h : c st = some (.v false, s)) : sIf c f g st = g s := by unfold sIf; rw [h]; rfl
theorem tstq (h : fa st = some (.v (.bl b), s)) : eTst fa st = some (.v b, s) := by unfold eTst; rw [bq h]; rfl
theorem tupI (h : fa st = some (.v (.tup xs), s)) : iTupl fa st = some (.v xs, s) := by unfold iTupl; rw [bq h]; rfl
theorem seqI (h : fa st = some (.v (.tup xs), s)) : iSeq fa st = some (.v xs, s) := by unfold iSeq; rw [bq h]; rfl
theorem andT {c' : M Bool} (h : c st = some (.v true, s)) : cAnd c c' st = c' s := by unfold cAnd; rw [bq h]; rfl
theorem andF {c' : M Bool} (h : c st = some (.v false, s)) : cAnd c c' st = some (.v false, s) := by unfold cAnd; rw [bq h]; rfl
theorem orF {c' : M Bool} (h : c st = some (.v false, s)) : cOr c c' st = c' s := by unfold cOr; rw [bq h]; rfl
theorem orT {c' : M Bool} (h : c st = some (.v true, s)) : cOr c c' st = some (.v true, s) := by unfold cOr; rw [bq h]; rfl
theorem notq (h : c st = some (.v b, s)) : cNot c st = some (.v (!b), s) := by unfold cNot; rw [bq h]; rfl
/-- a test that fails, then the rest -/
theorem skip {h : MS} (hc : c st = some (.v false, s)) : sSeq (sIf c f sNext) h st = h s := by rw [sq (s := s)]; rw [ifF hc]; rfl
/-- a test that holds, and a return -/
theorem takeR {h : MS} {r : R} (hc : c st = some (.v true, s)) (hf : f s = some (.rt r, s1)) : sSeq (sIf c f sNext) h st = some (.rt r, s1) := by unfold sSeq; rw [ifT hc, hf]
end
def dual1 : W1 → W1
  | .bf => .er | .er => .bf | w => w
def dual2 : W2 → W2
  | .an => .orr | .orr => .an | .un => .fr | .fr => .un | .si => .he | .he => .si | w => w
def pushT : Bool → Tr → Tr
  | d, .one .nt t => pushT (!d) t
  | d, .one w t => .one (if d then dual1 w else w) (pushT d t)
  | d, .two w a b => .two (if d then dual2 w else w) (pushT d a) (pushT d b)
  | d, .yes => if d then .no else .yes
  | d, .no => if d then .yes else .no
  | d, .now m => if d then .one .nt (.now m) else .now m
/-- what is left of the plain form -/
def pl : Tr → Prop
  | .one w t => w ∈ [W1.nt, W1.nx, W1.bf, W1.er] ∧ pl t
  | .two w a b => w ≠ W2.th ∧ pl a ∧ pl b
  | _ => True
theorem pl_plain : ∀ t, pl (plainT t) := by
  intro t
  induction t with
  | one w t ih => cases w <;> simp [plainT, pl, ih]
  | two w a b iha ihb => cases w <;> simp [plainT, pl, iha, ihb]
  | _ => simp [plainT, pl]
theorem hd_eq (w : Str) (xs : List D) (k : Str) (rest : Sl) : eTst (eBin dEq (eBin dIx (eVar 0) (Fz.ret (.int 0))) (Fz.ret (.str k))) (some (.d (.tup (.str w :: xs))) :: rest) = some (.v (decide (w = k)), some (.d (.tup (.str w :: xs))) :: rest) :=
  tstq (binq (binq (x := .tup (.str w :: xs)) rfl rfl (ix0 _ _)) rfl (eq_str _ _))
theorem push_one {n : Nat} {d : Bool} {w : W1} {t t' : Tr} (hnn : decide (w.s = "not") = false) (hd : dGd c_DUALS (.str w.s) = some (.str (dual1 w).s)) (e : F_pushed_of n [.d (dt t), .d (.bl d)] = some (.v (.d (dt t')), [.d (dt t), .d (.bl d)])) :
    F_pushed_of (n + 1) [.d (dt (.one w t)), .d (.bl d)] = some (.v (.d (dt (.one (if d then dual1 w else w) t'))), [.d (dt (.one w t)), .d (.bl d)]) := by
  have hl := lc_e (i := 3) (e := eFz nf (rCall 2 (F_pushed_of n) [] (aV (eVar 3) (aV (eVar 1) aNil)))) (s := [some (.d (.tup [.str w.s, dt t])), some (.d (.bl d)), some (.d (.str (if d then dual1 w else w).s)), none]) (ds := [dt t]) (ys := [dt t']) (.cons (fzq (call2q rfl rfl e) rfl) .nil) (by show 1 ≤ 16777216; decide) rfl
  refine fn_rt (s := [some (.d (.tup [.str w.s, dt t])), some (.d (.bl d)), some (.d (.str (if d then dual1 w else w).s)), none]) rfl ?_ rfl
  show b_pushed_of (F_pushed_of n) [some (.d (.tup [.str w.s, dt t])), some (.d (.bl d)), none, none] = _
  unfold b_pushed_of
  rw [skip (by rw [hd_eq, hnn]), skip (andF (by rw [hd_eq, w1_now])), skip (by rw [hd_eq, w1_now]), sq (set_r (dq (binq rfl rfl (ix0 _ _))))]
  have h5 : sIf (eTst (eVar 1)) (sSet 2 (rD (eUn (dGd c_DUALS) (eVar 2)))) sNext [some (.d (.tup [.str w.s, dt t])), some (.d (.bl d)), some (.d (.str w.s)), none] = some (.nx, [some (.d (.tup [.str w.s, dt t])), some (.d (.bl d)), some (.d (.str (if d then dual1 w else w).s)), none]) := by
    cases d with
    | true => rw [ifT (tstq rfl)]; exact set_r (r := .d (.str (dual1 w).s)) (s := [some (.d (.tup [.str w.s, dt t])), some (.d (.bl true)), some (.d (.str w.s)), none]) (dq (unq (x := .str w.s) rfl hd))
    | false => rw [ifF (tstq rfl)]; rfl
  refine (sq h5).trans ?_
  exact retq' (dq (binq (z := dt (.one (if d then dual1 w else w) t')) (tupq (consq rfl rfl) (by show 1 ≤ 16777216; decide)) (opq (z := .tup [dt t']) (consq (fzq (rLc_eq (tupI rfl) rfl hl) rfl) rfl) rfl) rfl))
theorem push_two {n : Nat} {d : Bool} {w : W2} {a b a' b' : Tr} (hd : dGd c_DUALS (.str w.s) = some (.str (dual2 w).s)) (e : F_pushed_of n [.d (dt a), .d (.bl d)] = some (.v (.d (dt a')), [.d (dt a), .d (.bl d)])) (e' : F_pushed_of n [.d (dt b), .d (.bl d)] = some (.v (.d (dt b')), [.d (dt b), .d (.bl d)])) :
    F_pushed_of (n + 1) [.d (dt (.two w a b)), .d (.bl d)] = some (.v (.d (dt (.two (if d then dual2 w else w) a' b'))), [.d (dt (.two w a b)), .d (.bl d)]) := by
  have hnn : decide (w.s = "not") = false := by cases w <;> decide +kernel
  have hl := lc_e (i := 3) (e := eFz nf (rCall 2 (F_pushed_of n) [] (aV (eVar 3) (aV (eVar 1) aNil)))) (s := [some (.d (.tup [.str w.s, dt a, dt b])), some (.d (.bl d)), some (.d (.str (if d then dual2 w else w).s)), none]) (ds := [dt a, dt b]) (ys := [dt a', dt b']) (.cons (fzq (call2q rfl rfl e) rfl) (.cons (fzq (call2q rfl rfl e') rfl) .nil)) (by show 2 ≤ 16777216; decide) rfl
  refine fn_rt (s := [some (.d (.tup [.str w.s, dt a, dt b])), some (.d (.bl d)), some (.d (.str (if d then dual2 w else w).s)), none]) rfl ?_ rfl
  show b_pushed_of (F_pushed_of n) [some (.d (.tup [.str w.s, dt a, dt b])), some (.d (.bl d)), none, none] = _
  unfold b_pushed_of
  rw [skip (by rw [hd_eq, hnn]), skip (andF (by rw [hd_eq, w2_now])), skip (by rw [hd_eq, w2_now]), sq (set_r (dq (binq rfl rfl (ix0 _ _))))]
  have h5 : sIf (eTst (eVar 1)) (sSet 2 (rD (eUn (dGd c_DUALS) (eVar 2)))) sNext [some (.d (.tup [.str w.s, dt a, dt b])), some (.d (.bl d)), some (.d (.str w.s)), none] = some (.nx, [some (.d (.tup [.str w.s, dt a, dt b])), some (.d (.bl d)), some (.d (.str (if d then dual2 w else w).s)), none]) := by
    cases d with
    | true => rw [ifT (tstq rfl)]; exact set_r (r := .d (.str (dual2 w).s)) (s := [some (.d (.tup [.str w.s, dt a, dt b])), some (.d (.bl true)), some (.d (.str w.s)), none]) (dq (unq (x := .str w.s) rfl hd))
    | false => rw [ifF (tstq rfl)]; rfl
  refine (sq h5).trans ?_
  exact retq' (dq (binq (z := dt (.two (if d then dual2 w else w) a' b')) (tupq (consq rfl rfl) (by show 1 ≤ 16777216; decide)) (opq (z := .tup [dt a', dt b']) (consq (fzq (rLc_eq (tupI rfl) rfl hl) rfl) rfl) rfl) rfl))
theorem push_ok : ∀ t, pl t → ∀ n d, dp t ≤ n → F_pushed_of n [.d (dt t), .d (.bl d)] = some (.v (.d (dt (pushT d t))), [.d (dt t), .d (.bl d)]) := by
  intro t
  induction t with
  | yes => intro _ n d hn; cases n with | zero => simp [dp] at hn | succ n => cases d <;> rfl
  | no => intro _ n d hn; cases n with | zero => simp [dp] at hn | succ n => cases d <;> rfl
  | now m => intro _ n d hn; cases n with | zero => simp [dp] at hn | succ n => cases d <;> rfl
  | one w t ih =>
    intro hp n d hn
    cases n with
    | zero => simp [dp] at hn
    | succ n =>
      have e := fun d => ih hp.2 n d (by simp only [dp] at hn; omega)
      cases w with
      | nt =>
        refine fn_rt (s := [some (.d (.tup [.str (W1.s .nt), dt t])), some (.d (.bl d)), none, none]) rfl ?_ rfl
        show b_pushed_of (F_pushed_of n) [some (.d (.tup [.str (W1.s .nt), dt t])), some (.d (.bl d)), none, none] = _
        unfold b_pushed_of
        exact takeR (by rw [hd_eq]; rfl) (retq' (call2q (binq rfl rfl (ix1 _ _ _)) (by show eNot (eVar 1) _ = some (.v (.bl !d), _); rfl) (e (!d))))
      | nx => exact push_one (by decide +kernel) (by rfl) (e d)
      | bf => exact push_one (by decide +kernel) (by rfl) (e d)
      | er => exact push_one (by decide +kernel) (by rfl) (e d)
      | _ => simp [pl] at hp
  | two w a b iha ihb =>
    intro hp n d hn
    cases n with
    | zero => simp [dp] at hn
    | succ n =>
      have ea := iha hp.2.1 n d (by simp only [dp] at hn; omega)
      have eb := ihb hp.2.2 n d (by simp only [dp] at hn; omega)
      cases w with
      | th => exact (hp.1 rfl).elim
      | _ => exact push_two (by rfl) ea eb
end K23

-- text P6
set_option Elab.async false
set_option linter.all false
set_option maxRecDepth 100000
set_option maxHeartbeats 2000000
namespace K23
open PySem hiding ret plain
open Fz
def size : Tr → Nat
  | .one _ t => size t + 1
  | .two _ a b => size a + size b + 1
  | _ => 1
def sizes : List Tr → Nat
  | [] => 0
  | t :: ts => size t + sizes ts
theorem sizes_app : ∀ a b, sizes (a ++ b) = sizes a + sizes b
  | [], b => by simp [sizes]
  | x :: a, b => by simp [sizes, sizes_app a b]; omega
theorem size_pos (t : Tr) : 1 ≤ size t := by cases t <;> simp [size]
theorem len_sizes : ∀ ts, ts.length ≤ sizes ts
  | [] => Nat.le_refl _
  | t :: ts => by have := size_pos t; have := len_sizes ts; simp [sizes]; omega
theorem size_kids (t : Tr) : sizes (kids t) + 1 ≤ size t := by cases t <;> simp [kids, sizes, size] <;> omega
theorem sizes_kids : ∀ ts, sizes (ts.flatMap kids) ≤ sizes ts
  | [] => Nat.le_refl _
  | t :: ts => by
    have := size_kids t; have := sizes_kids ts
    simp only [List.flatMap_cons, sizes_app, sizes]; omega
theorem plain_dt : ∀ t, plain (dt t) = true := by
  intro t
  induction t with
  | one w t ih => simp [dt, plain, plains, ih]
  | two w a b iha ihb => simp [dt, plain, plains, iha, ihb]
  | _ => simp [dt, plain, plains]
theorem dep_dt : ∀ t, dep (dt t) = dp t := by
  intro t
  induction t with
  | one w t ih => simp [dt, dep, deps, dp, ih]
  | two w a b iha ihb => simp [dt, dep, deps, dp, iha, ihb]
  | _ => simp [dt, dep, deps, dp]
theorem plains_dt : ∀ ts : List Tr, plains (ts.map dt) = true
  | [] => rfl
  | t :: ts => by simp [plains, plain_dt, plains_dt ts]
theorem deps_dt {k : Nat} : ∀ ts : List Tr, (∀ t ∈ ts, dp t ≤ k) → deps (ts.map dt) ≤ k
  | [], _ => Nat.zero_le _
  | t :: ts, h => by
    have h1 := h t List.mem_cons_self
    have h2 := deps_dt ts fun t ht => h t (List.mem_cons_of_mem _ ht)
    simp only [List.map_cons, deps, dep_dt]; omega
theorem ne_nil {ts : List Tr} (h : ∀ t ∈ ts, dp t ≤ 60) : dNe (.lst (ts.map dt)) (.lst []) = some (.bl (!decide (ts = []))) := by
  have c1 : cok (.lst (ts.map dt)) = true := by
    have := deps_dt ts h
    show (plains (ts.map dt) && decide (deps (ts.map dt) + 1 ≤ 64)) = true
    rw [plains_dt, Bool.true_and]
    exact decide_eq_true (by omega)
  unfold dNe
  rw [c1]
  cases ts with
  | nil => rfl
  | cons t ts => rfl
theorem slK (t : Tr) (hn : ∀ m, t ≠ .now m) : ∃ w : Str, dt t = .tup (.str w :: (kids t).map dt) ∧ decide (w = "now") = false := by
  cases t with
  | yes => exact ⟨_, rfl, by decide +kernel⟩
  | no => exact ⟨_, rfl, by decide +kernel⟩
  | now m => exact (hn m rfl).elim
  | one w t => exact ⟨_, rfl, w1_now w⟩
  | two w a b => exact ⟨_, rfl, w2_now w⟩
/-- what a part hands to the next layer -/
theorem deeper_q (t : Tr) (A B C : Option R) : eIf (eTst (eBin dNe (eBin dIx (eVar 3) (Fz.ret (.int 0))) (Fz.ret (.str "now")))) (eSl (eVar 3) (oSome (Fz.ret (.int 1))) oNone) (eTup eNil) [A, B, C, some (.d (dt t))] = some (.v (.tup ((kids t).map dt)), [A, B, C, some (.d (dt t))]) := by
  cases t with
  | yes => rfl
  | no => rfl
  | now m => rfl
  | one w t => cases w <;> rfl
  | two w a b => cases w <;> rfl
theorem forL_nx {g : D → Sl → Option Sl} {body : MS} {d : D} {ds : List D} {s s1 s2 : Sl} (h : g d s = some s1) (h2 : body s1 = some (.nx, s2)) : forL g body (d :: ds) s = forL g body ds s2 := by simp only [forL, h, h2]
theorem forL_ext (A B : Option R) : ∀ (ts acc : List Tr) (X : Option R), isOwned X = false → acc.length + sizes ts ≤ sizeLine → ∃ X', isOwned X' = false ∧
    forL (gN 3) (sExtA 2 (eIf (eTst (eBin dNe (eBin dIx (eVar 3) (Fz.ret (.int 0))) (Fz.ret (.str "now")))) (eSl (eVar 3) (oSome (Fz.ret (.int 1))) oNone) (eTup eNil))) (ts.map dt) [A, B, some (.ol (acc.map dt)), X] = some (.nx, [A, B, some (.ol ((acc ++ ts.flatMap kids).map dt)), X'])
  | [], acc, X, hX, _ => ⟨X, hX, by simp [forL]⟩
  | t :: ts, acc, X, hX, hl => by
    have hk := size_kids t
    have hlk := len_sizes (kids t)
    simp only [sizes] at hl
    obtain ⟨X', h1, h2⟩ := forL_ext A B ts (acc ++ kids t) (some (.d (dt t))) rfl (by rw [List.length_append]; omega)
    refine ⟨X', h1, ?_⟩
    have hc : (acc.map dt).length + ((kids t).map dt).length ≤ sizeLine := by rw [List.length_map, List.length_map]; omega
    have hs : sExtA 2 (eIf (eTst (eBin dNe (eBin dIx (eVar 3) (Fz.ret (.int 0))) (Fz.ret (.str "now")))) (eSl (eVar 3) (oSome (Fz.ret (.int 1))) oNone) (eTup eNil)) [A, B, some (.ol (acc.map dt)), some (.d (dt t))] = some (.nx, [A, B, some (.ol (acc.map dt ++ (kids t).map dt)), some (.d (dt t))]) := by
      unfold sExtA
      rw [deeper_q t A B]
      show (if _ then _ else _) = _
      simp only [isL, List.getElem?_cons_succ, List.getElem?_cons_zero, if_true]
      rw [if_pos hc]; rfl
    rw [List.map_cons, forL_nx (s1 := [A, B, some (.ol (acc.map dt)), some (.d (dt t))]) rfl hs, ← List.map_append, h2, List.flatMap_cons, List.append_assoc]
theorem whileT {c : M Bool} {body : MS} {n : Nat} {s s1 s2 : Sl} (h : c s = some (.v true, s1)) (h2 : body s1 = some (.nx, s2)) : whileL c body (n + 1) s = whileL c body n s2 := by simp only [whileL, h, h2]
theorem whileF {c : M Bool} {body : MS} {n : Nat} {s s1 : Sl} (h : c s = some (.v false, s1)) : whileL c body (n + 1) s = some (.nx, s1) := by simp only [whileL, h]
theorem all_forms (A B C X : Option R) (hX : isOwned X = false) (ts : List Tr) (ho : ∀ t ∈ ts, ok t) (hl : ts.length ≤ sizeLine) :
    rLc (iLst (eVar 1)) (gN 3) cYes (eFz nf (rCall 1 F_is_form [] (aV (eVar 3) aNil))) [3] [A, some (.d (.lst (ts.map dt))), C, X] = some (.v (.ol (ts.map fun _ => D.bl true)), [A, some (.d (.lst (ts.map dt))), C, X]) := by
  have hl2 := lc_call (i := 3) (F := F_is_form) (s := [A, some (.d (.lst (ts.map dt))), C, none]) (ds := ts.map dt) (ys := ts.map fun _ => D.bl true) (Two.of_map ts fun t ht => ⟨_, form_ok t (ho t ht), rfl, rfl⟩) (by rw [List.length_map]; exact hl) rfl
  have := rLc_eq (it := iLst (eVar 1)) (g := gN 3) (c := cYes) (e := eFz nf (rCall 1 F_is_form [] (aV (eVar 3) aNil))) (vs := [3]) (st := [A, some (.d (.lst (ts.map dt))), C, X]) (s := [A, some (.d (.lst (ts.map dt))), C, X]) (lstI rfl) (by simp [hX]) hl2
  exact this
theorem all_true : ∀ ts : List Tr, dAll [.lst (ts.map fun _ => D.bl true)] = some (.bl true) := by
  intro ts
  have h : bls (ts.map fun _ => D.bl true) = some (ts.map fun _ => true) := by
    induction ts with
    | nil => rfl
    | cons t ts ih => simp [bls, ih]
  show (bls (ts.map fun _ => D.bl true)).map _ = _
  rw [h]
  simp
theorem ok_kids {t : Tr} (h : ok t) : ∀ k ∈ kids t, ok k := by
  cases t with
  | one w t => intro k hk; simp [kids] at hk; subst hk; exact h
  | two w a b => intro k hk; simp [kids] at hk; rcases hk with rfl | rfl; exact h.1; exact h.2
  | _ => intro k hk; simp [kids] at hk
theorem dp_kids {t : Tr} : ∀ k ∈ kids t, dp k + 1 ≤ dp t := by
  cases t with
  | one w t => intro k hk; simp [kids] at hk; subst hk; exact Nat.le_refl _
  | two w a b => intro k hk; simp [kids] at hk; rcases hk with rfl | rfl <;> simp only [dp] <;> omega
  | _ => intro k hk; simp [kids] at hk
theorem dp_pos (t : Tr) : 1 ≤ dp t := by cases t <;> simp [dp]
def bodyN : MS := (sSeq (sIf (cNot (eTst (eOp dAll (eCons (eFz nf (rLc (iLst (eVar 1)) (gN 3) cYes (eFz nf (rCall 1 F_is_form [] (aV (eVar 3) aNil))) [3])) eNil)))) sNever sNext) (sSeq (sSet 2 (rLst eNil)) (sSeq (sFor (iLst (eVar 1)) (gN 3) (sExtA 2 (eIf (eTst (eBin dNe (eBin dIx (eVar 3) (Fz.ret (.int 0))) (Fz.ret (.str "now")))) (eSl (eVar 3) (oSome (Fz.ret (.int 1))) oNone) (eTup eNil)))) (sSet 1 (rD (eVar 2))))))
/-- one layer -/
theorem layer_ok (A C X : Option R) (hX : isOwned X = false) (ts : List Tr) (ho : ∀ t ∈ ts, ok t) (hs : sizes ts ≤ sizeLine) : ∃ C' X', isOwned X' = false ∧ bodyN [A, some (.d (.lst (ts.map dt))), C, X] = some (.nx, [A, some (.d (.lst ((ts.flatMap kids).map dt))), C', X']) := by
  obtain ⟨X', h1, h2⟩ := forL_ext A (some (.d (.lst (ts.map dt)))) ts [] X hX (by simpa using hs)
  refine ⟨some (.d (.lst ((ts.flatMap kids).map dt))), X', h1, ?_⟩
  have hc : cNot (eTst (eOp dAll (eCons (eFz nf (rLc (iLst (eVar 1)) (gN 3) cYes (eFz nf (rCall 1 F_is_form [] (aV (eVar 3) aNil))) [3])) eNil))) [A, some (.d (.lst (ts.map dt))), C, X] = some (.v false, [A, some (.d (.lst (ts.map dt))), C, X]) :=
    notq (b := true) (tstq (opq (consq (fzq (all_forms A none C X hX ts ho (Nat.le_trans (len_sizes ts) hs)) rfl) rfl) (all_true ts)))
  unfold bodyN
  rw [skip hc, sq (set_r (lstq (xs := []) rfl (Nat.zero_le _)))]
  have hf : sFor (iLst (eVar 1)) (gN 3) (sExtA 2 (eIf (eTst (eBin dNe (eBin dIx (eVar 3) (Fz.ret (.int 0))) (Fz.ret (.str "now")))) (eSl (eVar 3) (oSome (Fz.ret (.int 1))) oNone) (eTup eNil))) [A, some (.d (.lst (ts.map dt))), some (.ol []), X] = some (.nx, [A, some (.d (.lst (ts.map dt))), some (.ol ((ts.flatMap kids).map dt)), X']) := by
    unfold sFor
    rw [lstI (xs := ts.map dt) (s := [A, some (.d (.lst (ts.map dt))), some (.ol []), X]) rfl]
    exact h2
  refine (sq hf).trans ?_
  exact set_r (r := .d (.lst ((ts.flatMap kids).map dt))) (s := [A, some (.d (.lst (ts.map dt))), some (.d (.lst ((ts.flatMap kids).map dt))), X']) (dq (x := .lst ((ts.flatMap kids).map dt)) rfl)
theorem layers_ok (A : Option R) : ∀ (k n : Nat) (ts : List Tr) (L C X : Option R), (L = some (.ol (ts.map dt)) ∨ L = some (.d (.lst (ts.map dt)))) → isOwned X = false → (∀ t ∈ ts, ok t) → (∀ t ∈ ts, dp t ≤ k) → k ≤ 60 → k < n → sizes ts ≤ sizeLine → ∃ L' C' X',
    whileL (eTst (eBin dNe (eVar 1) (eFz nf (rLst eNil)))) bodyN n [A, L, C, X] = some (.nx, [A, L', C', X']) := by
  intro k
  induction k with
  | zero =>
    intro n ts L C X hL hX ho hd hk hn hs
    have e : ts = [] := by
      cases ts with
      | nil => rfl
      | cons t ts => have := hd t List.mem_cons_self; have := dp_pos t; omega
    subst e
    obtain ⟨n, rfl⟩ : ∃ m, n = m + 1 := ⟨n - 1, by omega⟩
    refine ⟨some (.d (.lst [])), C, X, ?_⟩
    rcases hL with rfl | rfl <;> exact whileF (tstq (binq (x := .lst []) (y := .lst []) rfl rfl rfl))
  | succ k ih =>
    intro n ts L C X hL hX ho hd hk hn hs
    obtain ⟨n, rfl⟩ : ∃ m, n = m + 1 := ⟨n - 1, by omega⟩
    have ht := ne_nil (ts := ts) fun t ht => Nat.le_trans (hd t ht) hk
    have hc : eTst (eBin dNe (eVar 1) (eFz nf (rLst eNil))) [A, L, C, X] = some (.v (!decide (ts = [])), [A, some (.d (.lst (ts.map dt))), C, X]) := by
      rcases hL with rfl | rfl <;> exact tstq (binq (x := .lst (ts.map dt)) (y := .lst []) rfl rfl ht)
    by_cases e : ts = []
    · rw [decide_eq_true e] at hc
      exact ⟨_, _, _, whileF hc⟩
    · rw [decide_eq_false e] at hc
      obtain ⟨C', X', h1, h2⟩ := layer_ok A C X hX ts ho hs
      rw [whileT hc h2]
      refine ih n (ts.flatMap kids) _ C' X' (.inr rfl) h1 (fun t h => ?_) (fun t h => ?_) (by omega) (by omega) (Nat.le_trans (sizes_kids ts) hs)
      · obtain ⟨u, hu, hk⟩ := List.mem_flatMap.mp h
        exact ok_kids (ho u hu) t hk
      · obtain ⟨u, hu, hk⟩ := List.mem_flatMap.mp h
        have := dp_kids t hk; have := hd u hu; omega
theorem need_ok (t : Tr) (h : ok t) (hd : dp t ≤ 60) (hs : size t ≤ sizeLine) : F_need_tree [.d (dt t)] = some (.v (.d .non), [.d (dt t)]) := by
  obtain ⟨L, C, X, e⟩ := layers_ok (some (.d (dt t))) 60 100 [t] (some (.ol [dt t])) none none (.inl rfl) rfl (by simpa using h) (by simpa using hd) (by omega) (by omega) (by simpa [sizes] using hs)
  refine fn_nx (s := [some (.d (dt t)), L, C, X]) rfl ?_ rfl
  show b_need_tree [some (.d (dt t)), none, none, none] = _
  exact (sq (set_r (lstq (xs := [dt t]) (s := [some (.d (dt t)), none, none, none]) rfl (by show 1 ≤ 16777216; decide)))).trans e
theorem statement_ok (t : Tr) (h : ok t) (hd : dp t ≤ 40) (hs : size t ≤ sizeLine) : F_statement_of [.d (dt t)] = some (.v (obR t), [.d (dt t)]) := by
  refine fn_rt (s := [some (.d (dt t))]) rfl ?_ rfl
  show b_statement_of [some (.d (dt t))] = _
  unfold b_statement_of
  have h1 : sDrop (rCall 1 F_need_tree [] (aV (eVar 0) aNil)) [some (.d (dt t))] = some (.nx, [some (.d (dt t))]) := by
    unfold sDrop
    rw [call1q (x := dt t) (s := [some (.d (dt t))]) rfl (need_ok t h (by omega) hs)]
  refine (sq h1).trans ?_
  exact retq' (call1q (x := dt t) rfl (built_ok t h 40 hd))
end K23

-- text P7
set_option Elab.async false
set_option linter.all false
set_option maxRecDepth 100000
set_option maxHeartbeats 2000000
namespace K23
open PySem hiding ret plain
open Fz
def eqT (a b : Tr) : Bool := same (dt a) (dt b)
theorem same_t2 (x y x' y' : D) : same (.tup [x, y]) (.tup [x', y']) = (same x x' && same y y') := by
  show (same x x' && (same y y' && true)) = _
  rw [Bool.and_true]
theorem same_t3 (x y z x' y' z' : D) : same (.tup [x, y, z]) (.tup [x', y', z']) = (same x x' && (same y y' && same z z')) := by
  show (same x x' && (same y y' && (same z z' && true))) = _
  rw [Bool.and_true]
theorem eq_one (w w' : W1) (a b : Tr) : eqT (.one w a) (.one w' b) = (decide (w.s = w'.s) && eqT a b) := by
  show same (.tup [.str w.s, dt a]) (.tup [.str w'.s, dt b]) = _
  rw [same_t2, same_str]; rfl
theorem eq_two (w w' : W2) (a b a' b' : Tr) : eqT (.two w a b) (.two w' a' b') = (decide (w.s = w'.s) && (eqT a a' && eqT b b')) := by
  show same (.tup [.str w.s, dt a, dt b]) (.tup [.str w'.s, dt a', dt b']) = _
  rw [same_t3, same_str]; rfl
theorem eq_now (m m' : Str) : eqT (.now m) (.now m') = decide (m = m') := by
  show same (.tup [.str "now", .str m]) (.tup [.str "now", .str m']) = _
  rw [same_t2, same_str, same_str]; simp
theorem eq_one_two (w : W1) (w' : W2) (a b c : Tr) : eqT (.one w a) (.two w' b c) = false := by
  show (same (.str w.s) (.str w'.s) && (same (dt a) (dt b) && false)) = false
  simp
theorem eq_two_one (w : W2) (w' : W1) (a b c : Tr) : eqT (.two w a b) (.one w' c) = false := by
  show (same (.str w.s) (.str w'.s) && (same (dt a) (dt c) && false)) = false
  simp
theorem eq_now_one (m : Str) (w : W1) (t : Tr) : eqT (.now m) (.one w t) = false := by
  show (same (.str "now") (.str w.s) && _) = false
  rw [same_str]
  have : decide (("now" : Str) = w.s) = false := by cases w <;> decide +kernel
  rw [this]; rfl
theorem eq_one_now (m : Str) (w : W1) (t : Tr) : eqT (.one w t) (.now m) = false := by
  show (same (.str w.s) (.str "now") && _) = false
  rw [same_str, w1_now]; rfl
def isNow : Tr → Bool
  | .now _ => true
  | _ => false
def isP : Tr → Bool
  | .one .nt t => isNow t
  | .one w t => (w.s == "next" || w.s == "before" || w.s == "early") && isP t
  | .two .th _ _ => false
  | .two _ a b => isP a && isP b
  | _ => true
theorem eq_now_not (m : Str) (t : Tr) (h : isNow t = false) : eqT (.now m) t = false := by
  cases t with
  | now m => cases h
  | one w t => exact eq_now_one m w t
  | two w a b =>
    show (same (.str "now") (.str w.s) && _) = false
    rw [same_str]
    have : decide (("now" : Str) = w.s) = false := by cases w <;> decide +kernel
    rw [this]; rfl
  | yes => rfl
  | no => rfl
/-- not stands ahead of now alone -/
theorem push_not : ∀ t d y, pushT d t = .one .nt y → ∃ m, y = .now m := by
  intro t
  induction t with
  | yes => intro d y h; cases d <;> simp [pushT] at h
  | no => intro d y h; cases d <;> simp [pushT] at h
  | now m => intro d y h; cases d <;> simp [pushT] at h; exact ⟨m, h.symm⟩
  | one w t ih =>
    intro d y h
    cases w with
    | nt => simp only [pushT] at h; exact ih _ _ h
    | _ => cases d <;> simp [pushT, dual1] at h
  | two w a b _ _ => intro d y h; cases w <;> simp [pushT] at h
theorem push_nt (t : Tr) (h : isNow t = false) : eqT (pushT true (plainT t)) (.one .nt t) = false := by
  generalize e : pushT true (plainT t) = x
  cases x with
  | yes => rfl
  | no => rfl
  | now m => exact eq_now_one m _ _
  | two w a b => exact eq_two_one _ _ _ _ _
  | one w y =>
    rw [eq_one]
    cases w with
    | nt =>
      obtain ⟨m, rfl⟩ := push_not _ _ _ e
      rw [eq_now_not m t h, Bool.and_false]
    | _ => rfl
theorem pushed_iff : ∀ t, eqT (pushT false (plainT t)) t = isP t := by
  intro t
  induction t with
  | yes => rfl
  | no => rfl
  | now m => show eqT (.now m) (.now m) = true; rw [eq_now]; simp
  | one w t ih =>
    cases w with
    | nt =>
      show eqT (pushT true (plainT t)) (.one .nt t) = isNow t
      cases h : isNow t with
      | false => exact push_nt t h
      | true =>
        cases t with
        | now m => show eqT (.one .nt (.now m)) (.one .nt (.now m)) = true; rw [eq_one, eq_now]; simp
        | _ => cases h
    | nx => show eqT (.one .nx _) (.one .nx t) = _; rw [eq_one, ih]; rfl
    | bf => show eqT (.one .bf _) (.one .bf t) = _; rw [eq_one, ih]; rfl
    | er => show eqT (.one .er _) (.one .er t) = _; rw [eq_one, ih]; rfl
    | so => exact eq_two_one _ _ _ _ _
    | ev => exact eq_two_one _ _ _ _ _
    | on => exact eq_two_one _ _ _ _ _
    | sf => exact eq_two_one _ _ _ _ _
    | ag => exact eq_two_one _ _ _ _ _
    | se => exact eq_two_one _ _ _ _ _
  | two w a b iha ihb =>
    cases w with
    | th =>
      show eqT (.two .orr _ _) (.two .th a b) = false
      rw [eq_two]; rfl
    | _ =>
      all_goals
        refine (eq_two _ _ _ _ _ _).trans ?_
        rw [iha, ihb]; rfl
end K23

-- text P8
set_option Elab.async false
set_option linter.all false
set_option maxRecDepth 100000
set_option maxHeartbeats 2000000
namespace K23
open PySem hiding ret plain
open Fz
theorem dp_plain : ∀ t, dp (plainT t) ≤ 2 * dp t := by
  intro t
  induction t with
  | one w t ih => have := dp_pos (plainT t); cases w <;> simp only [plainT, dp] <;> omega
  | two w a b iha ihb => cases w <;> simp only [plainT, dp] <;> omega
  | _ => simp [plainT, dp]
theorem dp_push : ∀ t d, dp (pushT d t) ≤ dp t + 1 := by
  intro t
  induction t with
  | yes => intro d; cases d <;> simp [pushT, dp]
  | no => intro d; cases d <;> simp [pushT, dp]
  | now m => intro d; cases d <;> simp [pushT, dp]
  | one w t ih =>
    intro d
    cases w with
    | nt => have := ih (!d); simp only [pushT, dp]; omega
    | _ => have := ih d; simp only [pushT, dp]; omega
  | two w a b iha ihb => intro d; have := iha d; have := ihb d; simp only [pushT, dp]; omega
theorem cok_dt (t : Tr) (h : dp t ≤ 64) : cok (dt t) = true := by
  show (plain (dt t) && decide (dep (dt t) ≤ 64)) = true
  rw [plain_dt, dep_dt, Bool.true_and]
  exact decide_eq_true h
theorem eq_dt (a b : Tr) (h : dp a ≤ 64) (h' : dp b ≤ 64) : dEq (dt a) (dt b) = some (.bl (eqT a b)) := by
  unfold dEq
  rw [cok_dt a h, cok_dt b h']
  rfl
theorem tree_q (t : Tr) (h : dp t ≤ 40) {fa : M D} {st s : Sl} (ha : fa st = some (.v (ob t), s)) : rMeth 1 (tab_tree 40) fa aNil st = some (.v (.d (dt t)), s) := meth_tree ha (tree_all t 40 h)
theorem ispushed_ok (t : Tr) (h : dp t ≤ 20) : F_is_pushed [.d (ob t)] = some (.v (.d (.bl (isP t))), [.d (ob t)]) := by
  have hp := dp_plain t
  have hq := dp_push (plainT t) false
  refine fn_rt (s := [some (.d (ob t)), some (.d (dt t))]) rfl ?_ rfl
  show b_is_pushed [some (.d (ob t)), none] = _
  unfold b_is_pushed
  refine (sq (set_r (r := .d (dt t)) (s := [some (.d (ob t)), none]) (tree_q t (by omega) rfl))).trans ?_
  have e1 := plain_ok t 40 (by omega)
  have e2 := push_ok (plainT t) (pl_plain t) 40 false (by omega)
  have e3 := eq_dt (pushT false (plainT t)) t (by omega) (by omega)
  rw [pushed_iff] at e3
  exact retq' (dq (binq (s := [some (.d (ob t)), some (.d (dt t))]) (fzq (call2q (s := [some (.d (ob t)), some (.d (dt t))]) (fzq (call1q (x := dt t) (s := [some (.d (ob t)), some (.d (dt t))]) rfl e1) rfl) (s1 := [some (.d (ob t)), some (.d (dt t))]) (y := .bl false) rfl e2) rfl) (y := dt t) rfl e3))
theorem pushed_ok (t : Tr) (h : dp t ≤ 19) (ho : ok (pushT false (plainT t))) (hs : size (pushT false (plainT t)) ≤ sizeLine) : F_pushed [.d (ob t)] = some (.v (obR (pushT false (plainT t))), [.d (ob t)]) := by
  have hp := dp_plain t
  have hq := dp_push (plainT t) false
  refine fn_rt (s := [some (.d (ob t))]) rfl ?_ rfl
  show b_pushed [some (.d (ob t))] = _
  unfold b_pushed
  have e1 := plain_ok t 40 (by omega)
  have e2 := push_ok (plainT t) (pl_plain t) 40 false (by omega)
  exact retq' (call1q (x := dt (pushT false (plainT t))) (s := [some (.d (ob t))]) (fzq (call2q (s := [some (.d (ob t))]) (fzq (call1q (x := dt t) (s := [some (.d (ob t))]) (fzq (tree_q t (by omega) rfl) rfl) e1) rfl) (s1 := [some (.d (ob t))]) (y := .bl false) rfl e2) rfl) (statement_ok _ ho (by omega) hs))
theorem ok_plain : ∀ t, ok t → ok (plainT t) := by
  intro t
  induction t with
  | one w t ih => intro h; have := ih h; cases w <;> simp [plainT, ok, this]
  | two w a b iha ihb => intro h; have := iha h.1; have := ihb h.2; cases w <;> simp [plainT, ok, *]
  | _ => intro h; exact h
theorem ok_push : ∀ t d, ok t → ok (pushT d t) := by
  intro t
  induction t with
  | yes => intro d h; cases d <;> trivial
  | no => intro d h; cases d <;> trivial
  | now m => intro d h; cases d <;> exact h
  | one w t ih => intro d h; cases w <;> exact ih _ h
  | two w a b iha ihb => intro d h; exact ⟨iha _ h.1, ihb _ h.2⟩
theorem two_pow (t : Tr) : size t < 2 ^ dp t := by
  induction t with
  | one w t ih => simp only [size, dp, Nat.pow_succ]; omega
  | two w a b iha ihb =>
    have h1 : 2 ^ dp a ≤ 2 ^ max (dp a) (dp b) := Nat.pow_le_pow_right (by omega) (by omega)
    have h2 : 2 ^ dp b ≤ 2 ^ max (dp a) (dp b) := Nat.pow_le_pow_right (by omega) (by omega)
    simp only [size, dp, Nat.pow_succ]; omega
  | _ => simp [size, dp]
theorem size_small (t : Tr) (h : dp t ≤ 24) : size t ≤ sizeLine := by
  have h1 := two_pow t
  have h2 : 2 ^ dp t ≤ 2 ^ 24 := Nat.pow_le_pow_right (by omega) h
  have h3 : sizeLine = 2 ^ 24 := by decide
  omega
/-- the law's own look -/
theorem in_words (w : Str) (A : Sl) (ws : List Str) : True := trivial
theorem lawp_ok : ∀ t n, dp t ≤ n → F__law_is_pushed n [.d (dt t)] = some (.v (.d (.bl (isP t))), [.d (dt t)]) := by
  intro t
  induction t with
  | yes => intro n hn; cases n with | zero => simp [dp] at hn | succ n => rfl
  | no => intro n hn; cases n with | zero => simp [dp] at hn | succ n => rfl
  | now m => intro n hn; cases n with | zero => simp [dp] at hn | succ n => rfl
  | one w t ih =>
    intro n hn
    cases n with
    | zero => simp [dp] at hn
    | succ n =>
      have e := ih n (by simp only [dp] at hn; omega)
      have hl := lc1 (i := 1) (s := [some (.d (.tup [.str w.s, dt t])), none]) e rfl
      have fin : (w = .nx ∨ w = .bf ∨ w = .er) → F__law_is_pushed (n + 1) [.d (dt (.one w t))] = some (.v (.d (.bl (isP t))), [.d (dt (.one w t))]) := by
        intro hw
        refine fn_rt (s := [some (.d (.tup [.str w.s, dt t])), none]) rfl ?_ rfl
        show b__law_is_pushed (F__law_is_pushed n) [some (.d (.tup [.str w.s, dt t])), none] = _
        unfold b__law_is_pushed
        rw [skip (by rw [hd_eq, w1_now])]
        rw [skip (s := [some (.d (.tup [.str w.s, dt t])), none]) (by rw [hd_eq]; rcases hw with rfl | rfl | rfl <;> rfl)]
        rw [skip (s := [some (.d (.tup [.str w.s, dt t])), none]) (by rcases hw with rfl | rfl | rfl <;> rfl)]
        exact retq' (dq (opq (z := .bl (isP t)) (consq (fzq (rLc_eq (seqI rfl) rfl hl) rfl) rfl) (by show some (D.bl ([isP t].all id)) = _; simp)))
      cases w with
      | nt =>
        cases t with
        | one w t => cases w <;> rfl
        | two w a b => cases w <;> rfl
        | _ => rfl
      | nx => exact fin (.inl rfl)
      | bf => exact fin (.inr (.inl rfl))
      | er => exact fin (.inr (.inr rfl))
      | _ => rfl
  | two w a b iha ihb =>
    intro n hn
    cases n with
    | zero => simp [dp] at hn
    | succ n =>
      have ea := iha n (by simp only [dp] at hn; omega)
      have eb := ihb n (by simp only [dp] at hn; omega)
      have hl := lc2 (i := 1) (s := [some (.d (.tup [.str w.s, dt a, dt b])), none]) ea eb rfl
      have fin : w ≠ .th → F__law_is_pushed (n + 1) [.d (dt (.two w a b))] = some (.v (.d (.bl (isP a && isP b))), [.d (dt (.two w a b))]) := by
        intro hw
        refine fn_rt (s := [some (.d (.tup [.str w.s, dt a, dt b])), none]) rfl ?_ rfl
        show b__law_is_pushed (F__law_is_pushed n) [some (.d (.tup [.str w.s, dt a, dt b])), none] = _
        unfold b__law_is_pushed
        rw [skip (by rw [hd_eq, w2_now])]
        rw [skip (s := [some (.d (.tup [.str w.s, dt a, dt b])), none]) (by rw [hd_eq]; cases w <;> rfl)]
        rw [skip (s := [some (.d (.tup [.str w.s, dt a, dt b])), none]) (by cases w <;> first | rfl | exact (hw rfl).elim)]
        exact retq' (dq (opq (z := .bl (isP a && isP b)) (consq (fzq (rLc_eq (seqI rfl) rfl hl) rfl) rfl) (by show some (D.bl ([isP a, isP b].all id)) = _; simp)))
      cases w with
      | th => rfl
      | _ => exact fin (by intro h; cases h)
end K23

-- text P10
set_option Elab.async false
set_option linter.all false
set_option maxRecDepth 100000
set_option maxHeartbeats 2000000
namespace K23
open PySem hiding ret plain
open Fz
/-! ### the drawing -/
def st (a : Int) (ns : List Int) (c : Int) : R := .ol [.int a, .lst (ns.map D.int), .int c]
theorem begin_ok (ns : List Int) : F__law_begin [.d (.lst (ns.map D.int))] = some (.v (st ((ns.length : Int) + 7) ns 0), [.d (.lst (ns.map D.int))]) := by
  have : (ns.map D.int).length = ns.length := List.length_map ..
  refine fn_rt (s := [some (.d (.lst (ns.map D.int)))]) rfl ?_ rfl
  show b__law_begin [some (.d (.lst (ns.map D.int)))] = _
  unfold b__law_begin st
  refine retq' (lstq (consq (binq (x := .int ((ns.map D.int).length : Nat)) (opq (consq (x := .lst (ns.map D.int)) rfl rfl) (len_l _)) rfl ?_) (consq (x := .lst (ns.map D.int)) rfl (consq rfl rfl))) (by show 3 ≤ 16777216; decide))
  rw [this]; rfl
theorem at_mod (ns : List Int) (c : Int) (hc : 0 ≤ c) (hn : 0 < ns.length) : ∃ x : Int, dIx (.lst (ns.map D.int)) (.int (c % (ns.length : Int))) = some (.int x) := by
  have h1 : 0 ≤ c % (ns.length : Int) := Int.emod_nonneg _ (by omega)
  have h2 : c % (ns.length : Int) < ns.length := Int.emod_lt_of_pos _ (by omega)
  obtain ⟨k, hk⟩ : ∃ k : Nat, c % (ns.length : Int) = k := ⟨(c % (ns.length : Int)).toNat, by omega⟩
  rw [hk] at h1 h2 ⊢
  have hlt : k < ns.length := by omega
  refine ⟨ns[k], ?_⟩
  show L2.atI (ns.map D.int) (k : Int) = _
  have hk2 : (k : Int) < (ns.length : Int) := by omega
  simp [L2.atI, L2.ixN, hk2, hlt]
theorem ix0l (x : D) (xs : List D) : dIx (.lst (x :: xs)) (.int 0) = some x := by
  show L2.atI (x :: xs) 0 = some x
  have : (0 : Int) < (xs.length : Int) + 1 := by omega
  simp [L2.atI, L2.ixN, this]
def nm (a c x : Int) : Int := (a * 48271 + x + (c + 1)) % 2147483647
def nr (b : Int) : Int := (b * b + 16807 * b) % 2147483629
theorem nr_ok (b : Int) : 0 ≤ nr b ∧ nr b < 2147483629 := ⟨Int.emod_nonneg _ (by decide), Int.emod_lt_of_pos _ (by decide)⟩
theorem nm_ok (a c x : Int) : 0 ≤ nm a c x ∧ nm a c x < 2147483647 := ⟨Int.emod_nonneg _ (by decide), Int.emod_lt_of_pos _ (by decide)⟩
theorem fullE {n : Nat → Nat} {f : M D} {st s : Sl} {x : D} (h : f (vwN n st) = some (.v x, s)) (hi : imm x = true) : eFull n f st = some (.v x, st) := by unfold eFull; rw [h]; simp [hi]
theorem fullT {n : Nat → Nat} {f : M Bool} {st s : Sl} {b : Bool} (h : f (vwN n st) = some (.v b, s)) : tFull n f st = some (.v b, st) := by unfold tFull; rw [h]
theorem mul1 (a : Int) (b : Int) (h : -(2 ^ 64) < b ∧ b < 2 ^ 64) : dMul (.int a) (.int b) = some (.int (a * b)) := by
  show (if CMulB a b then _ else _) = _
  rw [if_pos (.inr h)]
theorem mod1 (a b : Int) (h : 0 < b) : dMod (.int a) (.int b) = some (.int (a % b)) := by
  show (if 0 < b then _ else _) = _
  rw [if_pos h]
theorem subq {i j : Nat} {mi m : M D} {st s1 s2 : Sl} {x : D} {k : Int} {xs : List D} (h : m st = some (.v x, s1)) (h1 : mi s1 = some (.v (.int k), s2)) (h2 : s2[i]? = some (some (.ol xs))) (h3 : L2.ixN xs.length k = some j) (h4 : isL s1[i]? = true) : sSub i mi m st = some (.nx, s2.set i (some (.ol (xs.set j x)))) := by
  unfold sSub; simp only [h, h1, h2, h3, h4, if_true]
theorem next_ok (a : Int) (ns : List Int) (c : Int) (hc : 0 ≤ c) : ∃ a' r, 0 ≤ r ∧ F__law_next [st a ns c] = some (.v (.d (.int r)), [st a' ns (c + 1)]) := by
  have hlen : (ns.map D.int).length = ns.length := List.length_map ..
  -- the cell
  have hcell : ∃ x : Int, sIf (tFull nf (eTst (eBin dGt (eOp dLen (eCons (eBin dIx (eVar 0) (Fz.ret (.int 1))) eNil)) (Fz.ret (.int 0))))) (sSet 1 (rD (eFull nf (eBin dIx (eBin dIx (eVar 0) (Fz.ret (.int 1))) (eBin dMod (eBin dIx (eVar 0) (Fz.ret (.int 2))) (eOp dLen (eCons (eBin dIx (eVar 0) (Fz.ret (.int 1))) eNil))))))) sNext [some (st a ns c), some (.d (.int 0))] = some (.nx, [some (st a ns c), some (.d (.int x))]) := by
    have V : vwN nf [some (st a ns c), some (.d (.int 0))] = [some (.d (.lst [.int a, .lst (ns.map D.int), .int c])), some (.d (.int 0))] := rfl
    have hl : (eOp dLen (eCons (eBin dIx (eVar 0) (Fz.ret (.int 1))) eNil)) [some (.d (.lst [.int a, .lst (ns.map D.int), .int c])), some (.d (.int 0))] = some (.v (.int (ns.length : Nat)), [some (.d (.lst [.int a, .lst (ns.map D.int), .int c])), some (.d (.int 0))]) :=
      opq (consq (binq (x := .lst [.int a, .lst (ns.map D.int), .int c]) rfl rfl rfl) rfl) (by rw [len_l, hlen])
    have ht : tFull nf (eTst (eBin dGt (eOp dLen (eCons (eBin dIx (eVar 0) (Fz.ret (.int 1))) eNil)) (Fz.ret (.int 0)))) [some (st a ns c), some (.d (.int 0))] = some (.v (decide (0 < (ns.length : Int))), [some (st a ns c), some (.d (.int 0))]) :=
      fullT (by rw [V]; exact tstq (binq hl rfl rfl))
    by_cases hn : 0 < ns.length
    · rw [decide_eq_true (by omega)] at ht
      obtain ⟨x, hx⟩ := at_mod ns c hc hn
      refine ⟨x, ?_⟩
      rw [ifT ht]
      refine set_r (r := .d (.int x)) (s := [some (st a ns c), some (.d (.int 0))]) (dq (fullE (x := .int x) (s := [some (.d (.lst [.int a, .lst (ns.map D.int), .int c])), some (.d (.int 0))]) ?_ rfl))
      rw [V]
      exact binq (x := .lst (ns.map D.int)) (binq (x := .lst [.int a, .lst (ns.map D.int), .int c]) rfl rfl rfl) (binq (x := .int c) (binq (x := .lst [.int a, .lst (ns.map D.int), .int c]) rfl rfl rfl) hl (mod1 c _ (by omega))) hx
    · rw [decide_eq_false (by omega)] at ht
      exact ⟨0, by rw [ifF ht]; rfl⟩
  obtain ⟨x, hx⟩ := hcell
  refine ⟨nm a c x, nr (nm a c x), (nr_ok _).1, ?_⟩
  have hm := nm_ok a c x
  refine fn_rt (s := [some (st (nm a c x) ns (c + 1)), some (.d (.int x))]) rfl ?_ rfl
  show b__law_next [some (st a ns c), none] = _
  unfold b__law_next
  refine (sq (set_r (r := .d (.int 0)) (s := [some (st a ns c), none]) (dq rfl))).trans ?_
  refine (sq hx).trans ?_
  have e1 : sSub 0 (Fz.ret (.int 2)) (eFull nf (eBin dAdd (eBin dIx (eVar 0) (Fz.ret (.int 2))) (Fz.ret (.int 1)))) [some (st a ns c), some (.d (.int x))] = some (.nx, [some (st a ns (c + 1)), some (.d (.int x))]) :=
    subq (s1 := [some (st a ns c), some (.d (.int x))]) (s2 := [some (st a ns c), some (.d (.int x))]) (k := 2) (x := .int (c + 1)) (j := 2) (xs := [.int a, .lst (ns.map D.int), .int c]) (fullE (s := [some (.d (.lst [.int a, .lst (ns.map D.int), .int c])), some (.d (.int x))]) (binq (x := .int c) (y := .int 1) (binq (x := .lst [.int a, .lst (ns.map D.int), .int c]) rfl rfl rfl) rfl rfl) rfl) rfl rfl rfl rfl
  refine (sq e1).trans ?_
  have e2 : sSub 0 (Fz.ret (.int 0)) (eFull nf (eBin dMod (eBin dAdd (eBin dAdd (eBin dMul (eBin dIx (eVar 0) (Fz.ret (.int 0))) (Fz.ret (.int 48271))) (eVar 1)) (eBin dIx (eVar 0) (Fz.ret (.int 2)))) (Fz.ret (.int 2147483647)))) [some (st a ns (c + 1)), some (.d (.int x))] = some (.nx, [some (st (nm a c x) ns (c + 1)), some (.d (.int x))]) :=
    subq (s1 := [some (st a ns (c + 1)), some (.d (.int x))]) (s2 := [some (st a ns (c + 1)), some (.d (.int x))]) (k := 0) (x := .int (nm a c x)) (j := 0) (xs := [.int a, .lst (ns.map D.int), .int (c + 1)]) (fullE (s := [some (.d (.lst [.int a, .lst (ns.map D.int), .int (c + 1)])), some (.d (.int x))])
      (binq (binq (binq (binq (x := .int a) (binq (x := .lst [.int a, .lst (ns.map D.int), .int (c + 1)]) rfl rfl rfl) rfl (mul1 a 48271 (by decide))) (y := .int x) rfl rfl) (binq (x := .lst [.int a, .lst (ns.map D.int), .int (c + 1)]) (z := .int (c + 1)) rfl rfl rfl) rfl) rfl (mod1 _ _ (by decide))) rfl) rfl rfl rfl rfl
  refine (sq e2).trans ?_
  generalize nm a c x = b at hm ⊢
  have e3 : eFull nf (eBin dMod (eBin dAdd (eBin dMul (eBin dIx (eVar 0) (Fz.ret (.int 0))) (eBin dIx (eVar 0) (Fz.ret (.int 0)))) (eBin dMul (Fz.ret (.int 16807)) (eBin dIx (eVar 0) (Fz.ret (.int 0))))) (Fz.ret (.int 2147483629))) [some (st b ns (c + 1)), some (.d (.int x))] = some (.v (.int (nr b)), [some (st b ns (c + 1)), some (.d (.int x))]) :=
    fullE (s := [some (.d (.lst [.int b, .lst (ns.map D.int), .int (c + 1)])), some (.d (.int x))])
      (binq (binq (binq (x := .int b) (y := .int b) (binq (x := .lst [.int b, .lst (ns.map D.int), .int (c + 1)]) rfl rfl rfl) (binq (x := .lst [.int b, .lst (ns.map D.int), .int (c + 1)]) rfl rfl rfl) (mul1 b b (by omega))) (binq (x := .int 16807) (y := .int b) rfl (binq (x := .lst [.int b, .lst (ns.map D.int), .int (c + 1)]) rfl rfl rfl) (mul1 _ b (by omega))) rfl) rfl (mod1 _ _ (by decide))) rfl
  exact retq' (dq e3)
end K23

-- text P11
set_option Elab.async false
set_option linter.all false
set_option maxRecDepth 100000
set_option maxHeartbeats 2000000
namespace K23
open PySem hiding ret plain
open Fz
/-! ### marks -/
def sml : List Nat := [97, 98, 99, 100, 101, 102, 103, 104, 105, 106, 107, 108, 109, 110, 111, 112, 113, 114, 115, 116, 117, 118, 119, 120, 121, 122]
def fig : List Nat := [48, 49, 50, 51, 52, 53, 54, 55, 56, 57]
theorem sml_eq : ("abcdefghijklmnopqrstuvwxyz" : Str).cps.toList = sml := by decide +kernel
theorem fig_eq : ("0123456789" : Str).cps.toList = fig := by decide +kernel
def kw : List Str := ["yes", "no", "not", "and", "or", "then", "until", "since", "frees", "held", "next", "before", "early", "soon", "ever", "once", "sofar", "again", "settles"]
theorem kept_ok : F_kept_words [] = some (.v (.ol (kw.map D.str)), []) := by
  have h : gSplit (.str "yes no not and or then until since frees held next before early soon ever once sofar again settles") [.str " "] = some (kw.map D.str) := by
    have h1 : Txt.split "yes no not and or then until since frees held next before early soon ever once sofar again settles" " " = kw := by decide +kernel
    show (if _ then some ((Txt.split _ _).map D.str) else none) = _
    rw [h1, if_pos (by decide +kernel)]
  refine fn_rt (s := [some (.d (.str "yes no not and or then until since frees held next before early soon ever once sofar again settles"))]) rfl ?_ rfl
  show b_kept_words [none] = _
  unfold b_kept_words
  refine (sq (set_r (r := .d (.str "yes no not and or then until since frees held next before early soon ever once sofar again settles")) (s := [none]) (dq rfl))).trans ?_
  refine retq' (s := [some (.d (.str "yes no not and or then until since frees held next before early soon ever once sofar again settles"))]) ?_
  unfold rMt
  rw [bq (a := .str "yes no not and or then until since frees held next before early soon ever once sofar again settles") (s := [some (.d (.str "yes no not and or then until since frees held next before early soon ever once sofar again settles"))]) rfl]
  rw [if_pos (show tyOk "str" (.str _) = true from rfl)]
  rw [bq (a := [.str " "]) (s := [some (.d (.str "yes no not and or then until since frees held next before early soon ever once sofar again settles"))]) rfl]
  rw [h]; rfl
/-- signs and size of a mark -/
structure Mk (m : Str) : Prop where
  head : ∃ c r, m.cps.toList = c :: r ∧ c ∈ sml
  all : ∀ c ∈ m.cps.toList, c ∈ sml ∨ c ∈ fig
  len : m.length ≤ 8
  new : m ∉ kw
theorem len_list (m : Str) : m.length = m.cps.toList.length := by show m.cps.size = _; simp
theorem in_small (c : Nat) : dIn (.str ⟨#[c]⟩) c_SMALL = some (.bl (decide (c ∈ sml))) := by
  show some (D.bl (decide (c ∈ ("abcdefghijklmnopqrstuvwxyz" : Str).cps.toList))) = _
  rw [sml_eq]
theorem in_fig (c : Nat) : dIn (.str ⟨#[c]⟩) c_FIGURES = some (.bl (decide (c ∈ fig))) := by
  show some (D.bl (decide (c ∈ ("0123456789" : Str).cps.toList))) = _
  rw [fig_eq]
theorem good_of (m : Str) (h : Mk m) : good m := by
  obtain ⟨c, r, hl, hc⟩ := h.head
  have hlen := len_list m
  have h8 := h.len
  have h1 : 1 ≤ m.length := by rw [hlen, hl]; simp
  have hz : m.length ≤ sizeLine := Nat.le_trans h8 (by decide)
  have e0 : dIx (.str m) (.int 0) = some (.str ⟨#[c]⟩) := by
    show (if m.length ≤ sizeLine then (L2.atI m.cps.toList 0).map _ else none) = _
    rw [if_pos hz, hl]
    have : (0 : Int) < (r.length : Int) + 1 := by omega
    simp [L2.atI, L2.ixN, this]
  have el : dLen [.str m] = some (.int (m.length : Nat)) := by
    show (if m.length ≤ sizeLine then _ else none) = _
    rw [if_pos hz]
  have hl2 := lc_e (i := 1) (e := eOr (eBin dIn (eVar 1) (Fz.ret c_SMALL)) (eBin dIn (eVar 1) (Fz.ret c_FIGURES))) (s := [some (.d (.str m)), none]) (ds := sgnD m) (ys := m.cps.toList.map fun _ => D.bl true)
    (Two.of_map m.cps.toList fun x hx => by
      show eOr _ _ [some (.d (.str m)), some (.d (.str ⟨#[x]⟩))] = _
      unfold eOr
      rw [bq (binq (x := .str ⟨#[x]⟩) rfl rfl (in_small x))]
      by_cases hs : x ∈ sml
      · rw [decide_eq_true hs]; rfl
      · rw [decide_eq_false hs]
        rcases h.all x hx with h' | h'
        · exact (hs h').elim
        · exact binq (x := .str ⟨#[x]⟩) rfl rfl (by rw [in_fig, decide_eq_true h'])) (by show (m.cps.toList.map _).length ≤ _; rw [List.length_map, ← hlen]; exact hz) rfl
  have hbl : dAll [.lst (m.cps.toList.map fun _ => D.bl true)] = some (.bl true) := by
    have h : ∀ l : List Nat, bls (l.map fun _ => D.bl true) = some (l.map fun _ => true) := by
      intro l
      induction l with
      | nil => rfl
      | cons t ts ih => simp [bls, ih]
    show (bls (m.cps.toList.map fun _ => D.bl true)).map _ = _
    rw [h]
    simp
  have hk : dNotIn (.str m) (.lst (kw.map D.str)) = some (.bl true) := by
    have c2 : cok (.lst (kw.map D.str)) = true := by decide +kernel
    have hi : dInB (.str m) (.lst (kw.map D.str)) = some false := by
      show (if (cok (.str m) && cok (.lst (kw.map D.str))) = true then _ else none) = _
      rw [c2]
      show some ((kw.map D.str).any fun z => same z (.str m)) = some false
      rw [List.any_map]
      have : (kw.any ((fun z => same z (.str m)) ∘ D.str)) = false := by
        rw [List.any_eq_false]
        intro k hk
        show ¬ same (.str k) (.str m) = true
        rw [same_str]
        intro e
        exact h.new (of_decide_eq_true e ▸ hk)
      rw [this]
    show (dInB _ _).map _ = _
    rw [hi]; rfl
  have hchain : eTst (eChain dLe dLe (Fz.ret (.int 1)) (eOp dLen (eCons (eVar 0) eNil)) (Fz.ret c_MOST_SIGNS)) [some (.d (.str m)), none] = some (.v true, [some (.d (.str m)), none]) := by
    refine tstq ?_
    unfold eChain
    rw [bq (a := .int 1) (s := [some (.d (.str m)), none]) rfl, bq (a := .int (m.length : Nat)) (s := [some (.d (.str m)), none]) (opq (consq (x := .str m) rfl rfl) el)]
    have l1 : dLe (.int 1) (.int (m.length : Nat)) = some (.bl true) := by
      show some (D.bl (decide ((1 : Int) ≤ (m.length : Nat)))) = _
      rw [decide_eq_true (by omega)]
    have l2 : dLe (.int (m.length : Nat)) c_MOST_SIGNS = some (.bl true) := by
      show some (D.bl (decide (((m.length : Nat) : Int) ≤ 8))) = _
      rw [decide_eq_true (by omega)]
    rw [l1, bq (a := .bl true) (s := [some (.d (.str m)), none]) rfl]
    show bnd _ _ _ = _
    rw [bq (a := c_MOST_SIGNS) (s := [some (.d (.str m)), none]) rfl, l2]
    rfl
  show F_is_mark [.d (.str m)] = _
  refine fn_rt (s := [some (.d (.str m)), none]) rfl ?_ rfl
  show b_is_mark [some (.d (.str m)), none] = _
  unfold b_is_mark
  rw [skip (s := [some (.d (.str m)), none]) ?hc]
  case hc =>
    rw [orF (notq (b := true) (tstq (unq (x := .str m) rfl rfl)))]
    rw [orF (notq hchain)]
    refine tstq (binq (x := .str ⟨#[c]⟩) (binq (x := .str m) rfl rfl e0) rfl ?_)
    show (dInB _ _).map _ = _
    have := in_small c
    rw [decide_eq_true hc] at this
    have h2 : dInB (.str ⟨#[c]⟩) c_SMALL = some true := by
      cases hq : dInB (.str ⟨#[c]⟩) c_SMALL with
      | none => rw [show dIn (.str ⟨#[c]⟩) c_SMALL = (dInB (.str ⟨#[c]⟩) c_SMALL).map .bl from rfl, hq] at this; cases this
      | some b => rw [show dIn (.str ⟨#[c]⟩) c_SMALL = (dInB (.str ⟨#[c]⟩) c_SMALL).map .bl from rfl, hq] at this; cases this; rfl
    rw [h2]; rfl
  refine retq' (dq ?_)
  unfold eAnd
  have hsg : iText (eVar 0) [some (.d (.str m)), none] = some (.v (sgnD m), [some (.d (.str m)), none]) := rfl
  rw [bq (a := .bl true) (s := [some (.d (.str m)), none]) (opq (consq (fzq (rLc_eq hsg rfl hl2) rfl) rfl) hbl)]
  refine binq (x := .str m) (y := .lst (kw.map D.str)) rfl (fzq (v := .ol (kw.map D.str)) ?_ rfl) hk
  show rCall 0 F_kept_words [] aNil _ = _
  unfold rCall aNil
  rw [bq (a := []) (s := [some (.d (.str m)), none]) rfl]
  simp [callF, getA, owns, kept_ok, putA]
end K23

-- text P12
set_option Elab.async false
set_option linter.all false
set_option maxRecDepth 100000
set_option maxHeartbeats 2000000
namespace K23
open PySem hiding ret plain
open Fz
theorem nextq (a : Int) (ns : List Int) (c : Int) (hc : 0 ≤ c) : ∃ a' r, 0 ≤ r ∧ ∀ (i : Nat) (s : Sl), s[i]? = some (some (st a ns c)) → rCall 1 F__law_next [] (aO i aNil) s = some (.v (.d (.int r)), s.set i (some (st a' ns (c + 1)))) := by
  obtain ⟨a', r, h0, h⟩ := next_ok a ns c hc
  refine ⟨a', r, h0, fun i s hi => ?_⟩
  unfold rCall
  rw [bq (a := [Arg.o i]) (s := s) (by simp [aO, aNil, bnd, Fz.ret, opt, hi])]
  show callF F__law_next [Arg.o i] s = _
  unfold callF
  have hg : getA [Arg.o i] s = some [st a ns c] := by simp [getA, hi]
  rw [hg]
  simp [owns, h, putA]
theorem mod_at (r : Int) (k : Nat) (h : 0 ≤ r) (hk : 0 < k) : ∃ j : Nat, j < k ∧ r % (k : Int) = j := by
  have h1 : 0 ≤ r % (k : Int) := Int.emod_nonneg _ (by omega)
  have h2 : r % (k : Int) < k := Int.emod_lt_of_pos _ (by omega)
  exact ⟨(r % (k : Int)).toNat, by omega, by omega⟩
theorem leaf_ok (a : Int) (ns : List Int) (c : Int) (hc : 0 ≤ c) (ms : List Str) (hm : ∀ m ∈ ms, good m) (h0 : 0 < ms.length) : ∃ a' c' t, 0 ≤ c' ∧ ok t ∧ dp t = 1 ∧ F__law_leaf [st a ns c, .d (.lst (ms.map D.str))] = some (.v (.d (dt t)), [st a' ns c', .d (.lst (ms.map D.str))]) := by
  obtain ⟨a1, r1, p1, e1⟩ := nextq a ns c hc
  obtain ⟨a2, r2, p2, e2⟩ := nextq a1 ns (c + 1) (by omega)
  obtain ⟨j, hj, ej⟩ := mod_at r1 12 p1 (by omega)
  have ek : sSet 2 (rD (eBin dMod (eFz nf (rCall 1 F__law_next [] (aO 0 aNil))) (Fz.ret (.int 12)))) [some (st a ns c), some (.d (.lst (ms.map D.str))), none] = some (.nx, [some (st a1 ns (c + 1)), some (.d (.lst (ms.map D.str))), some (.d (.int (j : Nat)))]) := by
    refine set_r (r := .d (.int (j : Nat))) (s := [some (st a1 ns (c + 1)), some (.d (.lst (ms.map D.str))), none]) (dq (binq (x := .int r1) (s := [some (st a1 ns (c + 1)), some (.d (.lst (ms.map D.str))), none]) (fzq (v := .d (.int r1)) (e1 0 _ rfl) rfl) rfl ?_))
    rw [mod1 _ _ (by decide)]
    exact congrArg (fun z => some (D.int z)) ej
  have ht : eTst (eBin dLt (eVar 2) (Fz.ret (.int 2))) [some (st a1 ns (c + 1)), some (.d (.lst (ms.map D.str))), some (.d (.int (j : Nat)))] = some (.v (decide ((j : Int) < 2)), [some (st a1 ns (c + 1)), some (.d (.lst (ms.map D.str))), some (.d (.int (j : Nat)))]) := tstq (binq (x := .int (j : Nat)) (y := .int 2) rfl rfl rfl)
  by_cases hj2 : j < 2
  · have : j = 0 ∨ j = 1 := by omega
    refine ⟨a1, c + 1, if j = 0 then .yes else .no, by omega, by split <;> trivial, by split <;> rfl, ?_⟩
    refine fn_rt (s := [some (st a1 ns (c + 1)), some (.d (.lst (ms.map D.str))), some (.d (.int (j : Nat)))]) rfl ?_ rfl
    show b__law_leaf [some (st a ns c), some (.d (.lst (ms.map D.str))), none] = _
    unfold b__law_leaf
    refine (sq ek).trans ?_
    rw [decide_eq_true (by omega)] at ht
    refine takeR ht (retq' ?_)
    rcases this with rfl | rfl <;> rfl
  · obtain ⟨i, hi, ei⟩ := mod_at r2 ms.length p2 h0
    refine ⟨a2, c + 1 + 1, .now ms[i], by omega, hm _ (List.getElem_mem hi), rfl, ?_⟩
    refine fn_rt (s := [some (st a2 ns (c + 1 + 1)), some (.d (.lst (ms.map D.str))), some (.d (.int (j : Nat)))]) rfl ?_ rfl
    show b__law_leaf [some (st a ns c), some (.d (.lst (ms.map D.str))), none] = _
    unfold b__law_leaf
    refine (sq ek).trans ?_
    rw [decide_eq_false (by omega)] at ht
    rw [skip ht]
    have hat : dIx (.lst (ms.map D.str)) (.int (i : Nat)) = some (.str ms[i]) := by
      show L2.atI (ms.map D.str) (i : Int) = _
      have : (i : Int) < (ms.length : Int) := by omega
      simp [L2.atI, L2.ixN, this, hi]
    refine retq' (dq (tupq (consq rfl (consq (binq (x := .lst (ms.map D.str)) (y := .int (i : Nat)) rfl (binq (x := .int r2) (y := .int (ms.length : Nat)) (fzq (v := .d (.int r2)) (e2 0 _ rfl) rfl) (opq (consq (x := .lst (ms.map D.str)) rfl rfl) (by rw [len_l, List.length_map])) ?_) hat) rfl)) (by show 2 ≤ 16777216; decide)))
    rw [mod1 _ _ (by omega), ei]
end K23

-- text P13
set_option Elab.async false
set_option linter.all false
set_option maxRecDepth 100000
set_option maxHeartbeats 2000000
namespace K23
open PySem hiding ret plain
open Fz
def ones11 : List W1 := [.nt, .nt, .nx, .bf, .er, .so, .ev, .on, .sf, .ag, .se]
def twos7 : List W2 := [.an, .orr, .th, .un, .si, .fr, .he]
theorem at_ones (j : Nat) (h : j < 11) : ∃ w : W1, dIx (.lst (ones11.map fun w => D.str w.s)) (.int (j : Nat)) = some (.str w.s) := by
  refine ⟨ones11[j]'(by simpa [ones11] using h), ?_⟩
  show L2.atI (ones11.map fun w => D.str w.s) (j : Int) = _
  have : (j : Int) < 11 := by omega
  have hl : ones11.length = 11 := rfl
  simp [L2.atI, L2.ixN, this, hl, h]
theorem at_twos (j : Nat) (h : j < 7) : ∃ w : W2, dIx (.lst (twos7.map fun w => D.str w.s)) (.int (j : Nat)) = some (.str w.s) := by
  refine ⟨twos7[j]'(by simpa [twos7] using h), ?_⟩
  show L2.atI (twos7.map fun w => D.str w.s) (j : Int) = _
  have : (j : Int) < 7 := by omega
  have hl : twos7.length = 7 := rfl
  simp [L2.atI, L2.ixN, this, hl, h]
theorem div_ok (r : Int) (k : Int) (h : 0 ≤ r) (hk : 0 < k) : 0 ≤ r / k := Int.ediv_nonneg h (by omega)
theorem callO4 {F : Fn} {S S' v : R} {x y z : D} {s : Sl} {fa fb fc : M D} (h0 : s[0]? = some (some S)) (ha : fa s = some (.v x, s)) (hb : fb s = some (.v y, s)) (hc : fc s = some (.v z, s)) (hF : F [S, .d x, .d y, .d z] = some (.v v, [S', .d x, .d y, .d z])) :
    rCall 4 F [] (aO 0 (aV fa (aV fb (aV fc aNil)))) s = some (.v v, s.set 0 (some S')) := by
  have e : aO 0 (aV fa (aV fb (aV fc aNil))) s = some (.v [Arg.o 0, Arg.v x, Arg.v y, Arg.v z], s) := by
    unfold aO; rw [h0]; dsimp only
    rw [bq (a := [Arg.v x, Arg.v y, Arg.v z]) (s := s)]
    · rfl
    · unfold aV
      rw [bq ha, bq (a := [Arg.v y, Arg.v z]) (s := s)]
      · rfl
      · rw [bq hb, bq (a := [Arg.v z]) (s := s)]
        · rfl
        · rw [bq hc]; rfl
  unfold rCall
  rw [bq e]
  show callF F [Arg.o 0, Arg.v x, Arg.v y, Arg.v z] s = _
  unfold callF
  have hg : getA [Arg.o 0, Arg.v x, Arg.v y, Arg.v z] s = some [S, .d x, .d y, .d z] := by simp [getA, h0]
  rw [hg]
  simp [owns, hF, putA]
theorem callO2 {F : Fn} {S S' v : R} {x : D} {s : Sl} {fa : M D} (h0 : s[0]? = some (some S)) (ha : fa s = some (.v x, s)) (hF : F [S, .d x] = some (.v v, [S', .d x])) :
    rCall 2 F [] (aO 0 (aV fa aNil)) s = some (.v v, s.set 0 (some S')) := by
  have e : aO 0 (aV fa aNil) s = some (.v [Arg.o 0, Arg.v x], s) := by
    unfold aO; rw [h0]; dsimp only
    rw [bq (a := [Arg.v x]) (s := s)]
    · rfl
    · unfold aV
      rw [bq ha]; rfl
  unfold rCall
  rw [bq e]
  show callF F [Arg.o 0, Arg.v x] s = _
  unfold callF
  have hg : getA [Arg.o 0, Arg.v x] s = some [S, .d x] := by simp [getA, h0]
  rw [hg]
  simp [owns, hF, putA]
end K23

-- text P14
set_option Elab.async false
set_option linter.all false
set_option maxRecDepth 100000
set_option maxHeartbeats 2000000
namespace K23
open PySem hiding ret plain
open Fz
theorem div1 (a b : Int) (h : 0 < b ∧ b < 1073741824) : dDiv (.int a) (.int b) = some (.int (a / b)) := by
  show (if 0 < b ∧ b < 1073741824 then _ else _) = _
  rw [if_pos h]
/-- a tree is drawn -/
theorem draw_ok (ns : List Int) (ms : List Str) (hm : ∀ m ∈ ms, good m) (h0 : 0 < ms.length) : ∀ (n : Nat) (left room a c : Int), 0 ≤ c → room ≤ n → 1 ≤ n → ∃ a' c' t, 0 ≤ c' ∧ ok t ∧ (dp t : Int) ≤ max 1 room ∧
    F__law_tree n [st a ns c, .d (.lst (ms.map D.str)), .d (.int left), .d (.int room)] = some (.v (.d (dt t)), [st a' ns c', .d (.lst (ms.map D.str)), .d (.int left), .d (.int room)]) := by
  intro n
  induction n with
  | zero => intro left room a c _ _ h; omega
  | succ n ih =>
    intro left room a c hc hr _
    obtain ⟨a1, r1, p1, e1⟩ := nextq a ns c hc
    obtain ⟨j, hj, ej⟩ := mod_at r1 11 p1 (by omega)
    have k1 : sSet 4 (rCall 1 F__law_next [] (aO 0 aNil)) [some (st a ns c), some (.d (.lst (ms.map D.str))), some (.d (.int left)), some (.d (.int room)), none, none, none, none, none] = some (.nx, [some (st a1 ns (c + 1)), some (.d (.lst (ms.map D.str))), some (.d (.int left)), some (.d (.int room)), some (.d (.int r1)), none, none, none, none]) :=
      set_r (r := .d (.int r1)) (s := [some (st a1 ns (c + 1)), some (.d (.lst (ms.map D.str))), some (.d (.int left)), some (.d (.int room)), none, none, none, none, none]) (e1 0 _ rfl)
    have kt : ∃ b : Bool, (b = false → 2 ≤ left ∧ 2 ≤ room) ∧ cOr (eTst (eBin dLt (eVar 2) (Fz.ret (.int 2)))) (cOr (eTst (eBin dLt (eVar 3) (Fz.ret (.int 2)))) (eTst (eBin dEq (eBin dMod (eVar 4) (Fz.ret (.int 11))) (Fz.ret (.int 0))))) [some (st a1 ns (c + 1)), some (.d (.lst (ms.map D.str))), some (.d (.int left)), some (.d (.int room)), some (.d (.int r1)), none, none, none, none] = some (.v b, [some (st a1 ns (c + 1)), some (.d (.lst (ms.map D.str))), some (.d (.int left)), some (.d (.int room)), some (.d (.int r1)), none, none, none, none]) := by
      have t1 : eTst (eBin dLt (eVar 2) (Fz.ret (.int 2))) [some (st a1 ns (c + 1)), some (.d (.lst (ms.map D.str))), some (.d (.int left)), some (.d (.int room)), some (.d (.int r1)), none, none, none, none] = some (.v (decide (left < 2)), _) := tstq (binq (x := .int left) (y := .int 2) rfl rfl rfl)
      have t2 : eTst (eBin dLt (eVar 3) (Fz.ret (.int 2))) [some (st a1 ns (c + 1)), some (.d (.lst (ms.map D.str))), some (.d (.int left)), some (.d (.int room)), some (.d (.int r1)), none, none, none, none] = some (.v (decide (room < 2)), _) := tstq (binq (x := .int room) (y := .int 2) rfl rfl rfl)
      have t3 : eTst (eBin dEq (eBin dMod (eVar 4) (Fz.ret (.int 11))) (Fz.ret (.int 0))) [some (st a1 ns (c + 1)), some (.d (.lst (ms.map D.str))), some (.d (.int left)), some (.d (.int room)), some (.d (.int r1)), none, none, none, none] = some (.v (decide (r1 % 11 = 0)), _) := tstq (binq (x := .int (r1 % 11)) (y := .int 0) (binq (x := .int r1) (y := .int 11) rfl rfl (mod1 _ _ (by decide))) rfl (eq_int _ _))
      by_cases h1 : left < 2
      · rw [decide_eq_true h1] at t1
        exact ⟨true, fun h => (nomatch h), orT t1⟩
      · rw [decide_eq_false h1] at t1
        by_cases h2 : room < 2
        · rw [decide_eq_true h2] at t2
          exact ⟨true, fun h => (nomatch h), (orF t1).trans (orT t2)⟩
        · rw [decide_eq_false h2] at t2
          exact ⟨_, fun _ => ⟨by omega, by omega⟩, (orF t1).trans ((orF t2).trans t3)⟩
    obtain ⟨b, hb, kt⟩ := kt
    cases b with
    | true =>
      obtain ⟨a2, c2, t, q1, q2, q3, q4⟩ := leaf_ok a1 ns (c + 1) (by omega) ms hm h0
      refine ⟨a2, c2, t, q1, q2, by omega, ?_⟩
      refine fn_rt (s := [some (st a2 ns c2), some (.d (.lst (ms.map D.str))), some (.d (.int left)), some (.d (.int room)), some (.d (.int r1)), none, none, none, none]) rfl ?_ rfl
      show b__law_tree (F__law_tree n) [some (st a ns c), some (.d (.lst (ms.map D.str))), some (.d (.int left)), some (.d (.int room)), none, none, none, none, none] = _
      unfold b__law_tree
      refine (sq k1).trans ?_
      exact takeR kt (retq' (callO2 (x := .lst (ms.map D.str)) rfl rfl q4))
    | false =>
      obtain ⟨hl2, hr2⟩ := hb rfl
      have u1 : sSet 5 (rLst (eCons (Fz.ret (.str "not")) (eCons (Fz.ret (.str "not")) (eCons (Fz.ret (.str "next")) (eCons (Fz.ret (.str "before")) (eCons (Fz.ret (.str "early")) (eCons (Fz.ret (.str "soon")) (eCons (Fz.ret (.str "ever")) (eCons (Fz.ret (.str "once")) (eCons (Fz.ret (.str "sofar")) (eCons (Fz.ret (.str "again")) (eCons (Fz.ret (.str "settles")) eNil)))))))))))) [some (st a1 ns (c + 1)), some (.d (.lst (ms.map D.str))), some (.d (.int left)), some (.d (.int room)), some (.d (.int r1)), none, none, none, none] = some (.nx, [some (st a1 ns (c + 1)), some (.d (.lst (ms.map D.str))), some (.d (.int left)), some (.d (.int room)), some (.d (.int r1)), some (.ol (ones11.map fun w => D.str w.s)), none, none, none]) := rfl
      have u2 : sSet 6 (rLst (eCons (Fz.ret (.str "and")) (eCons (Fz.ret (.str "or")) (eCons (Fz.ret (.str "then")) (eCons (Fz.ret (.str "until")) (eCons (Fz.ret (.str "since")) (eCons (Fz.ret (.str "frees")) (eCons (Fz.ret (.str "held")) eNil)))))))) [some (st a1 ns (c + 1)), some (.d (.lst (ms.map D.str))), some (.d (.int left)), some (.d (.int room)), some (.d (.int r1)), some (.ol (ones11.map fun w => D.str w.s)), none, none, none] = some (.nx, [some (st a1 ns (c + 1)), some (.d (.lst (ms.map D.str))), some (.d (.int left)), some (.d (.int room)), some (.d (.int r1)), some (.ol (ones11.map fun w => D.str w.s)), some (.ol (twos7.map fun w => D.str w.s)), none, none]) := rfl
      have v1 : eTst (eBin dEq (eVar 2) (Fz.ret (.int 2))) [some (st a1 ns (c + 1)), some (.d (.lst (ms.map D.str))), some (.d (.int left)), some (.d (.int room)), some (.d (.int r1)), some (.ol (ones11.map fun w => D.str w.s)), some (.ol (twos7.map fun w => D.str w.s)), none, none] = some (.v (decide (left = 2)), [some (st a1 ns (c + 1)), some (.d (.lst (ms.map D.str))), some (.d (.int left)), some (.d (.int room)), some (.d (.int r1)), some (.ol (ones11.map fun w => D.str w.s)), some (.ol (twos7.map fun w => D.str w.s)), none, none]) := tstq (binq (x := .int left) (y := .int 2) rfl rfl (eq_int _ _))
      have v2 : eTst (eBin dLt (eBin dMod (eVar 4) (Fz.ret (.int 5))) (Fz.ret (.int 2))) [some (st a1 ns (c + 1)), some (.d (.lst (ms.map D.str))), some (.d (.int left)), some (.d (.int room)), some (.d (.int r1)), some (.ol (ones11.map fun w => D.str w.s)), some (.ol (twos7.map fun w => D.str w.s)), none, none] = some (.v (decide (r1 % 5 < 2)), [some (st a1 ns (c + 1)), some (.d (.lst (ms.map D.str))), some (.d (.int left)), some (.d (.int room)), some (.d (.int r1)), some (.ol (ones11.map fun w => D.str w.s)), some (.ol (twos7.map fun w => D.str w.s)), none, none]) := tstq (binq (x := .int (r1 % 5)) (y := .int 2) (binq (x := .int r1) (y := .int 5) rfl rfl (mod1 _ _ (by decide))) rfl rfl)
      have kt2 : ∃ b : Bool, (b = false → left ≠ 2) ∧ cOr (eTst (eBin dEq (eVar 2) (Fz.ret (.int 2)))) (eTst (eBin dLt (eBin dMod (eVar 4) (Fz.ret (.int 5))) (Fz.ret (.int 2)))) [some (st a1 ns (c + 1)), some (.d (.lst (ms.map D.str))), some (.d (.int left)), some (.d (.int room)), some (.d (.int r1)), some (.ol (ones11.map fun w => D.str w.s)), some (.ol (twos7.map fun w => D.str w.s)), none, none] = some (.v b, [some (st a1 ns (c + 1)), some (.d (.lst (ms.map D.str))), some (.d (.int left)), some (.d (.int room)), some (.d (.int r1)), some (.ol (ones11.map fun w => D.str w.s)), some (.ol (twos7.map fun w => D.str w.s)), none, none]) := by
        by_cases h1 : left = 2
        · rw [decide_eq_true h1] at v1
          exact ⟨true, fun h => (nomatch h), orT v1⟩
        · rw [decide_eq_false h1] at v1
          exact ⟨_, fun _ => h1, (orF v1).trans v2⟩
      obtain ⟨b2, hb2, kt2⟩ := kt2
      have pd := div_ok r1 55 p1 (by decide)
      cases b2 with
      | true =>
        obtain ⟨i, hi, ei⟩ := mod_at (r1 / 55) 11 pd (by omega)
        obtain ⟨w, hw⟩ := at_ones i hi
        obtain ⟨a2, c2, t, q1, q2, q3, q4⟩ := ih (left - 1) (room - 1) a1 (c + 1) (by omega) (by omega) (by omega)
        refine ⟨a2, c2, .one w t, q1, q2, by simp only [dp]; omega, ?_⟩
        refine fn_rt (s := [some (st a2 ns c2), some (.d (.lst (ms.map D.str))), some (.d (.int left)), some (.d (.int room)), some (.d (.int r1)), some (.d (.lst (ones11.map fun w => D.str w.s))), some (.ol (twos7.map fun w => D.str w.s)), none, none]) rfl ?_ rfl
        show b__law_tree (F__law_tree n) [some (st a ns c), some (.d (.lst (ms.map D.str))), some (.d (.int left)), some (.d (.int room)), none, none, none, none, none] = _
        unfold b__law_tree
        refine (sq k1).trans ?_
        rw [skip kt]
        refine (sq u1).trans ?_
        refine (sq u2).trans ?_
        refine takeR kt2 (retq' (dq (tupq (xs := [.str w.s, dt t]) (consq (binq (x := .lst (ones11.map fun w => D.str w.s)) (y := .int (i : Nat)) (s := [some (st a1 ns (c + 1)), some (.d (.lst (ms.map D.str))), some (.d (.int left)), some (.d (.int room)), some (.d (.int r1)), some (.d (.lst (ones11.map fun w => D.str w.s))), some (.ol (twos7.map fun w => D.str w.s)), none, none]) (s1 := [some (st a1 ns (c + 1)), some (.d (.lst (ms.map D.str))), some (.d (.int left)), some (.d (.int room)), some (.d (.int r1)), some (.d (.lst (ones11.map fun w => D.str w.s))), some (.ol (twos7.map fun w => D.str w.s)), none, none]) rfl (binq (x := .int (r1 / 55)) (y := .int 11) (binq (x := .int r1) (y := .int 55) rfl rfl (div1 _ _ (by decide))) rfl (by rw [mod1 _ _ (by decide)]; exact congrArg (fun z => some (D.int z)) ei)) hw)
          (consq (fzq (v := .d (dt t)) (s := [some (st a2 ns c2), some (.d (.lst (ms.map D.str))), some (.d (.int left)), some (.d (.int room)), some (.d (.int r1)), some (.d (.lst (ones11.map fun w => D.str w.s))), some (.ol (twos7.map fun w => D.str w.s)), none, none]) (callO4 (x := .lst (ms.map D.str)) (y := .int (left - 1)) (z := .int (room - 1)) (s := [some (st a1 ns (c + 1)), some (.d (.lst (ms.map D.str))), some (.d (.int left)), some (.d (.int room)), some (.d (.int r1)), some (.d (.lst (ones11.map fun w => D.str w.s))), some (.ol (twos7.map fun w => D.str w.s)), none, none]) rfl rfl (binq (x := .int left) (y := .int 1) rfl rfl rfl) (binq (x := .int room) (y := .int 1) rfl rfl rfl) q4) rfl) rfl)) (by show 2 ≤ 16777216; decide))))
      | false =>
        have hl3 : left ≠ 2 := hb2 rfl
        obtain ⟨a2, r2, p2, e2⟩ := nextq a1 ns (c + 1) (by omega)
        obtain ⟨i, hi, ei⟩ := mod_at (r1 / 55) 7 pd (by omega)
        obtain ⟨w, hw⟩ := at_twos i hi
        obtain ⟨a3, c3, t, q1, q2, q3, q4⟩ := ih (1 + r2 % (left - 2)) (room - 1) a2 (c + 1 + 1) (by omega) (by omega) (by omega)
        obtain ⟨a4, c4, t', q1', q2', q3', q4'⟩ := ih (left - 1 - (1 + r2 % (left - 2))) (room - 1) a3 c3 q1 (by omega) (by omega)
        refine ⟨a4, c4, .two w t t', q1', ⟨q2, q2'⟩, by simp only [dp]; omega, ?_⟩
        refine fn_rt (s := [some (st a4 ns c4), some (.d (.lst (ms.map D.str))), some (.d (.int left)), some (.d (.int room)), some (.d (.int r1)), some (.ol (ones11.map fun w => D.str w.s)), some (.d (.lst (twos7.map fun w => D.str w.s))), some (.d (.int (1 + r2 % (left - 2)))), some (.d (dt t))]) rfl ?_ rfl
        show b__law_tree (F__law_tree n) [some (st a ns c), some (.d (.lst (ms.map D.str))), some (.d (.int left)), some (.d (.int room)), none, none, none, none, none] = _
        unfold b__law_tree
        refine (sq k1).trans ?_
        rw [skip kt]
        refine (sq u1).trans ?_
        refine (sq u2).trans ?_
        rw [skip kt2]
        have w1 : sSet 7 (rD (eBin dAdd (Fz.ret (.int 1)) (eBin dMod (eFz nf (rCall 1 F__law_next [] (aO 0 aNil))) (eBin dSub (eVar 2) (Fz.ret (.int 2)))))) [some (st a1 ns (c + 1)), some (.d (.lst (ms.map D.str))), some (.d (.int left)), some (.d (.int room)), some (.d (.int r1)), some (.ol (ones11.map fun w => D.str w.s)), some (.ol (twos7.map fun w => D.str w.s)), none, none] = some (.nx, [some (st a2 ns (c + 1 + 1)), some (.d (.lst (ms.map D.str))), some (.d (.int left)), some (.d (.int room)), some (.d (.int r1)), some (.ol (ones11.map fun w => D.str w.s)), some (.ol (twos7.map fun w => D.str w.s)), some (.d (.int (1 + r2 % (left - 2)))), none]) :=
          set_r (r := .d (.int (1 + r2 % (left - 2)))) (s := [some (st a2 ns (c + 1 + 1)), some (.d (.lst (ms.map D.str))), some (.d (.int left)), some (.d (.int room)), some (.d (.int r1)), some (.ol (ones11.map fun w => D.str w.s)), some (.ol (twos7.map fun w => D.str w.s)), none, none]) (dq (binq (x := .int 1) (y := .int (r2 % (left - 2))) rfl (binq (x := .int r2) (y := .int (left - 2)) (s := [some (st a2 ns (c + 1 + 1)), some (.d (.lst (ms.map D.str))), some (.d (.int left)), some (.d (.int room)), some (.d (.int r1)), some (.ol (ones11.map fun w => D.str w.s)), some (.ol (twos7.map fun w => D.str w.s)), none, none]) (fzq (v := .d (.int r2)) (e2 0 _ rfl) rfl) (binq (x := .int left) (y := .int 2) rfl rfl rfl) (mod1 _ _ (by omega))) rfl))
        refine (sq w1).trans ?_
        have w2 : sSet 8 (rCall 4 (F__law_tree n) [] (aO 0 (aV (eVar 1) (aV (eVar 7) (aV (eBin dSub (eVar 3) (Fz.ret (.int 1))) aNil))))) [some (st a2 ns (c + 1 + 1)), some (.d (.lst (ms.map D.str))), some (.d (.int left)), some (.d (.int room)), some (.d (.int r1)), some (.ol (ones11.map fun w => D.str w.s)), some (.ol (twos7.map fun w => D.str w.s)), some (.d (.int (1 + r2 % (left - 2)))), none] = some (.nx, [some (st a3 ns c3), some (.d (.lst (ms.map D.str))), some (.d (.int left)), some (.d (.int room)), some (.d (.int r1)), some (.ol (ones11.map fun w => D.str w.s)), some (.ol (twos7.map fun w => D.str w.s)), some (.d (.int (1 + r2 % (left - 2)))), some (.d (dt t))]) :=
          set_r (r := .d (dt t)) (s := [some (st a3 ns c3), some (.d (.lst (ms.map D.str))), some (.d (.int left)), some (.d (.int room)), some (.d (.int r1)), some (.ol (ones11.map fun w => D.str w.s)), some (.ol (twos7.map fun w => D.str w.s)), some (.d (.int (1 + r2 % (left - 2)))), none]) (callO4 (x := .lst (ms.map D.str)) (y := .int (1 + r2 % (left - 2))) (z := .int (room - 1)) rfl rfl rfl (binq (x := .int room) (y := .int 1) rfl rfl rfl) q4)
        refine (sq w2).trans ?_
        refine retq' (dq (tupq (xs := [.str w.s, dt t, dt t']) (consq (binq (x := .lst (twos7.map fun w => D.str w.s)) (y := .int (i : Nat)) (s := [some (st a3 ns c3), some (.d (.lst (ms.map D.str))), some (.d (.int left)), some (.d (.int room)), some (.d (.int r1)), some (.ol (ones11.map fun w => D.str w.s)), some (.d (.lst (twos7.map fun w => D.str w.s))), some (.d (.int (1 + r2 % (left - 2)))), some (.d (dt t))]) (s1 := [some (st a3 ns c3), some (.d (.lst (ms.map D.str))), some (.d (.int left)), some (.d (.int room)), some (.d (.int r1)), some (.ol (ones11.map fun w => D.str w.s)), some (.d (.lst (twos7.map fun w => D.str w.s))), some (.d (.int (1 + r2 % (left - 2)))), some (.d (dt t))]) rfl (binq (x := .int (r1 / 55)) (y := .int 7) (binq (x := .int r1) (y := .int 55) rfl rfl (div1 _ _ (by decide))) rfl (by rw [mod1 _ _ (by decide)]; exact congrArg (fun z => some (D.int z)) ei)) hw)
          (consq (x := dt t) (s := [some (st a3 ns c3), some (.d (.lst (ms.map D.str))), some (.d (.int left)), some (.d (.int room)), some (.d (.int r1)), some (.ol (ones11.map fun w => D.str w.s)), some (.d (.lst (twos7.map fun w => D.str w.s))), some (.d (.int (1 + r2 % (left - 2)))), some (.d (dt t))]) rfl (consq (fzq (v := .d (dt t')) (s := [some (st a4 ns c4), some (.d (.lst (ms.map D.str))), some (.d (.int left)), some (.d (.int room)), some (.d (.int r1)), some (.ol (ones11.map fun w => D.str w.s)), some (.d (.lst (twos7.map fun w => D.str w.s))), some (.d (.int (1 + r2 % (left - 2)))), some (.d (dt t))]) (callO4 (x := .lst (ms.map D.str)) (y := .int (left - 1 - (1 + r2 % (left - 2)))) (z := .int (room - 1)) (s := [some (st a3 ns c3), some (.d (.lst (ms.map D.str))), some (.d (.int left)), some (.d (.int room)), some (.d (.int r1)), some (.ol (ones11.map fun w => D.str w.s)), some (.d (.lst (twos7.map fun w => D.str w.s))), some (.d (.int (1 + r2 % (left - 2)))), some (.d (dt t))]) rfl rfl (binq (x := .int (left - 1)) (y := .int (1 + r2 % (left - 2))) (binq (x := .int left) (y := .int 1) rfl rfl rfl) rfl rfl) (binq (x := .int room) (y := .int 1) rfl rfl rfl) q4') rfl) rfl))) (by show 3 ≤ 16777216; decide)))
end K23

-- text P16
set_option Elab.async false
set_option linter.all false
set_option maxRecDepth 100000
set_option maxHeartbeats 2000000
namespace K23
open PySem hiding ret plain
open Fz
def opts (t : Tr) : List Tr := [.one .nt t, .one .nt (.one .nt t), .one .so t, .two .th .yes t, .one .ag t, t, .one .sf t, .one .on t, .one .ev t, .one .se t, .one .bf t]
theorem opts_ok (t : Tr) (h : ok t) : ∀ x ∈ opts t, ok x ∧ dp x ≤ dp t + 2 := by
  have := dp_pos t
  intro x hx
  simp only [opts, List.mem_cons, List.not_mem_nil, or_false] at hx
  rcases hx with rfl | rfl | rfl | rfl | rfl | rfl | rfl | rfl | rfl | rfl | rfl <;> exact ⟨by first | exact h | simp [ok, h], by first | omega | (simp only [dp]; omega)⟩
abbrev bodyS (f : Fn) : MS := (sSeq (sIf (eTst (eBin dGe (eVar 1) (Fz.ret (.int 0)))) (sAsg (eFz nf (rCall 3 f [] (aV (eVar 5) (aV (eVar 1) (aV (eVar 2) aNil))))) (gT 2 (gsC (gN 5) (gsC (gN 1) gsN)))) sNext) (sApp' 4 (eVar 5)))
def Spoils (f : Fn) (way : Int) (t : Tr) : Prop := ∀ at_ : Int, ∃ t' a', ok t' ∧ dp t' ≤ dp t + 2 ∧ f [.d (dt t), .d (.int at_), .d (.int way)] = some (.v (.d (.tup [dt t', .int a'])), [.d (dt t), .d (.int at_), .d (.int way)])
theorem app_q (A B C D' : Option R) (acc : List D) (x : D) (hl : acc.length < sizeLine) : sApp' 4 (eVar 5) [A, B, C, D', some (.ol acc), some (.d x)] = some (.nx, [A, B, C, D', some (.ol (acc ++ [x])), some (.d x)]) := by
  unfold sApp' sApp
  show (if true = true then _ else _) = _
  rw [if_pos rfl]
  show (if acc.length < sizeLine then _ else _) = _
  rw [if_pos hl]; rfl
theorem step_s (f : Fn) (way : Int) (A D' : Option R) (t : Tr) (ht : ok t) (h : Spoils f way t) (at_ : Int) (acc : List D) (hl : acc.length < sizeLine) : ∃ t' a', ok t' ∧ dp t' ≤ dp t + 2 ∧
    bodyS f [A, some (.d (.int at_)), some (.d (.int way)), D', some (.ol acc), some (.d (dt t))] = some (.nx, [A, some (.d (.int a')), some (.d (.int way)), D', some (.ol (acc ++ [dt t'])), some (.d (dt t'))]) := by
  have hc : eTst (eBin dGe (eVar 1) (Fz.ret (.int 0))) [A, some (.d (.int at_)), some (.d (.int way)), D', some (.ol acc), some (.d (dt t))] = some (.v (decide (0 ≤ at_)), [A, some (.d (.int at_)), some (.d (.int way)), D', some (.ol acc), some (.d (dt t))]) := tstq (binq (x := .int at_) (y := .int 0) rfl rfl rfl)
  by_cases h0 : 0 ≤ at_
  · rw [decide_eq_true h0] at hc
    obtain ⟨t', a', h1, h2, h3⟩ := h at_
    refine ⟨t', a', h1, h2, ?_⟩
    have e : eFz nf (rCall 3 f [] (aV (eVar 5) (aV (eVar 1) (aV (eVar 2) aNil)))) [A, some (.d (.int at_)), some (.d (.int way)), D', some (.ol acc), some (.d (dt t))] = some (.v (.tup [dt t', .int a']), [A, some (.d (.int at_)), some (.d (.int way)), D', some (.ol acc), some (.d (dt t))]) := fzq (call3q (x := dt t) (y := .int at_) (z := .int way) rfl rfl rfl h3) rfl
    have e2 : sIf (eTst (eBin dGe (eVar 1) (Fz.ret (.int 0)))) (sAsg (eFz nf (rCall 3 f [] (aV (eVar 5) (aV (eVar 1) (aV (eVar 2) aNil))))) (gT 2 (gsC (gN 5) (gsC (gN 1) gsN)))) sNext [A, some (.d (.int at_)), some (.d (.int way)), D', some (.ol acc), some (.d (dt t))] = some (.nx, [A, some (.d (.int a')), some (.d (.int way)), D', some (.ol acc), some (.d (dt t'))]) := by
      rw [ifT hc]
      unfold sAsg
      rw [e]; rfl
    refine (sq e2).trans ?_
    exact app_q _ _ _ _ acc (dt t') hl
  · rw [decide_eq_false h0] at hc
    refine ⟨t, at_, ht, by omega, ?_⟩
    refine (sq (s := [A, some (.d (.int at_)), some (.d (.int way)), D', some (.ol acc), some (.d (dt t))]) ((ifF hc).trans rfl)).trans ?_
    exact app_q _ _ _ _ acc (dt t) hl
theorem zero_s (f : Fn) (t : Tr) (h : ok t) (way : Int) (hw : 0 ≤ way) : ∃ t', ok t' ∧ dp t' ≤ dp t + 2 ∧ ∃ s, b__law_spoilt f [some (.d (dt t)), some (.d (.int 0)), some (.d (.int way)), none, none, none] = some (.rt (.d (.tup [dt t', .int (-1)])), [some (.d (dt t)), some (.d (.int 0)), some (.d (.int way)), s, none, none]) := by
  obtain ⟨j, hj, ej⟩ := mod_at way 11 hw (by omega)
  have hlen : (opts t).length = 11 := rfl
  have hat : dIx (.lst ((opts t).map dt)) (.int (j : Nat)) = some (dt ((opts t)[j]'(by rw [hlen]; exact hj))) := by
    show L2.atI ((opts t).map dt) (j : Int) = _
    have : (j : Int) < 11 := by omega
    simp [L2.atI, L2.ixN, this, hlen, hj]
  obtain ⟨o1, o2⟩ := opts_ok t h _ (List.getElem_mem (l := opts t) (n := j) (by rw [hlen]; exact hj))
  refine ⟨_, o1, o2, some (.d (.lst ((opts t).map dt))), ?_⟩
  unfold b__law_spoilt
  refine takeR (s := [some (.d (dt t)), some (.d (.int 0)), some (.d (.int way)), none, none, none]) (tstq (binq (x := .int 0) (y := .int 0) rfl rfl (by rw [eq_int]; rfl))) ?_
  refine (sq (s := [some (.d (dt t)), some (.d (.int 0)), some (.d (.int way)), some (.ol (((opts t).take 6).map dt)), none, none]) rfl).trans ?_
  refine (sq (s := [some (.d (dt t)), some (.d (.int 0)), some (.d (.int way)), some (.ol ((opts t).map dt)), none, none]) rfl).trans ?_
  refine retq' (dq (tupq (consq (s := [some (.d (dt t)), some (.d (.int 0)), some (.d (.int way)), some (.d (.lst ((opts t).map dt))), none, none]) (binq (x := .lst ((opts t).map dt)) (y := .int (j : Nat)) rfl (binq (x := .int way) (y := .int 11) rfl rfl (by rw [mod1 _ _ (by decide)]; exact congrArg (fun z => some (D.int z)) ej)) hat) rfl) (by show 2 ≤ 16777216; decide)))
theorem pre_s (f : Fn) (A : D) (at_ way : Int) (h0 : at_ ≠ 0) (x : MS) (o : Option (Fl × Sl)) (h : x [some (.d A), some (.d (.int (at_ - 1))), some (.d (.int way)), none, none, none] = o) (y : MS) :
    sSeq (sIf (eTst (eBin dEq (eVar 1) (Fz.ret (.int 0)))) y sNext) (sSeq (sSet 1 (rD (eBin dSub (eVar 1) (Fz.ret (.int 1))))) x) [some (.d A), some (.d (.int at_)), some (.d (.int way)), none, none, none] = o := by
  rw [skip (s := [some (.d A), some (.d (.int at_)), some (.d (.int way)), none, none, none]) (tstq (binq (x := .int at_) (y := .int 0) rfl rfl (by rw [eq_int, decide_eq_false h0])))]
  refine (sq (set_r (r := .d (.int (at_ - 1))) (s := [some (.d A), some (.d (.int at_)), some (.d (.int way)), none, none, none]) (dq (binq (x := .int at_) (y := .int 1) rfl rfl rfl)))).trans ?_
  exact h
theorem spoilt_ok (way : Int) (hw : 0 ≤ way) : ∀ t, ok t → ∀ n, dp t ≤ n → Spoils (F__law_spoilt n) way t := by
  intro t
  induction t with
  | yes =>
    intro h n hn at_
    cases n with
    | zero => simp [dp] at hn
    | succ n =>
      by_cases h0 : at_ = 0
      · subst h0
        obtain ⟨t', o1, o2, s, e⟩ := zero_s (F__law_spoilt n) .yes h way hw
        exact ⟨t', -1, o1, o2, fn_rt rfl e rfl⟩
      · exact ⟨.yes, at_ - 1, h, by omega, fn_rt (s := [some (.d (dt .yes)), some (.d (.int (at_ - 1))), some (.d (.int way)), none, some (.d (.lst [])), none]) rfl (pre_s (F__law_spoilt n) _ _ _ h0 _ _ (by rfl) _) rfl⟩
  | no =>
    intro h n hn at_
    cases n with
    | zero => simp [dp] at hn
    | succ n =>
      by_cases h0 : at_ = 0
      · subst h0
        obtain ⟨t', o1, o2, s, e⟩ := zero_s (F__law_spoilt n) .no h way hw
        exact ⟨t', -1, o1, o2, fn_rt rfl e rfl⟩
      · exact ⟨.no, at_ - 1, h, by omega, fn_rt (s := [some (.d (dt .no)), some (.d (.int (at_ - 1))), some (.d (.int way)), none, some (.d (.lst [])), none]) rfl (pre_s (F__law_spoilt n) _ _ _ h0 _ _ (by rfl) _) rfl⟩
  | now m =>
    intro h n hn at_
    cases n with
    | zero => simp [dp] at hn
    | succ n =>
      by_cases h0 : at_ = 0
      · subst h0
        obtain ⟨t', o1, o2, s, e⟩ := zero_s (F__law_spoilt n) (.now m) h way hw
        exact ⟨t', -1, o1, o2, fn_rt rfl e rfl⟩
      · exact ⟨.now m, at_ - 1, h, by omega, fn_rt (s := [some (.d (dt (.now m))), some (.d (.int (at_ - 1))), some (.d (.int way)), none, none, none]) rfl (pre_s (F__law_spoilt n) _ _ _ h0 _ _ (by rfl) _) rfl⟩
  | one w t ih =>
    intro h n hn at_
    cases n with
    | zero => simp [dp] at hn
    | succ n =>
      by_cases h0 : at_ = 0
      · subst h0
        obtain ⟨t', o1, o2, s, e⟩ := zero_s (F__law_spoilt n) (.one w t) h way hw
        exact ⟨t', -1, o1, o2, fn_rt rfl e rfl⟩
      · have e := ih h n (by simp only [dp] at hn; omega)
        obtain ⟨t', a', q1, q2, q3⟩ := step_s (F__law_spoilt n) way (some (.d (.tup [.str w.s, dt t]))) none t h e (at_ - 1) [] (by decide)
        refine ⟨.one w t', a', q1, by simp only [dp]; omega, fn_rt (s := [some (.d (.tup [.str w.s, dt t])), some (.d (.int a')), some (.d (.int way)), none, some (.d (.lst [dt t'])), some (.d (dt t'))]) rfl (pre_s (F__law_spoilt n) _ _ _ h0 _ _ ?_ _) rfl⟩
        show sSeq _ _ [some (.d (.tup [.str w.s, dt t])), some (.d (.int (at_ - 1))), some (.d (.int way)), none, none, none] = _
        rw [skip (by rw [hd_eq, w1_now])]
        refine (sq (s := [some (.d (.tup [.str w.s, dt t])), some (.d (.int (at_ - 1))), some (.d (.int way)), none, some (.ol []), none]) rfl).trans ?_
        have hf : sFor (iTupl (eSl (eVar 0) (oSome (Fz.ret (.int 1))) oNone)) (gN 5) (bodyS (F__law_spoilt n)) [some (.d (.tup [.str w.s, dt t])), some (.d (.int (at_ - 1))), some (.d (.int way)), none, some (.ol []), none] = some (.nx, [some (.d (.tup [.str w.s, dt t])), some (.d (.int a')), some (.d (.int way)), none, some (.ol [dt t']), some (.d (dt t'))]) := by
          unfold sFor
          rw [tupI (xs := [dt t]) (s := [some (.d (.tup [.str w.s, dt t])), some (.d (.int (at_ - 1))), some (.d (.int way)), none, some (.ol []), none]) rfl]
          show forL _ _ _ _ = _
          rw [forL_nx (s1 := [some (.d (.tup [.str w.s, dt t])), some (.d (.int (at_ - 1))), some (.d (.int way)), none, some (.ol []), some (.d (dt t))]) rfl q3]
          rfl
        refine (sq hf).trans ?_
        rfl
  | two w a b iha ihb =>
    intro h n hn at_
    cases n with
    | zero => simp [dp] at hn
    | succ n =>
      by_cases h0 : at_ = 0
      · subst h0
        obtain ⟨t', o1, o2, s, e⟩ := zero_s (F__law_spoilt n) (.two w a b) h way hw
        exact ⟨t', -1, o1, o2, fn_rt rfl e rfl⟩
      · have ea := iha h.1 n (by simp only [dp] at hn; omega)
        have eb := ihb h.2 n (by simp only [dp] at hn; omega)
        obtain ⟨t', a', q1, q2, q3⟩ := step_s (F__law_spoilt n) way (some (.d (.tup [.str w.s, dt a, dt b]))) none a h.1 ea (at_ - 1) [] (by decide)
        obtain ⟨t2, a2, p1, p2, p3⟩ := step_s (F__law_spoilt n) way (some (.d (.tup [.str w.s, dt a, dt b]))) none b h.2 eb a' [dt t'] (by show 1 < 16777216; decide)
        refine ⟨.two w t' t2, a2, ⟨q1, p1⟩, by simp only [dp]; omega, fn_rt (s := [some (.d (.tup [.str w.s, dt a, dt b])), some (.d (.int a2)), some (.d (.int way)), none, some (.d (.lst [dt t', dt t2])), some (.d (dt t2))]) rfl (pre_s (F__law_spoilt n) _ _ _ h0 _ _ ?_ _) rfl⟩
        show sSeq _ _ [some (.d (.tup [.str w.s, dt a, dt b])), some (.d (.int (at_ - 1))), some (.d (.int way)), none, none, none] = _
        rw [skip (by rw [hd_eq, w2_now])]
        refine (sq (s := [some (.d (.tup [.str w.s, dt a, dt b])), some (.d (.int (at_ - 1))), some (.d (.int way)), none, some (.ol []), none]) rfl).trans ?_
        have hf : sFor (iTupl (eSl (eVar 0) (oSome (Fz.ret (.int 1))) oNone)) (gN 5) (bodyS (F__law_spoilt n)) [some (.d (.tup [.str w.s, dt a, dt b])), some (.d (.int (at_ - 1))), some (.d (.int way)), none, some (.ol []), none] = some (.nx, [some (.d (.tup [.str w.s, dt a, dt b])), some (.d (.int a2)), some (.d (.int way)), none, some (.ol [dt t', dt t2]), some (.d (dt t2))]) := by
          unfold sFor
          rw [tupI (xs := [dt a, dt b]) (s := [some (.d (.tup [.str w.s, dt a, dt b])), some (.d (.int (at_ - 1))), some (.d (.int way)), none, some (.ol []), none]) rfl]
          show forL _ _ _ _ = _
          rw [forL_nx (s1 := [some (.d (.tup [.str w.s, dt a, dt b])), some (.d (.int (at_ - 1))), some (.d (.int way)), none, some (.ol []), some (.d (dt a))]) rfl q3]
          rw [forL_nx (s1 := [some (.d (.tup [.str w.s, dt a, dt b])), some (.d (.int a')), some (.d (.int way)), none, some (.ol ([] ++ [dt t'])), some (.d (dt b))]) rfl p3]
          rfl
        refine (sq hf).trans ?_
        rfl
end K23

-- text T3
set_option Elab.async false
set_option linter.all false
set_option maxRecDepth 100000
set_option maxHeartbeats 2000000
namespace K23
open PySem hiding ret plain
open Fz hiding tb
def cell (ns : List Int) (c : Nat) : Int := ns.getD (c % ns.length) 0
def nxA (a : Int) (ns : List Int) (c : Nat) : Int := (a * 48271 + cell ns c + (c + 1)) % 2147483647
def nxR (a : Int) (ns : List Int) (c : Nat) : Int := (nxA a ns c * nxA a ns c + 16807 * nxA a ns c) % 2147483629
theorem nxR_pos (a : Int) (ns : List Int) (c : Nat) : 0 ≤ nxR a ns c := Int.emod_nonneg _ (by decide)
theorem next_eq (a : Int) (ns : List Int) (c : Nat) : F__law_next [st a ns c] = some (.v (.d (.int (nxR a ns c))), [st (nxA a ns c) ns ((c + 1 : Nat) : Int)]) := by
  refine wf_eq ?_
  have m1 : ∀ a : Int, CMulB a 48271 = True := fun a => eq_true (.inr (by decide))
  have m2 : ∀ a : Int, CMulB 16807 a = True := fun a => eq_true (.inl (by decide))
  have m3 : ∀ a : Int, CMulB (a % 2147483647) (a % 2147483647) = True := fun a => eq_true (.inl (by omega))
  unfold F__law_next st
  simp only [↓n_ret, ↓n_opt, ↓n_eUn, ↓n_eBin, ↓n_eCons, ↓n_eNil, ↓n_eOp, ↓n_eTup, ↓n_rD, ↓n_rOp, ↓n_rLst, ↓n_eFz, ↓n_eVar, ↓n_eFull, ↓n_tFull, ↓n_rFull, ↓n_eTst, ↓n_eNot, ↓n_cAnd, ↓n_cOr, ↓n_cNot, ↓n_cYes, ↓n_eAnd, ↓n_eOr, ↓n_eChain, ↓n_eIf, ↓n_rIf, ↓n_oNone, ↓n_oSome, ↓n_eSl, ↓n_rSlL', ↓n_eMt, ↓n_rMt, ↓n_rBin, ↓n_rMv, ↓n_iLst, ↓n_iTupl, ↓n_iSeq, ↓n_iText, ↓n_iR1, ↓n_iR2, ↓n_iEn, ↓n_aNil, ↓n_aV, ↓n_aO, ↓n_callF, ↓n_rCall, ↓n_rMeth, ↓n_rMakeN, ↓n_fnOf, ↓n_sNext, ↓n_sBrk, ↓n_sCt, ↓n_sRetN, ↓n_sSeq, ↓n_sSet, ↓n_sAsg, ↓n_sIf, ↓n_sRet, ↓n_sDrop, ↓n_sFor, ↓n_sApp', ↓n_sExtA, ↓n_sSub, ↓n_eFld, ↓n_rLc, wc_t, wd_t, wd_f, kU_a, wo_some, wo_none, wo_ifn, wpe_eq, wse_eq, kr_a, krl_a, ku_a, kUn_v, kUn_x, kBin2_v, kBin2_x, kBin1_v, kBin1_x, kCons2_v, kCons2_x, kCons1_v, kCons1_x, kOp_v, kOp_x, kTup_v, kTup_x, kD_v, kD_x, kROp_v, kROp_x, kLst_v, kLst_x, kFz_v, kFz_x, kFull_v, kFull_x, kTFull_v, kTFull_x, n_rfx_ol, n_rfx_d, rfx_x, kTst_v, kTst_x, krn_a, kNot_v, kNot_x, wAnd_t, wAnd_f, kAnd_v, kAnd_x, wOr_t, wOr_f, kOr_v, kOr_x, kCNot_v, kCNot_x, wEAnd_t, wEAnd_f, kEAnd_v, kEAnd_x, wEOr_t, wEOr_f, kEOr_v, kEOr_x, tb_n, wChain_t, wChain_f, kCh3_a, kCh2_v, kCh2_x, kCh1_v, kCh1_x, wEIf_t, wEIf_f, kEIf_v, kEIf_x, wRIf_t, wRIf_f, kRIf_v, kRIf_x, kso_a, kSome_v, kSome_x, kSl3_v, kSl3_x, kSl2_v, kSl2_x, kSl1_v, kSl1_x, kcut_a, kRSl3_v, kRSl3_x, kRSl2_v, kRSl2_x, kRSl1_v, kRSl1_x, kMt2_v, kMt2_x, kMtu_a, kMt1_v, kMt1_x, kRMt2_v, kRMt2_x, kRMtu_a, kRMt1_v, kRMt1_x, kRBin2_v, kRBin2_x, kRBin1_v, kRBin1_x, kILst_v, kILst_x, kITup_v, kITup_x, kISeq_v, kISeq_x, ktx_a, kIText_v, kIText_x, kIL_v, kIL_x, kAV2_v, kAV2_x, kAV1_v, kAV1_x, kAO_v, kAO_x, isq_s, kAOu_a, kEnd2_a, kEnd_a, kCallU_a, kCall_a, kRcu_a, kRc_v, kRc_x, kMcu_a, kMc_v, kMc_x, kMf_a, kMo_a, kMeth_v, kFnU_a, ko_a, n_oend_rt, n_oend_nx, n_oend_x, kSeq_nx, kSeq_bk, kSeq_ct, kSeq_rt, kSeq_x, kSet_v, kSet_x, knx_a, kAsg_v, kAsg_x, wIf_t, wIf_f, kIf_v, kIf_x, kRet_v, kRet_x, kDrop_v, kDrop_x, kFor_v, kFor_x, kSt_a, kApp2_a, kApp_v, kApp_x, kAppU_a, kExt3_a, kExt2_a, kExt_v, kExt_x, kExtU_a, kSub5_a, kSub4_a, kSub3_a, kSub2_v, kSub2_x, kSubU_a, kSub1_v, kSub1_x, fld_o, e_tys, kLc_v, kLcU_a, kLcB_a, W_len, W_app, sgn_W, own_no, own_d, List.all_cons, List.all_nil, List.getD_cons_succ, List.getD_cons_zero, wipeS, backS, vr_d, vr_ol, vr_od, gt_0, gt_s, stt_0, stt_s, vwN_nil, vwN_d, vwN_ol, vwN_od, vwN_no, vwN_oi, ti_int, tl_l, tt_t, tq_t, tq_l, tx_s, mv_s, to_o, gA, pA, outs_nil, outs_cons, outs1_s, isD_d, gol_s, isL_ol, isL_d, gN_eq, gT_eq, gsN_eq, gsC_eq, some_bind', dR1_i, dR2_i, dEn_i, owns, vw_d, vw_ol, vw_oi, vw_od, wh_d, wh_ol, wh_od, wh_oi, imm, imms, decide_true, decide_false, Bool.not_true, Bool.not_false, if_true, if_false, List.length_cons, List.length_nil, List.map_cons, List.map_nil, List.append_nil, List.nil_append, List.cons_append, List.replicate, Option.map_some, beq_self_eq_true, Bool.true_or, Bool.or_true, Bool.false_or, Bool.or_false, Bool.false_and, Bool.and_false, Bool.true_and, Bool.and_true, reduceCtorEq, e_sub, e_mod, e_div, e_mul, e_addi, e_adds, e_addt, e_eqi, e_eqs, e_eqb, e_nei, e_nes, e_neb, e_lti, e_gti, e_lei, e_gei, e_lenl, e_lent, e_lens, e_isib, e_inw, e_ninw, e_inwt, e_ninwt, e_intb, e_ixn, e_ixtn, e_ix0, e_ix1, e_ix2, e_ix3, e_ixt0, e_ixt1, e_ixt2, e_ixt3, e_ixs, e_ixs0, szl, List.getElem?_cons_zero, List.getElem?_cons_succ, e_tupl, e_tupt, e_listl, e_listt, nodup0, nodup1, List.length_set, List.length_append, List.length_map, List.set_cons_zero, List.set_cons_succ, Nat.add_zero, Nat.zero_add, lp_nx, lp_rt, lp_bk, lp_ct, lp_x, ↓reduceIte, Nat.reduceAdd, Nat.reduceSub, Nat.reduceLeDiff, Nat.reduceLT, Nat.reduceMul, Nat.reduceDiv, Nat.reduceMod, Int.reduceMul, Int.reduceToNat, Int.reduceMod, Int.reduceDiv, Int.reduceOfNat, Int.reduceBEq, Nat.reduceEqDiff, Nat.reduceBEq, Int.reduceLT, Int.reduceLE, Int.reduceEq, Int.reduceNeg, Int.reduceAdd, Int.reduceSub, decide_eq_true_eq, ite_true, ite_false, and_self, or_self, and_true, true_and, Bool.or_self, Bool.and_self, ixn0, ixn1, ixn2, ixn3, Bool.or_eq_true, or_true, true_or, or_false, false_or, b__law_next]
  refine wd_of (fun h => ?_) (fun h => ?_)
  · have h := of_decide_eq_true h
    have hx : dIx (.lst (ns.map D.int)) (.int ((c : Int) % (ns.length : Int))) = some (.int (cell ns c)) := by
      rw [← Int.natCast_emod, e_ixn]
      have : c % ns.length < ns.length := Nat.mod_lt _ (by omega)
      simp [cell, this]
    simp only [↓n_ret, ↓n_opt, ↓n_eUn, ↓n_eBin, ↓n_eCons, ↓n_eNil, ↓n_eOp, ↓n_eTup, ↓n_rD, ↓n_rOp, ↓n_rLst, ↓n_eFz, ↓n_eVar, ↓n_eFull, ↓n_tFull, ↓n_rFull, ↓n_eTst, ↓n_eNot, ↓n_cAnd, ↓n_cOr, ↓n_cNot, ↓n_cYes, ↓n_eAnd, ↓n_eOr, ↓n_eChain, ↓n_eIf, ↓n_rIf, ↓n_oNone, ↓n_oSome, ↓n_eSl, ↓n_rSlL', ↓n_eMt, ↓n_rMt, ↓n_rBin, ↓n_rMv, ↓n_iLst, ↓n_iTupl, ↓n_iSeq, ↓n_iText, ↓n_iR1, ↓n_iR2, ↓n_iEn, ↓n_aNil, ↓n_aV, ↓n_aO, ↓n_callF, ↓n_rCall, ↓n_rMeth, ↓n_rMakeN, ↓n_fnOf, ↓n_sNext, ↓n_sBrk, ↓n_sCt, ↓n_sRetN, ↓n_sSeq, ↓n_sSet, ↓n_sAsg, ↓n_sIf, ↓n_sRet, ↓n_sDrop, ↓n_sFor, ↓n_sApp', ↓n_sExtA, ↓n_sSub, ↓n_eFld, ↓n_rLc, wc_t, wd_t, wd_f, kU_a, wo_some, wo_none, wo_ifn, wpe_eq, wse_eq, kr_a, krl_a, ku_a, kUn_v, kUn_x, kBin2_v, kBin2_x, kBin1_v, kBin1_x, kCons2_v, kCons2_x, kCons1_v, kCons1_x, kOp_v, kOp_x, kTup_v, kTup_x, kD_v, kD_x, kROp_v, kROp_x, kLst_v, kLst_x, kFz_v, kFz_x, kFull_v, kFull_x, kTFull_v, kTFull_x, n_rfx_ol, n_rfx_d, rfx_x, kTst_v, kTst_x, krn_a, kNot_v, kNot_x, wAnd_t, wAnd_f, kAnd_v, kAnd_x, wOr_t, wOr_f, kOr_v, kOr_x, kCNot_v, kCNot_x, wEAnd_t, wEAnd_f, kEAnd_v, kEAnd_x, wEOr_t, wEOr_f, kEOr_v, kEOr_x, tb_n, wChain_t, wChain_f, kCh3_a, kCh2_v, kCh2_x, kCh1_v, kCh1_x, wEIf_t, wEIf_f, kEIf_v, kEIf_x, wRIf_t, wRIf_f, kRIf_v, kRIf_x, kso_a, kSome_v, kSome_x, kSl3_v, kSl3_x, kSl2_v, kSl2_x, kSl1_v, kSl1_x, kcut_a, kRSl3_v, kRSl3_x, kRSl2_v, kRSl2_x, kRSl1_v, kRSl1_x, kMt2_v, kMt2_x, kMtu_a, kMt1_v, kMt1_x, kRMt2_v, kRMt2_x, kRMtu_a, kRMt1_v, kRMt1_x, kRBin2_v, kRBin2_x, kRBin1_v, kRBin1_x, kILst_v, kILst_x, kITup_v, kITup_x, kISeq_v, kISeq_x, ktx_a, kIText_v, kIText_x, kIL_v, kIL_x, kAV2_v, kAV2_x, kAV1_v, kAV1_x, kAO_v, kAO_x, isq_s, kAOu_a, kEnd2_a, kEnd_a, kCallU_a, kCall_a, kRcu_a, kRc_v, kRc_x, kMcu_a, kMc_v, kMc_x, kMf_a, kMo_a, kMeth_v, kFnU_a, ko_a, n_oend_rt, n_oend_nx, n_oend_x, kSeq_nx, kSeq_bk, kSeq_ct, kSeq_rt, kSeq_x, kSet_v, kSet_x, knx_a, kAsg_v, kAsg_x, wIf_t, wIf_f, kIf_v, kIf_x, kRet_v, kRet_x, kDrop_v, kDrop_x, kFor_v, kFor_x, kSt_a, kApp2_a, kApp_v, kApp_x, kAppU_a, kExt3_a, kExt2_a, kExt_v, kExt_x, kExtU_a, kSub5_a, kSub4_a, kSub3_a, kSub2_v, kSub2_x, kSubU_a, kSub1_v, kSub1_x, fld_o, e_tys, kLc_v, kLcU_a, kLcB_a, W_len, W_app, sgn_W, own_no, own_d, List.all_cons, List.all_nil, List.getD_cons_succ, List.getD_cons_zero, wipeS, backS, vr_d, vr_ol, vr_od, gt_0, gt_s, stt_0, stt_s, vwN_nil, vwN_d, vwN_ol, vwN_od, vwN_no, vwN_oi, ti_int, tl_l, tt_t, tq_t, tq_l, tx_s, mv_s, to_o, gA, pA, outs_nil, outs_cons, outs1_s, isD_d, gol_s, isL_ol, isL_d, gN_eq, gT_eq, gsN_eq, gsC_eq, some_bind', dR1_i, dR2_i, dEn_i, owns, vw_d, vw_ol, vw_oi, vw_od, wh_d, wh_ol, wh_od, wh_oi, imm, imms, decide_true, decide_false, Bool.not_true, Bool.not_false, if_true, if_false, List.length_cons, List.length_nil, List.map_cons, List.map_nil, List.append_nil, List.nil_append, List.cons_append, List.replicate, Option.map_some, beq_self_eq_true, Bool.true_or, Bool.or_true, Bool.false_or, Bool.or_false, Bool.false_and, Bool.and_false, Bool.true_and, Bool.and_true, reduceCtorEq, e_sub, e_mod, e_div, e_mul, e_addi, e_adds, e_addt, e_eqi, e_eqs, e_eqb, e_nei, e_nes, e_neb, e_lti, e_gti, e_lei, e_gei, e_lenl, e_lent, e_lens, e_isib, e_inw, e_ninw, e_inwt, e_ninwt, e_intb, e_ixn, e_ixtn, e_ix0, e_ix1, e_ix2, e_ix3, e_ixt0, e_ixt1, e_ixt2, e_ixt3, e_ixs, e_ixs0, szl, List.getElem?_cons_zero, List.getElem?_cons_succ, e_tupl, e_tupt, e_listl, e_listt, nodup0, nodup1, List.length_set, List.length_append, List.length_map, List.set_cons_zero, List.set_cons_succ, Nat.add_zero, Nat.zero_add, lp_nx, lp_rt, lp_bk, lp_ct, lp_x, ↓reduceIte, Nat.reduceAdd, Nat.reduceSub, Nat.reduceLeDiff, Nat.reduceLT, Nat.reduceMul, Nat.reduceDiv, Nat.reduceMod, Int.reduceMul, Int.reduceToNat, Int.reduceMod, Int.reduceDiv, Int.reduceOfNat, Int.reduceBEq, Nat.reduceEqDiff, Nat.reduceBEq, Int.reduceLT, Int.reduceLE, Int.reduceEq, Int.reduceNeg, Int.reduceAdd, Int.reduceSub, decide_eq_true_eq, ite_true, ite_false, and_self, or_self, and_true, true_and, Bool.or_self, Bool.and_self, ixn0, ixn1, ixn2, ixn3, Bool.or_eq_true, or_true, true_or, or_false, false_or, h, hx, m1, m2, m3]
    exact ⟨rfl, rfl⟩
  · have h := of_decide_eq_false h
    have h0 : ns = [] := List.eq_nil_of_length_eq_zero (by omega)
    have hx : cell ns c = 0 := by rw [h0]; rfl
    simp only [↓n_ret, ↓n_opt, ↓n_eUn, ↓n_eBin, ↓n_eCons, ↓n_eNil, ↓n_eOp, ↓n_eTup, ↓n_rD, ↓n_rOp, ↓n_rLst, ↓n_eFz, ↓n_eVar, ↓n_eFull, ↓n_tFull, ↓n_rFull, ↓n_eTst, ↓n_eNot, ↓n_cAnd, ↓n_cOr, ↓n_cNot, ↓n_cYes, ↓n_eAnd, ↓n_eOr, ↓n_eChain, ↓n_eIf, ↓n_rIf, ↓n_oNone, ↓n_oSome, ↓n_eSl, ↓n_rSlL', ↓n_eMt, ↓n_rMt, ↓n_rBin, ↓n_rMv, ↓n_iLst, ↓n_iTupl, ↓n_iSeq, ↓n_iText, ↓n_iR1, ↓n_iR2, ↓n_iEn, ↓n_aNil, ↓n_aV, ↓n_aO, ↓n_callF, ↓n_rCall, ↓n_rMeth, ↓n_rMakeN, ↓n_fnOf, ↓n_sNext, ↓n_sBrk, ↓n_sCt, ↓n_sRetN, ↓n_sSeq, ↓n_sSet, ↓n_sAsg, ↓n_sIf, ↓n_sRet, ↓n_sDrop, ↓n_sFor, ↓n_sApp', ↓n_sExtA, ↓n_sSub, ↓n_eFld, ↓n_rLc, wc_t, wd_t, wd_f, kU_a, wo_some, wo_none, wo_ifn, wpe_eq, wse_eq, kr_a, krl_a, ku_a, kUn_v, kUn_x, kBin2_v, kBin2_x, kBin1_v, kBin1_x, kCons2_v, kCons2_x, kCons1_v, kCons1_x, kOp_v, kOp_x, kTup_v, kTup_x, kD_v, kD_x, kROp_v, kROp_x, kLst_v, kLst_x, kFz_v, kFz_x, kFull_v, kFull_x, kTFull_v, kTFull_x, n_rfx_ol, n_rfx_d, rfx_x, kTst_v, kTst_x, krn_a, kNot_v, kNot_x, wAnd_t, wAnd_f, kAnd_v, kAnd_x, wOr_t, wOr_f, kOr_v, kOr_x, kCNot_v, kCNot_x, wEAnd_t, wEAnd_f, kEAnd_v, kEAnd_x, wEOr_t, wEOr_f, kEOr_v, kEOr_x, tb_n, wChain_t, wChain_f, kCh3_a, kCh2_v, kCh2_x, kCh1_v, kCh1_x, wEIf_t, wEIf_f, kEIf_v, kEIf_x, wRIf_t, wRIf_f, kRIf_v, kRIf_x, kso_a, kSome_v, kSome_x, kSl3_v, kSl3_x, kSl2_v, kSl2_x, kSl1_v, kSl1_x, kcut_a, kRSl3_v, kRSl3_x, kRSl2_v, kRSl2_x, kRSl1_v, kRSl1_x, kMt2_v, kMt2_x, kMtu_a, kMt1_v, kMt1_x, kRMt2_v, kRMt2_x, kRMtu_a, kRMt1_v, kRMt1_x, kRBin2_v, kRBin2_x, kRBin1_v, kRBin1_x, kILst_v, kILst_x, kITup_v, kITup_x, kISeq_v, kISeq_x, ktx_a, kIText_v, kIText_x, kIL_v, kIL_x, kAV2_v, kAV2_x, kAV1_v, kAV1_x, kAO_v, kAO_x, isq_s, kAOu_a, kEnd2_a, kEnd_a, kCallU_a, kCall_a, kRcu_a, kRc_v, kRc_x, kMcu_a, kMc_v, kMc_x, kMf_a, kMo_a, kMeth_v, kFnU_a, ko_a, n_oend_rt, n_oend_nx, n_oend_x, kSeq_nx, kSeq_bk, kSeq_ct, kSeq_rt, kSeq_x, kSet_v, kSet_x, knx_a, kAsg_v, kAsg_x, wIf_t, wIf_f, kIf_v, kIf_x, kRet_v, kRet_x, kDrop_v, kDrop_x, kFor_v, kFor_x, kSt_a, kApp2_a, kApp_v, kApp_x, kAppU_a, kExt3_a, kExt2_a, kExt_v, kExt_x, kExtU_a, kSub5_a, kSub4_a, kSub3_a, kSub2_v, kSub2_x, kSubU_a, kSub1_v, kSub1_x, fld_o, e_tys, kLc_v, kLcU_a, kLcB_a, W_len, W_app, sgn_W, own_no, own_d, List.all_cons, List.all_nil, List.getD_cons_succ, List.getD_cons_zero, wipeS, backS, vr_d, vr_ol, vr_od, gt_0, gt_s, stt_0, stt_s, vwN_nil, vwN_d, vwN_ol, vwN_od, vwN_no, vwN_oi, ti_int, tl_l, tt_t, tq_t, tq_l, tx_s, mv_s, to_o, gA, pA, outs_nil, outs_cons, outs1_s, isD_d, gol_s, isL_ol, isL_d, gN_eq, gT_eq, gsN_eq, gsC_eq, some_bind', dR1_i, dR2_i, dEn_i, owns, vw_d, vw_ol, vw_oi, vw_od, wh_d, wh_ol, wh_od, wh_oi, imm, imms, decide_true, decide_false, Bool.not_true, Bool.not_false, if_true, if_false, List.length_cons, List.length_nil, List.map_cons, List.map_nil, List.append_nil, List.nil_append, List.cons_append, List.replicate, Option.map_some, beq_self_eq_true, Bool.true_or, Bool.or_true, Bool.false_or, Bool.or_false, Bool.false_and, Bool.and_false, Bool.true_and, Bool.and_true, reduceCtorEq, e_sub, e_mod, e_div, e_mul, e_addi, e_adds, e_addt, e_eqi, e_eqs, e_eqb, e_nei, e_nes, e_neb, e_lti, e_gti, e_lei, e_gei, e_lenl, e_lent, e_lens, e_isib, e_inw, e_ninw, e_inwt, e_ninwt, e_intb, e_ixn, e_ixtn, e_ix0, e_ix1, e_ix2, e_ix3, e_ixt0, e_ixt1, e_ixt2, e_ixt3, e_ixs, e_ixs0, szl, List.getElem?_cons_zero, List.getElem?_cons_succ, e_tupl, e_tupt, e_listl, e_listt, nodup0, nodup1, List.length_set, List.length_append, List.length_map, List.set_cons_zero, List.set_cons_succ, Nat.add_zero, Nat.zero_add, lp_nx, lp_rt, lp_bk, lp_ct, lp_x, ↓reduceIte, Nat.reduceAdd, Nat.reduceSub, Nat.reduceLeDiff, Nat.reduceLT, Nat.reduceMul, Nat.reduceDiv, Nat.reduceMod, Int.reduceMul, Int.reduceToNat, Int.reduceMod, Int.reduceDiv, Int.reduceOfNat, Int.reduceBEq, Nat.reduceEqDiff, Nat.reduceBEq, Int.reduceLT, Int.reduceLE, Int.reduceEq, Int.reduceNeg, Int.reduceAdd, Int.reduceSub, decide_eq_true_eq, ite_true, ite_false, and_self, or_self, and_true, true_and, Bool.or_self, Bool.and_self, ixn0, ixn1, ixn2, ixn3, Bool.or_eq_true, or_true, true_or, or_false, false_or, m1, m2, m3]
    rw [← hx]
    exact ⟨rfl, rfl⟩
theorem e_next {a : Int} {ns : List Int} {c : Nat} {Q : Oc R → List R → Prop} : wf F__law_next [st a ns c] Q = Q (.v (.d (.int (nxR a ns c)))) [st (nxA a ns c) ns ((c + 1 : Nat) : Int)] := wf_of (next_eq a ns c)
end K23

-- text T3b
set_option Elab.async false
set_option linter.all false
set_option maxRecDepth 100000
set_option maxHeartbeats 2000000
namespace K23
open PySem hiding ret plain
open Fz hiding tb
def sg : List Nat := sml ++ fig
theorem az_W : ("abcdefghijklmnopqrstuvwxyz" : Str) = W sml := by decide +kernel
theorem fg_W : ("0123456789" : Str) = W fig := by decide +kernel
def kwl : List (List Nat) := kw.map fun s => s.cps.toList
def mkOf (w : Str) : Str := if w ∈ kw then w ++ ("0" : Str) else w
theorem markof_ok (w : Str) (h : w.length ≤ 100) : F__law_mark_of [.d (.str w)] = some (.v (.d (.str (mkOf w))), [.d (.str w)]) := by
  refine wf_eq ?_
  unfold F__law_mark_of
  have hin : dIn (.str w) (.lst [D.str "yes", D.str "no", D.str "not", D.str "and", D.str "or", D.str "then", D.str "until", D.str "since", D.str "frees", D.str "held", D.str "next", D.str "before", D.str "early", D.str "soon", D.str "ever", D.str "once", D.str "sofar", D.str "again", D.str "settles"]) = some (.bl (decide (w ∈ kw))) := e_inw (ws := kw)
  simp only [↓n_ret, ↓n_opt, ↓n_eUn, ↓n_eBin, ↓n_eCons, ↓n_eNil, ↓n_eOp, ↓n_eTup, ↓n_rD, ↓n_rOp, ↓n_rLst, ↓n_eFz, ↓n_eVar, ↓n_eFull, ↓n_tFull, ↓n_rFull, ↓n_eTst, ↓n_eNot, ↓n_cAnd, ↓n_cOr, ↓n_cNot, ↓n_cYes, ↓n_eAnd, ↓n_eOr, ↓n_eChain, ↓n_eIf, ↓n_rIf, ↓n_oNone, ↓n_oSome, ↓n_eSl, ↓n_rSlL', ↓n_eMt, ↓n_rMt, ↓n_rBin, ↓n_rMv, ↓n_iLst, ↓n_iTupl, ↓n_iSeq, ↓n_iText, ↓n_iR1, ↓n_iR2, ↓n_iEn, ↓n_aNil, ↓n_aV, ↓n_aO, ↓n_callF, ↓n_rCall, ↓n_rMeth, ↓n_rMakeN, ↓n_fnOf, ↓n_sNext, ↓n_sBrk, ↓n_sCt, ↓n_sRetN, ↓n_sSeq, ↓n_sSet, ↓n_sAsg, ↓n_sIf, ↓n_sRet, ↓n_sDrop, ↓n_sFor, ↓n_sApp', ↓n_sExtA, ↓n_sSub, ↓n_eFld, ↓n_rLc, wc_t, wd_t, wd_f, kU_a, wo_some, wo_none, wo_ifn, wpe_eq, wse_eq, kr_a, krl_a, ku_a, kUn_v, kUn_x, kBin2_v, kBin2_x, kBin1_v, kBin1_x, kCons2_v, kCons2_x, kCons1_v, kCons1_x, kOp_v, kOp_x, kTup_v, kTup_x, kD_v, kD_x, kROp_v, kROp_x, kLst_v, kLst_x, kFz_v, kFz_x, kFull_v, kFull_x, kTFull_v, kTFull_x, n_rfx_ol, n_rfx_d, rfx_x, kTst_v, kTst_x, krn_a, kNot_v, kNot_x, wAnd_t, wAnd_f, kAnd_v, kAnd_x, wOr_t, wOr_f, kOr_v, kOr_x, kCNot_v, kCNot_x, wEAnd_t, wEAnd_f, kEAnd_v, kEAnd_x, wEOr_t, wEOr_f, kEOr_v, kEOr_x, tb_n, wChain_t, wChain_f, kCh3_a, kCh2_v, kCh2_x, kCh1_v, kCh1_x, wEIf_t, wEIf_f, kEIf_v, kEIf_x, wRIf_t, wRIf_f, kRIf_v, kRIf_x, kso_a, kSome_v, kSome_x, kSl3_v, kSl3_x, kSl2_v, kSl2_x, kSl1_v, kSl1_x, kcut_a, kRSl3_v, kRSl3_x, kRSl2_v, kRSl2_x, kRSl1_v, kRSl1_x, kMt2_v, kMt2_x, kMtu_a, kMt1_v, kMt1_x, kRMt2_v, kRMt2_x, kRMtu_a, kRMt1_v, kRMt1_x, kRBin2_v, kRBin2_x, kRBin1_v, kRBin1_x, kILst_v, kILst_x, kITup_v, kITup_x, kISeq_v, kISeq_x, ktx_a, kIText_v, kIText_x, kIL_v, kIL_x, kAV2_v, kAV2_x, kAV1_v, kAV1_x, kAO_v, kAO_x, isq_s, kAOu_a, kEnd2_a, kEnd_a, kCallU_a, kCall_a, kRcu_a, kRc_v, kRc_x, kMcu_a, kMc_v, kMc_x, kMf_a, kMo_a, kMeth_v, kFnU_a, ko_a, n_oend_rt, n_oend_nx, n_oend_x, kSeq_nx, kSeq_bk, kSeq_ct, kSeq_rt, kSeq_x, kSet_v, kSet_x, knx_a, kAsg_v, kAsg_x, wIf_t, wIf_f, kIf_v, kIf_x, kRet_v, kRet_x, kDrop_v, kDrop_x, kFor_v, kFor_x, kSt_a, kApp2_a, kApp_v, kApp_x, kAppU_a, kExt3_a, kExt2_a, kExt_v, kExt_x, kExtU_a, kSub5_a, kSub4_a, kSub3_a, kSub2_v, kSub2_x, kSubU_a, kSub1_v, kSub1_x, fld_o, e_tys, kLc_v, kLcU_a, kLcB_a, W_len, W_app, sgn_W, own_no, own_d, List.all_cons, List.all_nil, List.getD_cons_succ, List.getD_cons_zero, wipeS, backS, vr_d, vr_ol, vr_od, gt_0, gt_s, stt_0, stt_s, vwN_nil, vwN_d, vwN_ol, vwN_od, vwN_no, vwN_oi, ti_int, tl_l, tt_t, tq_t, tq_l, tx_s, mv_s, to_o, gA, pA, outs_nil, outs_cons, outs1_s, isD_d, gol_s, isL_ol, isL_d, gN_eq, gT_eq, gsN_eq, gsC_eq, some_bind', dR1_i, dR2_i, dEn_i, owns, vw_d, vw_ol, vw_oi, vw_od, wh_d, wh_ol, wh_od, wh_oi, imm, imms, decide_true, decide_false, Bool.not_true, Bool.not_false, if_true, if_false, List.length_cons, List.length_nil, List.map_cons, List.map_nil, List.append_nil, List.nil_append, List.cons_append, List.replicate, Option.map_some, beq_self_eq_true, Bool.true_or, Bool.or_true, Bool.false_or, Bool.or_false, Bool.false_and, Bool.and_false, Bool.true_and, Bool.and_true, reduceCtorEq, e_sub, e_mod, e_div, e_mul, e_addi, e_adds, e_addt, e_eqi, e_eqs, e_eqb, e_nei, e_nes, e_neb, e_lti, e_gti, e_lei, e_gei, e_lenl, e_lent, e_lens, e_isib, e_inw, e_ninw, e_inwt, e_ninwt, e_intb, e_ixn, e_ixtn, e_ix0, e_ix1, e_ix2, e_ix3, e_ixt0, e_ixt1, e_ixt2, e_ixt3, e_ixs, e_ixs0, szl, List.getElem?_cons_zero, List.getElem?_cons_succ, e_tupl, e_tupt, e_listl, e_listt, nodup0, nodup1, List.length_set, List.length_append, List.length_map, List.set_cons_zero, List.set_cons_succ, Nat.add_zero, Nat.zero_add, lp_nx, lp_rt, lp_bk, lp_ct, lp_x, ↓reduceIte, Nat.reduceAdd, Nat.reduceSub, Nat.reduceLeDiff, Nat.reduceLT, Nat.reduceMul, Nat.reduceDiv, Nat.reduceMod, Int.reduceMul, Int.reduceToNat, Int.reduceMod, Int.reduceDiv, Int.reduceOfNat, Int.reduceBEq, Nat.reduceEqDiff, Nat.reduceBEq, Int.reduceLT, Int.reduceLE, Int.reduceEq, Int.reduceNeg, Int.reduceAdd, Int.reduceSub, decide_eq_true_eq, ite_true, ite_false, and_self, or_self, and_true, true_and, Bool.or_self, Bool.and_self, ixn0, ixn1, ixn2, ixn3, Bool.or_eq_true, or_true, true_or, or_false, false_or, b__law_mark_of, gCat, hin]
  refine wd_of (fun h2 => ?_) (fun h2 => ?_)
  · have h2 := of_decide_eq_true h2
    have hz : w.length + (Str.ofString "0").length ≤ 16777216 := by
      have : (Str.ofString "0").length = 1 := by decide +kernel
      omega
    simp only [↓n_ret, ↓n_opt, ↓n_eUn, ↓n_eBin, ↓n_eCons, ↓n_eNil, ↓n_eOp, ↓n_eTup, ↓n_rD, ↓n_rOp, ↓n_rLst, ↓n_eFz, ↓n_eVar, ↓n_eFull, ↓n_tFull, ↓n_rFull, ↓n_eTst, ↓n_eNot, ↓n_cAnd, ↓n_cOr, ↓n_cNot, ↓n_cYes, ↓n_eAnd, ↓n_eOr, ↓n_eChain, ↓n_eIf, ↓n_rIf, ↓n_oNone, ↓n_oSome, ↓n_eSl, ↓n_rSlL', ↓n_eMt, ↓n_rMt, ↓n_rBin, ↓n_rMv, ↓n_iLst, ↓n_iTupl, ↓n_iSeq, ↓n_iText, ↓n_iR1, ↓n_iR2, ↓n_iEn, ↓n_aNil, ↓n_aV, ↓n_aO, ↓n_callF, ↓n_rCall, ↓n_rMeth, ↓n_rMakeN, ↓n_fnOf, ↓n_sNext, ↓n_sBrk, ↓n_sCt, ↓n_sRetN, ↓n_sSeq, ↓n_sSet, ↓n_sAsg, ↓n_sIf, ↓n_sRet, ↓n_sDrop, ↓n_sFor, ↓n_sApp', ↓n_sExtA, ↓n_sSub, ↓n_eFld, ↓n_rLc, wc_t, wd_t, wd_f, kU_a, wo_some, wo_none, wo_ifn, wpe_eq, wse_eq, kr_a, krl_a, ku_a, kUn_v, kUn_x, kBin2_v, kBin2_x, kBin1_v, kBin1_x, kCons2_v, kCons2_x, kCons1_v, kCons1_x, kOp_v, kOp_x, kTup_v, kTup_x, kD_v, kD_x, kROp_v, kROp_x, kLst_v, kLst_x, kFz_v, kFz_x, kFull_v, kFull_x, kTFull_v, kTFull_x, n_rfx_ol, n_rfx_d, rfx_x, kTst_v, kTst_x, krn_a, kNot_v, kNot_x, wAnd_t, wAnd_f, kAnd_v, kAnd_x, wOr_t, wOr_f, kOr_v, kOr_x, kCNot_v, kCNot_x, wEAnd_t, wEAnd_f, kEAnd_v, kEAnd_x, wEOr_t, wEOr_f, kEOr_v, kEOr_x, tb_n, wChain_t, wChain_f, kCh3_a, kCh2_v, kCh2_x, kCh1_v, kCh1_x, wEIf_t, wEIf_f, kEIf_v, kEIf_x, wRIf_t, wRIf_f, kRIf_v, kRIf_x, kso_a, kSome_v, kSome_x, kSl3_v, kSl3_x, kSl2_v, kSl2_x, kSl1_v, kSl1_x, kcut_a, kRSl3_v, kRSl3_x, kRSl2_v, kRSl2_x, kRSl1_v, kRSl1_x, kMt2_v, kMt2_x, kMtu_a, kMt1_v, kMt1_x, kRMt2_v, kRMt2_x, kRMtu_a, kRMt1_v, kRMt1_x, kRBin2_v, kRBin2_x, kRBin1_v, kRBin1_x, kILst_v, kILst_x, kITup_v, kITup_x, kISeq_v, kISeq_x, ktx_a, kIText_v, kIText_x, kIL_v, kIL_x, kAV2_v, kAV2_x, kAV1_v, kAV1_x, kAO_v, kAO_x, isq_s, kAOu_a, kEnd2_a, kEnd_a, kCallU_a, kCall_a, kRcu_a, kRc_v, kRc_x, kMcu_a, kMc_v, kMc_x, kMf_a, kMo_a, kMeth_v, kFnU_a, ko_a, n_oend_rt, n_oend_nx, n_oend_x, kSeq_nx, kSeq_bk, kSeq_ct, kSeq_rt, kSeq_x, kSet_v, kSet_x, knx_a, kAsg_v, kAsg_x, wIf_t, wIf_f, kIf_v, kIf_x, kRet_v, kRet_x, kDrop_v, kDrop_x, kFor_v, kFor_x, kSt_a, kApp2_a, kApp_v, kApp_x, kAppU_a, kExt3_a, kExt2_a, kExt_v, kExt_x, kExtU_a, kSub5_a, kSub4_a, kSub3_a, kSub2_v, kSub2_x, kSubU_a, kSub1_v, kSub1_x, fld_o, e_tys, kLc_v, kLcU_a, kLcB_a, W_len, W_app, sgn_W, own_no, own_d, List.all_cons, List.all_nil, List.getD_cons_succ, List.getD_cons_zero, wipeS, backS, vr_d, vr_ol, vr_od, gt_0, gt_s, stt_0, stt_s, vwN_nil, vwN_d, vwN_ol, vwN_od, vwN_no, vwN_oi, ti_int, tl_l, tt_t, tq_t, tq_l, tx_s, mv_s, to_o, gA, pA, outs_nil, outs_cons, outs1_s, isD_d, gol_s, isL_ol, isL_d, gN_eq, gT_eq, gsN_eq, gsC_eq, some_bind', dR1_i, dR2_i, dEn_i, owns, vw_d, vw_ol, vw_oi, vw_od, wh_d, wh_ol, wh_od, wh_oi, imm, imms, decide_true, decide_false, Bool.not_true, Bool.not_false, if_true, if_false, List.length_cons, List.length_nil, List.map_cons, List.map_nil, List.append_nil, List.nil_append, List.cons_append, List.replicate, Option.map_some, beq_self_eq_true, Bool.true_or, Bool.or_true, Bool.false_or, Bool.or_false, Bool.false_and, Bool.and_false, Bool.true_and, Bool.and_true, reduceCtorEq, e_sub, e_mod, e_div, e_mul, e_addi, e_adds, e_addt, e_eqi, e_eqs, e_eqb, e_nei, e_nes, e_neb, e_lti, e_gti, e_lei, e_gei, e_lenl, e_lent, e_lens, e_isib, e_inw, e_ninw, e_inwt, e_ninwt, e_intb, e_ixn, e_ixtn, e_ix0, e_ix1, e_ix2, e_ix3, e_ixt0, e_ixt1, e_ixt2, e_ixt3, e_ixs, e_ixs0, szl, List.getElem?_cons_zero, List.getElem?_cons_succ, e_tupl, e_tupt, e_listl, e_listt, nodup0, nodup1, List.length_set, List.length_append, List.length_map, List.set_cons_zero, List.set_cons_succ, Nat.add_zero, Nat.zero_add, lp_nx, lp_rt, lp_bk, lp_ct, lp_x, ↓reduceIte, Nat.reduceAdd, Nat.reduceSub, Nat.reduceLeDiff, Nat.reduceLT, Nat.reduceMul, Nat.reduceDiv, Nat.reduceMod, Int.reduceMul, Int.reduceToNat, Int.reduceMod, Int.reduceDiv, Int.reduceOfNat, Int.reduceBEq, Nat.reduceEqDiff, Nat.reduceBEq, Int.reduceLT, Int.reduceLE, Int.reduceEq, Int.reduceNeg, Int.reduceAdd, Int.reduceSub, decide_eq_true_eq, ite_true, ite_false, and_self, or_self, and_true, true_and, Bool.or_self, Bool.and_self, ixn0, ixn1, ixn2, ixn3, Bool.or_eq_true, or_true, true_or, or_false, false_or, hz]
    unfold mkOf
    rw [if_pos h2]
  · have h2 := of_decide_eq_false h2
    simp only [↓n_ret, ↓n_opt, ↓n_eUn, ↓n_eBin, ↓n_eCons, ↓n_eNil, ↓n_eOp, ↓n_eTup, ↓n_rD, ↓n_rOp, ↓n_rLst, ↓n_eFz, ↓n_eVar, ↓n_eFull, ↓n_tFull, ↓n_rFull, ↓n_eTst, ↓n_eNot, ↓n_cAnd, ↓n_cOr, ↓n_cNot, ↓n_cYes, ↓n_eAnd, ↓n_eOr, ↓n_eChain, ↓n_eIf, ↓n_rIf, ↓n_oNone, ↓n_oSome, ↓n_eSl, ↓n_rSlL', ↓n_eMt, ↓n_rMt, ↓n_rBin, ↓n_rMv, ↓n_iLst, ↓n_iTupl, ↓n_iSeq, ↓n_iText, ↓n_iR1, ↓n_iR2, ↓n_iEn, ↓n_aNil, ↓n_aV, ↓n_aO, ↓n_callF, ↓n_rCall, ↓n_rMeth, ↓n_rMakeN, ↓n_fnOf, ↓n_sNext, ↓n_sBrk, ↓n_sCt, ↓n_sRetN, ↓n_sSeq, ↓n_sSet, ↓n_sAsg, ↓n_sIf, ↓n_sRet, ↓n_sDrop, ↓n_sFor, ↓n_sApp', ↓n_sExtA, ↓n_sSub, ↓n_eFld, ↓n_rLc, wc_t, wd_t, wd_f, kU_a, wo_some, wo_none, wo_ifn, wpe_eq, wse_eq, kr_a, krl_a, ku_a, kUn_v, kUn_x, kBin2_v, kBin2_x, kBin1_v, kBin1_x, kCons2_v, kCons2_x, kCons1_v, kCons1_x, kOp_v, kOp_x, kTup_v, kTup_x, kD_v, kD_x, kROp_v, kROp_x, kLst_v, kLst_x, kFz_v, kFz_x, kFull_v, kFull_x, kTFull_v, kTFull_x, n_rfx_ol, n_rfx_d, rfx_x, kTst_v, kTst_x, krn_a, kNot_v, kNot_x, wAnd_t, wAnd_f, kAnd_v, kAnd_x, wOr_t, wOr_f, kOr_v, kOr_x, kCNot_v, kCNot_x, wEAnd_t, wEAnd_f, kEAnd_v, kEAnd_x, wEOr_t, wEOr_f, kEOr_v, kEOr_x, tb_n, wChain_t, wChain_f, kCh3_a, kCh2_v, kCh2_x, kCh1_v, kCh1_x, wEIf_t, wEIf_f, kEIf_v, kEIf_x, wRIf_t, wRIf_f, kRIf_v, kRIf_x, kso_a, kSome_v, kSome_x, kSl3_v, kSl3_x, kSl2_v, kSl2_x, kSl1_v, kSl1_x, kcut_a, kRSl3_v, kRSl3_x, kRSl2_v, kRSl2_x, kRSl1_v, kRSl1_x, kMt2_v, kMt2_x, kMtu_a, kMt1_v, kMt1_x, kRMt2_v, kRMt2_x, kRMtu_a, kRMt1_v, kRMt1_x, kRBin2_v, kRBin2_x, kRBin1_v, kRBin1_x, kILst_v, kILst_x, kITup_v, kITup_x, kISeq_v, kISeq_x, ktx_a, kIText_v, kIText_x, kIL_v, kIL_x, kAV2_v, kAV2_x, kAV1_v, kAV1_x, kAO_v, kAO_x, isq_s, kAOu_a, kEnd2_a, kEnd_a, kCallU_a, kCall_a, kRcu_a, kRc_v, kRc_x, kMcu_a, kMc_v, kMc_x, kMf_a, kMo_a, kMeth_v, kFnU_a, ko_a, n_oend_rt, n_oend_nx, n_oend_x, kSeq_nx, kSeq_bk, kSeq_ct, kSeq_rt, kSeq_x, kSet_v, kSet_x, knx_a, kAsg_v, kAsg_x, wIf_t, wIf_f, kIf_v, kIf_x, kRet_v, kRet_x, kDrop_v, kDrop_x, kFor_v, kFor_x, kSt_a, kApp2_a, kApp_v, kApp_x, kAppU_a, kExt3_a, kExt2_a, kExt_v, kExt_x, kExtU_a, kSub5_a, kSub4_a, kSub3_a, kSub2_v, kSub2_x, kSubU_a, kSub1_v, kSub1_x, fld_o, e_tys, kLc_v, kLcU_a, kLcB_a, W_len, W_app, sgn_W, own_no, own_d, List.all_cons, List.all_nil, List.getD_cons_succ, List.getD_cons_zero, wipeS, backS, vr_d, vr_ol, vr_od, gt_0, gt_s, stt_0, stt_s, vwN_nil, vwN_d, vwN_ol, vwN_od, vwN_no, vwN_oi, ti_int, tl_l, tt_t, tq_t, tq_l, tx_s, mv_s, to_o, gA, pA, outs_nil, outs_cons, outs1_s, isD_d, gol_s, isL_ol, isL_d, gN_eq, gT_eq, gsN_eq, gsC_eq, some_bind', dR1_i, dR2_i, dEn_i, owns, vw_d, vw_ol, vw_oi, vw_od, wh_d, wh_ol, wh_od, wh_oi, imm, imms, decide_true, decide_false, Bool.not_true, Bool.not_false, if_true, if_false, List.length_cons, List.length_nil, List.map_cons, List.map_nil, List.append_nil, List.nil_append, List.cons_append, List.replicate, Option.map_some, beq_self_eq_true, Bool.true_or, Bool.or_true, Bool.false_or, Bool.or_false, Bool.false_and, Bool.and_false, Bool.true_and, Bool.and_true, reduceCtorEq, e_sub, e_mod, e_div, e_mul, e_addi, e_adds, e_addt, e_eqi, e_eqs, e_eqb, e_nei, e_nes, e_neb, e_lti, e_gti, e_lei, e_gei, e_lenl, e_lent, e_lens, e_isib, e_inw, e_ninw, e_inwt, e_ninwt, e_intb, e_ixn, e_ixtn, e_ix0, e_ix1, e_ix2, e_ix3, e_ixt0, e_ixt1, e_ixt2, e_ixt3, e_ixs, e_ixs0, szl, List.getElem?_cons_zero, List.getElem?_cons_succ, e_tupl, e_tupt, e_listl, e_listt, nodup0, nodup1, List.length_set, List.length_append, List.length_map, List.set_cons_zero, List.set_cons_succ, Nat.add_zero, Nat.zero_add, lp_nx, lp_rt, lp_bk, lp_ct, lp_x, ↓reduceIte, Nat.reduceAdd, Nat.reduceSub, Nat.reduceLeDiff, Nat.reduceLT, Nat.reduceMul, Nat.reduceDiv, Nat.reduceMod, Int.reduceMul, Int.reduceToNat, Int.reduceMod, Int.reduceDiv, Int.reduceOfNat, Int.reduceBEq, Nat.reduceEqDiff, Nat.reduceBEq, Int.reduceLT, Int.reduceLE, Int.reduceEq, Int.reduceNeg, Int.reduceAdd, Int.reduceSub, decide_eq_true_eq, ite_true, ite_false, and_self, or_self, and_true, true_and, Bool.or_self, Bool.and_self, ixn0, ixn1, ixn2, ixn3, Bool.or_eq_true, or_true, true_or, or_false, false_or]
    unfold mkOf
    rw [if_neg h2]
/-- a word's signs -/
def Al (l : List Nat) : Prop := ∃ h t, l = h :: t ∧ h ∈ sml ∧ ∀ x ∈ t, x ∈ sg
theorem Al.len {l : List Nat} (h : Al l) : 0 < l.length := by obtain ⟨a, t, rfl, _⟩ := h; simp
theorem Al.snoc {l : List Nat} (h : Al l) {x : Nat} (hx : x ∈ sg) : Al (l ++ [x]) := by
  obtain ⟨a, t, rfl, h1, h2⟩ := h
  refine ⟨a, t ++ [x], rfl, h1, fun y hy => ?_⟩
  rcases List.mem_append.mp hy with hy | hy
  · exact h2 y hy
  · simp at hy; subst hy; exact hx
theorem sml_sg {x : Nat} (h : x ∈ sml) : x ∈ sg := List.mem_append_left _ h
theorem Al.all {l : List Nat} (h : Al l) : ∀ x ∈ l, x ∈ sg := by
  obtain ⟨a, t, rfl, h1, h2⟩ := h
  intro x hx
  rcases List.mem_cons.mp hx with rfl | hx
  · exact sml_sg h1
  · exact h2 x hx
/-- one place otherwise -/
theorem Al.put {l : List Nat} (h : Al l) {k x : Nat} (hk : k < l.length) (hx : x ∈ sg) (h0 : k = 0 → x ∈ sml) : Al (l.take k ++ x :: l.drop (k + 1)) := by
  obtain ⟨a, t, rfl, h1, h2⟩ := h
  cases k with
  | zero => exact ⟨x, t, rfl, h0 rfl, h2⟩
  | succ k =>
    refine ⟨a, t.take k ++ x :: t.drop (k + 1), rfl, h1, fun y hy => ?_⟩
    rcases List.mem_append.mp hy with hy | hy
    · exact h2 y (List.mem_of_mem_take hy)
    · rcases List.mem_cons.mp hy with rfl | hy
      · exact hx
      · exact h2 y (List.mem_of_mem_drop hy)
theorem mk_of {l : List Nat} (h : Al l) (hl : l.length ≤ 8) : Mk (mkOf (W l)) := by
  have hk : ∀ w ∈ kw, (w ++ ("0" : Str)).length ≤ 8 ∧ (w ++ ("0" : Str)) ∉ kw := by decide +kernel
  obtain ⟨a, t, rfl, h1, h2⟩ := h
  unfold mkOf
  split
  · rename_i hw
    obtain ⟨g1, g2⟩ := hk _ hw
    have e0 : ("0" : Str) = W [48] := by decide +kernel
    rw [e0] at g1 g2 ⊢
    rw [W_app] at g1 g2 ⊢
    refine ⟨⟨a, t ++ [48], by rw [W_list]; rfl, h1⟩, fun c hc => ?_, g1, g2⟩
    rw [W_list] at hc
    have : c ∈ sg := by
      rcases List.mem_append.mp hc with hc | hc
      · rcases List.mem_cons.mp hc with rfl | hc
        · exact sml_sg h1
        · exact h2 c hc
      · simp at hc; subst hc; decide +kernel
    exact List.mem_append.mp this
  · rename_i hw
    refine ⟨⟨a, t, by rw [W_list], h1⟩, fun c hc => ?_, by rw [W_len]; exact hl, hw⟩
    rw [W_list] at hc
    have : c ∈ sg := by
      rcases List.mem_cons.mp hc with rfl | hc
      · exact sml_sg h1
      · exact h2 c hc
    exact List.mem_append.mp this
theorem index_sml : ∀ c ∈ sml, ∃ i : Nat, dSIndex (.str (W sml)) [.str (W [c])] = some (.int (i : Nat)) := by
  have : ∀ c ∈ sml, (match Builtin.Str.occurrences (W sml) (W [c]) 0 (W sml).length 1 with | _ :: _ => true | [] => false) = true := by decide +kernel
  intro c hc
  have h := this c hc
  cases e : Builtin.Str.occurrences (W sml) (W [c]) 0 (W sml).length 1 with
  | nil => rw [e] at h; cases h
  | cons i r => exact ⟨i, by simp only [dSIndex, e]⟩
theorem index_sg : ∀ c ∈ sg, ∃ i : Nat, dSIndex (.str (W sg)) [.str (W [c])] = some (.int (i : Nat)) := by
  have : ∀ c ∈ sg, (match Builtin.Str.occurrences (W sg) (W [c]) 0 (W sg).length 1 with | _ :: _ => true | [] => false) = true := by decide +kernel
  intro c hc
  have h := this c hc
  cases e : Builtin.Str.occurrences (W sg) (W [c]) 0 (W sg).length 1 with
  | nil => rw [e] at h; cases h
  | cons i r => exact ⟨i, by simp only [dSIndex, e]⟩
theorem at_sml (r : Int) : dIx (.str (W sml)) (.int (r % 26)) = some (.str (W [sml.getD (r % 26).toNat 0])) := e_ixsm (by decide) (by decide) (by decide)
theorem at_sg (r : Int) : dIx (.str (W sg)) (.int (r % 36)) = some (.str (W [sg.getD (r % 36).toNat 0])) := e_ixsm (by decide) (by decide) (by decide)
theorem in_sml (r : Int) : sml.getD (r % 26).toNat 0 ∈ sml := getD_mem (by have := (mod_natC (r := r) (k := 26) (by decide)).2; exact this)
theorem in_sg (r : Int) : sg.getD (r % 36).toNat 0 ∈ sg := getD_mem (by have := (mod_natC (r := r) (k := 36) (by decide)).2; exact this)
theorem size_q (r q : Int) : ∃ sz : Int, 1 ≤ sz ∧ sz ≤ 7 ∧ dIx (.lst [.int 1, .int 2, .int (1 + r % 7)]) (.int (q % 3)) = some (.int sz) := by
  have h := e_ixlm (xs := [.int 1, .int 2, .int (1 + r % 7)]) (r := q) (k := 3) (by decide) (by simp)
  have h2 := (mod_natC (r := q) (k := 3) (by decide)).2
  have h3 : (q % 3).toNat = 0 ∨ (q % 3).toNat = 1 ∨ (q % 3).toNat = 2 := by omega
  rw [h]
  rcases h3 with e | e | e <;> rw [e]
  · exact ⟨1, by decide, by decide, rfl⟩
  · exact ⟨2, by decide, by decide, rfl⟩
  · exact ⟨1 + r % 7, by omega, by omega, rfl⟩
theorem word_q (q : Int) : ∃ l : List Nat, Al l ∧ l.length ≤ 7 ∧ dIx (.lst [.str "no", .str "yes", .str "until", .str "next"]) (.int (q % 4)) = some (.str (W l)) := by
  have h := e_ixlm (xs := [.str "no", .str "yes", .str "until", .str "next"]) (r := q) (k := 4) (by decide) (by simp)
  have h2 := (mod_natC (r := q) (k := 4) (by decide)).2
  have h3 : (q % 4).toNat = 0 ∨ (q % 4).toNat = 1 ∨ (q % 4).toNat = 2 ∨ (q % 4).toNat = 3 := by omega
  have k : ∀ s ∈ (["no", "yes", "until", "next"] : List Str), ∃ l : List Nat, Al l ∧ l.length ≤ 7 ∧ some (D.str s) = some (.str (W l)) := fun s hs => by
    have hd : ∀ s ∈ (["no", "yes", "until", "next"] : List Str), s.cps.toList.length ≤ 7 ∧ s.cps.toList.head? ≠ none ∧ (∀ c ∈ s.cps.toList.head?, c ∈ sml) ∧ ∀ c ∈ s.cps.toList, c ∈ sg := by decide +kernel
    obtain ⟨d1, d2, d3, d4⟩ := hd s hs
    refine ⟨s.cps.toList, ?_, d1, by rw [← W_of s]⟩
    cases hl : s.cps.toList with
    | nil => rw [hl] at d2; exact absurd rfl d2
    | cons a t => rw [hl] at d3 d4; exact ⟨a, t, rfl, d3 a rfl, fun x hx => d4 x (.tail _ hx)⟩
  rw [h]
  rcases h3 with e | e | e | e <;> rw [e]
  · exact k "no" (by decide +kernel)
  · exact k "yes" (by decide +kernel)
  · exact k "until" (by decide +kernel)
  · exact k "next" (by decide +kernel)
theorem marks_ok (a : Int) (ns : List Int) (c : Nat) : wf F__law_marks [st a ns c] fun o rs => ∃ a' m1 m2 m3, ∃ c' : Nat, Mk m1 ∧ Mk m2 ∧ Mk m3 ∧ o = .v (.ol [.str m1, .str m2, .str m3]) ∧ rs = [st a' ns (c' : Int)] := by
  unfold F__law_marks
  have hsg : sml ++ fig = sg := rfl
  have l1 : sml.length = 26 := rfl
  have l2 : fig.length = 10 := rfl
  have l3 : sg.length = 36 := rfl
  simp only [↓n_ret, ↓n_opt, ↓n_eUn, ↓n_eBin, ↓n_eCons, ↓n_eNil, ↓n_eOp, ↓n_eTup, ↓n_rD, ↓n_rOp, ↓n_rLst, ↓n_eFz, ↓n_eVar, ↓n_eFull, ↓n_tFull, ↓n_rFull, ↓n_eTst, ↓n_eNot, ↓n_cAnd, ↓n_cOr, ↓n_cNot, ↓n_cYes, ↓n_eAnd, ↓n_eOr, ↓n_eChain, ↓n_eIf, ↓n_rIf, ↓n_oNone, ↓n_oSome, ↓n_eSl, ↓n_rSlL', ↓n_eMt, ↓n_rMt, ↓n_rBin, ↓n_rMv, ↓n_iLst, ↓n_iTupl, ↓n_iSeq, ↓n_iText, ↓n_iR1, ↓n_iR2, ↓n_iEn, ↓n_aNil, ↓n_aV, ↓n_aO, ↓n_callF, ↓n_rCall, ↓n_rMeth, ↓n_rMakeN, ↓n_fnOf, ↓n_sNext, ↓n_sBrk, ↓n_sCt, ↓n_sRetN, ↓n_sSeq, ↓n_sSet, ↓n_sAsg, ↓n_sIf, ↓n_sRet, ↓n_sDrop, ↓n_sFor, ↓n_sApp', ↓n_sExtA, ↓n_sSub, ↓n_eFld, ↓n_rLc, wc_t, wd_t, wd_f, kU_a, wo_some, wo_none, wo_ifn, wpe_eq, wse_eq, kr_a, krl_a, ku_a, kUn_v, kUn_x, kBin2_v, kBin2_x, kBin1_v, kBin1_x, kCons2_v, kCons2_x, kCons1_v, kCons1_x, kOp_v, kOp_x, kTup_v, kTup_x, kD_v, kD_x, kROp_v, kROp_x, kLst_v, kLst_x, kFz_v, kFz_x, kFull_v, kFull_x, kTFull_v, kTFull_x, n_rfx_ol, n_rfx_d, rfx_x, kTst_v, kTst_x, krn_a, kNot_v, kNot_x, wAnd_t, wAnd_f, kAnd_v, kAnd_x, wOr_t, wOr_f, kOr_v, kOr_x, kCNot_v, kCNot_x, wEAnd_t, wEAnd_f, kEAnd_v, kEAnd_x, wEOr_t, wEOr_f, kEOr_v, kEOr_x, tb_n, wChain_t, wChain_f, kCh3_a, kCh2_v, kCh2_x, kCh1_v, kCh1_x, wEIf_t, wEIf_f, kEIf_v, kEIf_x, wRIf_t, wRIf_f, kRIf_v, kRIf_x, kso_a, kSome_v, kSome_x, kSl3_v, kSl3_x, kSl2_v, kSl2_x, kSl1_v, kSl1_x, kcut_a, kRSl3_v, kRSl3_x, kRSl2_v, kRSl2_x, kRSl1_v, kRSl1_x, kMt2_v, kMt2_x, kMtu_a, kMt1_v, kMt1_x, kRMt2_v, kRMt2_x, kRMtu_a, kRMt1_v, kRMt1_x, kRBin2_v, kRBin2_x, kRBin1_v, kRBin1_x, kILst_v, kILst_x, kITup_v, kITup_x, kISeq_v, kISeq_x, ktx_a, kIText_v, kIText_x, kIL_v, kIL_x, kAV2_v, kAV2_x, kAV1_v, kAV1_x, kAO_v, kAO_x, isq_s, kAOu_a, kEnd2_a, kEnd_a, kCallU_a, kCall_a, kRcu_a, kRc_v, kRc_x, kMcu_a, kMc_v, kMc_x, kMf_a, kMo_a, kMeth_v, kFnU_a, ko_a, n_oend_rt, n_oend_nx, n_oend_x, kSeq_nx, kSeq_bk, kSeq_ct, kSeq_rt, kSeq_x, kSet_v, kSet_x, knx_a, kAsg_v, kAsg_x, wIf_t, wIf_f, kIf_v, kIf_x, kRet_v, kRet_x, kDrop_v, kDrop_x, kFor_v, kFor_x, kSt_a, kApp2_a, kApp_v, kApp_x, kAppU_a, kExt3_a, kExt2_a, kExt_v, kExt_x, kExtU_a, kSub5_a, kSub4_a, kSub3_a, kSub2_v, kSub2_x, kSubU_a, kSub1_v, kSub1_x, fld_o, e_tys, kLc_v, kLcU_a, kLcB_a, W_len, W_app, sgn_W, own_no, own_d, List.all_cons, List.all_nil, List.getD_cons_succ, List.getD_cons_zero, wipeS, backS, vr_d, vr_ol, vr_od, gt_0, gt_s, stt_0, stt_s, vwN_nil, vwN_d, vwN_ol, vwN_od, vwN_no, vwN_oi, ti_int, tl_l, tt_t, tq_t, tq_l, tx_s, mv_s, to_o, gA, pA, outs_nil, outs_cons, outs1_s, isD_d, gol_s, isL_ol, isL_d, gN_eq, gT_eq, gsN_eq, gsC_eq, some_bind', dR1_i, dR2_i, dEn_i, owns, vw_d, vw_ol, vw_oi, vw_od, wh_d, wh_ol, wh_od, wh_oi, imm, imms, decide_true, decide_false, Bool.not_true, Bool.not_false, if_true, if_false, List.length_cons, List.length_nil, List.map_cons, List.map_nil, List.append_nil, List.nil_append, List.cons_append, List.replicate, Option.map_some, beq_self_eq_true, Bool.true_or, Bool.or_true, Bool.false_or, Bool.or_false, Bool.false_and, Bool.and_false, Bool.true_and, Bool.and_true, reduceCtorEq, e_sub, e_mod, e_div, e_mul, e_addi, e_adds, e_addt, e_eqi, e_eqs, e_eqb, e_nei, e_nes, e_neb, e_lti, e_gti, e_lei, e_gei, e_lenl, e_lent, e_lens, e_isib, e_inw, e_ninw, e_inwt, e_ninwt, e_intb, e_ixn, e_ixtn, e_ix0, e_ix1, e_ix2, e_ix3, e_ixt0, e_ixt1, e_ixt2, e_ixt3, e_ixs, e_ixs0, szl, List.getElem?_cons_zero, List.getElem?_cons_succ, e_tupl, e_tupt, e_listl, e_listt, nodup0, nodup1, List.length_set, List.length_append, List.length_map, List.set_cons_zero, List.set_cons_succ, Nat.add_zero, Nat.zero_add, lp_nx, lp_rt, lp_bk, lp_ct, lp_x, ↓reduceIte, Nat.reduceAdd, Nat.reduceSub, Nat.reduceLeDiff, Nat.reduceLT, Nat.reduceMul, Nat.reduceDiv, Nat.reduceMod, Int.reduceMul, Int.reduceToNat, Int.reduceMod, Int.reduceDiv, Int.reduceOfNat, Int.reduceBEq, Nat.reduceEqDiff, Nat.reduceBEq, Int.reduceLT, Int.reduceLE, Int.reduceEq, Int.reduceNeg, Int.reduceAdd, Int.reduceSub, decide_eq_true_eq, ite_true, ite_false, and_self, or_self, and_true, true_and, Bool.or_self, Bool.and_self, ixn0, ixn1, ixn2, ixn3, Bool.or_eq_true, or_true, true_or, or_false, false_or, b__law_marks, e_next, az_W, fg_W, hsg, l1, l2, l3]
  obtain ⟨sz, s1, s2, es⟩ := size_q (nxR a ns c) (nxR (nxA a ns c) ns (c + 1))
  have hr : smallI (sz - 1) = true := by simp [smallI]; omega
  simp only [↓n_ret, ↓n_opt, ↓n_eUn, ↓n_eBin, ↓n_eCons, ↓n_eNil, ↓n_eOp, ↓n_eTup, ↓n_rD, ↓n_rOp, ↓n_rLst, ↓n_eFz, ↓n_eVar, ↓n_eFull, ↓n_tFull, ↓n_rFull, ↓n_eTst, ↓n_eNot, ↓n_cAnd, ↓n_cOr, ↓n_cNot, ↓n_cYes, ↓n_eAnd, ↓n_eOr, ↓n_eChain, ↓n_eIf, ↓n_rIf, ↓n_oNone, ↓n_oSome, ↓n_eSl, ↓n_rSlL', ↓n_eMt, ↓n_rMt, ↓n_rBin, ↓n_rMv, ↓n_iLst, ↓n_iTupl, ↓n_iSeq, ↓n_iText, ↓n_iR1, ↓n_iR2, ↓n_iEn, ↓n_aNil, ↓n_aV, ↓n_aO, ↓n_callF, ↓n_rCall, ↓n_rMeth, ↓n_rMakeN, ↓n_fnOf, ↓n_sNext, ↓n_sBrk, ↓n_sCt, ↓n_sRetN, ↓n_sSeq, ↓n_sSet, ↓n_sAsg, ↓n_sIf, ↓n_sRet, ↓n_sDrop, ↓n_sFor, ↓n_sApp', ↓n_sExtA, ↓n_sSub, ↓n_eFld, ↓n_rLc, wc_t, wd_t, wd_f, kU_a, wo_some, wo_none, wo_ifn, wpe_eq, wse_eq, kr_a, krl_a, ku_a, kUn_v, kUn_x, kBin2_v, kBin2_x, kBin1_v, kBin1_x, kCons2_v, kCons2_x, kCons1_v, kCons1_x, kOp_v, kOp_x, kTup_v, kTup_x, kD_v, kD_x, kROp_v, kROp_x, kLst_v, kLst_x, kFz_v, kFz_x, kFull_v, kFull_x, kTFull_v, kTFull_x, n_rfx_ol, n_rfx_d, rfx_x, kTst_v, kTst_x, krn_a, kNot_v, kNot_x, wAnd_t, wAnd_f, kAnd_v, kAnd_x, wOr_t, wOr_f, kOr_v, kOr_x, kCNot_v, kCNot_x, wEAnd_t, wEAnd_f, kEAnd_v, kEAnd_x, wEOr_t, wEOr_f, kEOr_v, kEOr_x, tb_n, wChain_t, wChain_f, kCh3_a, kCh2_v, kCh2_x, kCh1_v, kCh1_x, wEIf_t, wEIf_f, kEIf_v, kEIf_x, wRIf_t, wRIf_f, kRIf_v, kRIf_x, kso_a, kSome_v, kSome_x, kSl3_v, kSl3_x, kSl2_v, kSl2_x, kSl1_v, kSl1_x, kcut_a, kRSl3_v, kRSl3_x, kRSl2_v, kRSl2_x, kRSl1_v, kRSl1_x, kMt2_v, kMt2_x, kMtu_a, kMt1_v, kMt1_x, kRMt2_v, kRMt2_x, kRMtu_a, kRMt1_v, kRMt1_x, kRBin2_v, kRBin2_x, kRBin1_v, kRBin1_x, kILst_v, kILst_x, kITup_v, kITup_x, kISeq_v, kISeq_x, ktx_a, kIText_v, kIText_x, kIL_v, kIL_x, kAV2_v, kAV2_x, kAV1_v, kAV1_x, kAO_v, kAO_x, isq_s, kAOu_a, kEnd2_a, kEnd_a, kCallU_a, kCall_a, kRcu_a, kRc_v, kRc_x, kMcu_a, kMc_v, kMc_x, kMf_a, kMo_a, kMeth_v, kFnU_a, ko_a, n_oend_rt, n_oend_nx, n_oend_x, kSeq_nx, kSeq_bk, kSeq_ct, kSeq_rt, kSeq_x, kSet_v, kSet_x, knx_a, kAsg_v, kAsg_x, wIf_t, wIf_f, kIf_v, kIf_x, kRet_v, kRet_x, kDrop_v, kDrop_x, kFor_v, kFor_x, kSt_a, kApp2_a, kApp_v, kApp_x, kAppU_a, kExt3_a, kExt2_a, kExt_v, kExt_x, kExtU_a, kSub5_a, kSub4_a, kSub3_a, kSub2_v, kSub2_x, kSubU_a, kSub1_v, kSub1_x, fld_o, e_tys, kLc_v, kLcU_a, kLcB_a, W_len, W_app, sgn_W, own_no, own_d, List.all_cons, List.all_nil, List.getD_cons_succ, List.getD_cons_zero, wipeS, backS, vr_d, vr_ol, vr_od, gt_0, gt_s, stt_0, stt_s, vwN_nil, vwN_d, vwN_ol, vwN_od, vwN_no, vwN_oi, ti_int, tl_l, tt_t, tq_t, tq_l, tx_s, mv_s, to_o, gA, pA, outs_nil, outs_cons, outs1_s, isD_d, gol_s, isL_ol, isL_d, gN_eq, gT_eq, gsN_eq, gsC_eq, some_bind', dR1_i, dR2_i, dEn_i, owns, vw_d, vw_ol, vw_oi, vw_od, wh_d, wh_ol, wh_od, wh_oi, imm, imms, decide_true, decide_false, Bool.not_true, Bool.not_false, if_true, if_false, List.length_cons, List.length_nil, List.map_cons, List.map_nil, List.append_nil, List.nil_append, List.cons_append, List.replicate, Option.map_some, beq_self_eq_true, Bool.true_or, Bool.or_true, Bool.false_or, Bool.or_false, Bool.false_and, Bool.and_false, Bool.true_and, Bool.and_true, reduceCtorEq, e_sub, e_mod, e_div, e_mul, e_addi, e_adds, e_addt, e_eqi, e_eqs, e_eqb, e_nei, e_nes, e_neb, e_lti, e_gti, e_lei, e_gei, e_lenl, e_lent, e_lens, e_isib, e_inw, e_ninw, e_inwt, e_ninwt, e_intb, e_ixn, e_ixtn, e_ix0, e_ix1, e_ix2, e_ix3, e_ixt0, e_ixt1, e_ixt2, e_ixt3, e_ixs, e_ixs0, szl, List.getElem?_cons_zero, List.getElem?_cons_succ, e_tupl, e_tupt, e_listl, e_listt, nodup0, nodup1, List.length_set, List.length_append, List.length_map, List.set_cons_zero, List.set_cons_succ, Nat.add_zero, Nat.zero_add, lp_nx, lp_rt, lp_bk, lp_ct, lp_x, ↓reduceIte, Nat.reduceAdd, Nat.reduceSub, Nat.reduceLeDiff, Nat.reduceLT, Nat.reduceMul, Nat.reduceDiv, Nat.reduceMod, Int.reduceMul, Int.reduceToNat, Int.reduceMod, Int.reduceDiv, Int.reduceOfNat, Int.reduceBEq, Nat.reduceEqDiff, Nat.reduceBEq, Int.reduceLT, Int.reduceLE, Int.reduceEq, Int.reduceNeg, Int.reduceAdd, Int.reduceSub, decide_eq_true_eq, ite_true, ite_false, and_self, or_self, and_true, true_and, Bool.or_self, Bool.and_self, ixn0, ixn1, ixn2, ixn3, Bool.or_eq_true, or_true, true_or, or_false, false_or, es, e_next, at_sml, hr]
  refine ws_for (fun ds s => ∃ a1 c1 l x5, l.length + ds.length ≤ 7 ∧ Al l ∧ s = [some (st a1 ns ((c1 : Nat) : Int)), some (R.d (D.str (W sml))), some (R.d (D.str (W sg))), some (R.d (D.int sz)), some (R.d (D.str (W l))), x5, none, none, none, none, none]) ?_ ?_ ?_
  · refine ⟨_, _, _, _, ?_, ⟨_, [], rfl, in_sml _, fun x hx => by cases hx⟩, rfl⟩
    simp [rngD]; omega
  · rintro d r s ⟨a1, c1, l, x5, h1, h2, rfl⟩
    simp only [List.length_cons] at h1
    have hz : (l.length + 1 ≤ 16777216) = True := eq_true (by omega)
    simp only [↓n_ret, ↓n_opt, ↓n_eUn, ↓n_eBin, ↓n_eCons, ↓n_eNil, ↓n_eOp, ↓n_eTup, ↓n_rD, ↓n_rOp, ↓n_rLst, ↓n_eFz, ↓n_eVar, ↓n_eFull, ↓n_tFull, ↓n_rFull, ↓n_eTst, ↓n_eNot, ↓n_cAnd, ↓n_cOr, ↓n_cNot, ↓n_cYes, ↓n_eAnd, ↓n_eOr, ↓n_eChain, ↓n_eIf, ↓n_rIf, ↓n_oNone, ↓n_oSome, ↓n_eSl, ↓n_rSlL', ↓n_eMt, ↓n_rMt, ↓n_rBin, ↓n_rMv, ↓n_iLst, ↓n_iTupl, ↓n_iSeq, ↓n_iText, ↓n_iR1, ↓n_iR2, ↓n_iEn, ↓n_aNil, ↓n_aV, ↓n_aO, ↓n_callF, ↓n_rCall, ↓n_rMeth, ↓n_rMakeN, ↓n_fnOf, ↓n_sNext, ↓n_sBrk, ↓n_sCt, ↓n_sRetN, ↓n_sSeq, ↓n_sSet, ↓n_sAsg, ↓n_sIf, ↓n_sRet, ↓n_sDrop, ↓n_sFor, ↓n_sApp', ↓n_sExtA, ↓n_sSub, ↓n_eFld, ↓n_rLc, wc_t, wd_t, wd_f, kU_a, wo_some, wo_none, wo_ifn, wpe_eq, wse_eq, kr_a, krl_a, ku_a, kUn_v, kUn_x, kBin2_v, kBin2_x, kBin1_v, kBin1_x, kCons2_v, kCons2_x, kCons1_v, kCons1_x, kOp_v, kOp_x, kTup_v, kTup_x, kD_v, kD_x, kROp_v, kROp_x, kLst_v, kLst_x, kFz_v, kFz_x, kFull_v, kFull_x, kTFull_v, kTFull_x, n_rfx_ol, n_rfx_d, rfx_x, kTst_v, kTst_x, krn_a, kNot_v, kNot_x, wAnd_t, wAnd_f, kAnd_v, kAnd_x, wOr_t, wOr_f, kOr_v, kOr_x, kCNot_v, kCNot_x, wEAnd_t, wEAnd_f, kEAnd_v, kEAnd_x, wEOr_t, wEOr_f, kEOr_v, kEOr_x, tb_n, wChain_t, wChain_f, kCh3_a, kCh2_v, kCh2_x, kCh1_v, kCh1_x, wEIf_t, wEIf_f, kEIf_v, kEIf_x, wRIf_t, wRIf_f, kRIf_v, kRIf_x, kso_a, kSome_v, kSome_x, kSl3_v, kSl3_x, kSl2_v, kSl2_x, kSl1_v, kSl1_x, kcut_a, kRSl3_v, kRSl3_x, kRSl2_v, kRSl2_x, kRSl1_v, kRSl1_x, kMt2_v, kMt2_x, kMtu_a, kMt1_v, kMt1_x, kRMt2_v, kRMt2_x, kRMtu_a, kRMt1_v, kRMt1_x, kRBin2_v, kRBin2_x, kRBin1_v, kRBin1_x, kILst_v, kILst_x, kITup_v, kITup_x, kISeq_v, kISeq_x, ktx_a, kIText_v, kIText_x, kIL_v, kIL_x, kAV2_v, kAV2_x, kAV1_v, kAV1_x, kAO_v, kAO_x, isq_s, kAOu_a, kEnd2_a, kEnd_a, kCallU_a, kCall_a, kRcu_a, kRc_v, kRc_x, kMcu_a, kMc_v, kMc_x, kMf_a, kMo_a, kMeth_v, kFnU_a, ko_a, n_oend_rt, n_oend_nx, n_oend_x, kSeq_nx, kSeq_bk, kSeq_ct, kSeq_rt, kSeq_x, kSet_v, kSet_x, knx_a, kAsg_v, kAsg_x, wIf_t, wIf_f, kIf_v, kIf_x, kRet_v, kRet_x, kDrop_v, kDrop_x, kFor_v, kFor_x, kSt_a, kApp2_a, kApp_v, kApp_x, kAppU_a, kExt3_a, kExt2_a, kExt_v, kExt_x, kExtU_a, kSub5_a, kSub4_a, kSub3_a, kSub2_v, kSub2_x, kSubU_a, kSub1_v, kSub1_x, fld_o, e_tys, kLc_v, kLcU_a, kLcB_a, W_len, W_app, sgn_W, own_no, own_d, List.all_cons, List.all_nil, List.getD_cons_succ, List.getD_cons_zero, wipeS, backS, vr_d, vr_ol, vr_od, gt_0, gt_s, stt_0, stt_s, vwN_nil, vwN_d, vwN_ol, vwN_od, vwN_no, vwN_oi, ti_int, tl_l, tt_t, tq_t, tq_l, tx_s, mv_s, to_o, gA, pA, outs_nil, outs_cons, outs1_s, isD_d, gol_s, isL_ol, isL_d, gN_eq, gT_eq, gsN_eq, gsC_eq, some_bind', dR1_i, dR2_i, dEn_i, owns, vw_d, vw_ol, vw_oi, vw_od, wh_d, wh_ol, wh_od, wh_oi, imm, imms, decide_true, decide_false, Bool.not_true, Bool.not_false, if_true, if_false, List.length_cons, List.length_nil, List.map_cons, List.map_nil, List.append_nil, List.nil_append, List.cons_append, List.replicate, Option.map_some, beq_self_eq_true, Bool.true_or, Bool.or_true, Bool.false_or, Bool.or_false, Bool.false_and, Bool.and_false, Bool.true_and, Bool.and_true, reduceCtorEq, e_sub, e_mod, e_div, e_mul, e_addi, e_adds, e_addt, e_eqi, e_eqs, e_eqb, e_nei, e_nes, e_neb, e_lti, e_gti, e_lei, e_gei, e_lenl, e_lent, e_lens, e_isib, e_inw, e_ninw, e_inwt, e_ninwt, e_intb, e_ixn, e_ixtn, e_ix0, e_ix1, e_ix2, e_ix3, e_ixt0, e_ixt1, e_ixt2, e_ixt3, e_ixs, e_ixs0, szl, List.getElem?_cons_zero, List.getElem?_cons_succ, e_tupl, e_tupt, e_listl, e_listt, nodup0, nodup1, List.length_set, List.length_append, List.length_map, List.set_cons_zero, List.set_cons_succ, Nat.add_zero, Nat.zero_add, lp_nx, lp_rt, lp_bk, lp_ct, lp_x, ↓reduceIte, Nat.reduceAdd, Nat.reduceSub, Nat.reduceLeDiff, Nat.reduceLT, Nat.reduceMul, Nat.reduceDiv, Nat.reduceMod, Int.reduceMul, Int.reduceToNat, Int.reduceMod, Int.reduceDiv, Int.reduceOfNat, Int.reduceBEq, Nat.reduceEqDiff, Nat.reduceBEq, Int.reduceLT, Int.reduceLE, Int.reduceEq, Int.reduceNeg, Int.reduceAdd, Int.reduceSub, decide_eq_true_eq, ite_true, ite_false, and_self, or_self, and_true, true_and, Bool.or_self, Bool.and_self, ixn0, ixn1, ixn2, ixn3, Bool.or_eq_true, or_true, true_or, or_false, false_or, e_next, at_sg, hz]
    exact ⟨_, _, _, _, by simp; omega, h2.snoc (in_sg _), rfl⟩
  · rintro s ⟨a1, c1, l, x5, h1, h2, rfl⟩
    rw [kSeq_nx, n_sSeq]
    refine ws_cut (fun s => ∃ a1 c1 l, l.length ≤ 7 ∧ Al l ∧ s = [some (st a1 ns ((c1 : Nat) : Int)), some (R.d (D.str (W sml))), some (R.d (D.str (W sg))), some (R.d (D.int sz)), some (R.d (D.str (W l))), x5, none, none, none, none, none]) ?_ ?_
    · simp only [↓n_ret, ↓n_opt, ↓n_eUn, ↓n_eBin, ↓n_eCons, ↓n_eNil, ↓n_eOp, ↓n_eTup, ↓n_rD, ↓n_rOp, ↓n_rLst, ↓n_eFz, ↓n_eVar, ↓n_eFull, ↓n_tFull, ↓n_rFull, ↓n_eTst, ↓n_eNot, ↓n_cAnd, ↓n_cOr, ↓n_cNot, ↓n_cYes, ↓n_eAnd, ↓n_eOr, ↓n_eChain, ↓n_eIf, ↓n_rIf, ↓n_oNone, ↓n_oSome, ↓n_eSl, ↓n_rSlL', ↓n_eMt, ↓n_rMt, ↓n_rBin, ↓n_rMv, ↓n_iLst, ↓n_iTupl, ↓n_iSeq, ↓n_iText, ↓n_iR1, ↓n_iR2, ↓n_iEn, ↓n_aNil, ↓n_aV, ↓n_aO, ↓n_callF, ↓n_rCall, ↓n_rMeth, ↓n_rMakeN, ↓n_fnOf, ↓n_sNext, ↓n_sBrk, ↓n_sCt, ↓n_sRetN, ↓n_sSeq, ↓n_sSet, ↓n_sAsg, ↓n_sIf, ↓n_sRet, ↓n_sDrop, ↓n_sFor, ↓n_sApp', ↓n_sExtA, ↓n_sSub, ↓n_eFld, ↓n_rLc, wc_t, wd_t, wd_f, kU_a, wo_some, wo_none, wo_ifn, wpe_eq, wse_eq, kr_a, krl_a, ku_a, kUn_v, kUn_x, kBin2_v, kBin2_x, kBin1_v, kBin1_x, kCons2_v, kCons2_x, kCons1_v, kCons1_x, kOp_v, kOp_x, kTup_v, kTup_x, kD_v, kD_x, kROp_v, kROp_x, kLst_v, kLst_x, kFz_v, kFz_x, kFull_v, kFull_x, kTFull_v, kTFull_x, n_rfx_ol, n_rfx_d, rfx_x, kTst_v, kTst_x, krn_a, kNot_v, kNot_x, wAnd_t, wAnd_f, kAnd_v, kAnd_x, wOr_t, wOr_f, kOr_v, kOr_x, kCNot_v, kCNot_x, wEAnd_t, wEAnd_f, kEAnd_v, kEAnd_x, wEOr_t, wEOr_f, kEOr_v, kEOr_x, tb_n, wChain_t, wChain_f, kCh3_a, kCh2_v, kCh2_x, kCh1_v, kCh1_x, wEIf_t, wEIf_f, kEIf_v, kEIf_x, wRIf_t, wRIf_f, kRIf_v, kRIf_x, kso_a, kSome_v, kSome_x, kSl3_v, kSl3_x, kSl2_v, kSl2_x, kSl1_v, kSl1_x, kcut_a, kRSl3_v, kRSl3_x, kRSl2_v, kRSl2_x, kRSl1_v, kRSl1_x, kMt2_v, kMt2_x, kMtu_a, kMt1_v, kMt1_x, kRMt2_v, kRMt2_x, kRMtu_a, kRMt1_v, kRMt1_x, kRBin2_v, kRBin2_x, kRBin1_v, kRBin1_x, kILst_v, kILst_x, kITup_v, kITup_x, kISeq_v, kISeq_x, ktx_a, kIText_v, kIText_x, kIL_v, kIL_x, kAV2_v, kAV2_x, kAV1_v, kAV1_x, kAO_v, kAO_x, isq_s, kAOu_a, kEnd2_a, kEnd_a, kCallU_a, kCall_a, kRcu_a, kRc_v, kRc_x, kMcu_a, kMc_v, kMc_x, kMf_a, kMo_a, kMeth_v, kFnU_a, ko_a, n_oend_rt, n_oend_nx, n_oend_x, kSeq_nx, kSeq_bk, kSeq_ct, kSeq_rt, kSeq_x, kSet_v, kSet_x, knx_a, kAsg_v, kAsg_x, wIf_t, wIf_f, kIf_v, kIf_x, kRet_v, kRet_x, kDrop_v, kDrop_x, kFor_v, kFor_x, kSt_a, kApp2_a, kApp_v, kApp_x, kAppU_a, kExt3_a, kExt2_a, kExt_v, kExt_x, kExtU_a, kSub5_a, kSub4_a, kSub3_a, kSub2_v, kSub2_x, kSubU_a, kSub1_v, kSub1_x, fld_o, e_tys, kLc_v, kLcU_a, kLcB_a, W_len, W_app, sgn_W, own_no, own_d, List.all_cons, List.all_nil, List.getD_cons_succ, List.getD_cons_zero, wipeS, backS, vr_d, vr_ol, vr_od, gt_0, gt_s, stt_0, stt_s, vwN_nil, vwN_d, vwN_ol, vwN_od, vwN_no, vwN_oi, ti_int, tl_l, tt_t, tq_t, tq_l, tx_s, mv_s, to_o, gA, pA, outs_nil, outs_cons, outs1_s, isD_d, gol_s, isL_ol, isL_d, gN_eq, gT_eq, gsN_eq, gsC_eq, some_bind', dR1_i, dR2_i, dEn_i, owns, vw_d, vw_ol, vw_oi, vw_od, wh_d, wh_ol, wh_od, wh_oi, imm, imms, decide_true, decide_false, Bool.not_true, Bool.not_false, if_true, if_false, List.length_cons, List.length_nil, List.map_cons, List.map_nil, List.append_nil, List.nil_append, List.cons_append, List.replicate, Option.map_some, beq_self_eq_true, Bool.true_or, Bool.or_true, Bool.false_or, Bool.or_false, Bool.false_and, Bool.and_false, Bool.true_and, Bool.and_true, reduceCtorEq, e_sub, e_mod, e_div, e_mul, e_addi, e_adds, e_addt, e_eqi, e_eqs, e_eqb, e_nei, e_nes, e_neb, e_lti, e_gti, e_lei, e_gei, e_lenl, e_lent, e_lens, e_isib, e_inw, e_ninw, e_inwt, e_ninwt, e_intb, e_ixn, e_ixtn, e_ix0, e_ix1, e_ix2, e_ix3, e_ixt0, e_ixt1, e_ixt2, e_ixt3, e_ixs, e_ixs0, szl, List.getElem?_cons_zero, List.getElem?_cons_succ, e_tupl, e_tupt, e_listl, e_listt, nodup0, nodup1, List.length_set, List.length_append, List.length_map, List.set_cons_zero, List.set_cons_succ, Nat.add_zero, Nat.zero_add, lp_nx, lp_rt, lp_bk, lp_ct, lp_x, ↓reduceIte, Nat.reduceAdd, Nat.reduceSub, Nat.reduceLeDiff, Nat.reduceLT, Nat.reduceMul, Nat.reduceDiv, Nat.reduceMod, Int.reduceMul, Int.reduceToNat, Int.reduceMod, Int.reduceDiv, Int.reduceOfNat, Int.reduceBEq, Nat.reduceEqDiff, Nat.reduceBEq, Int.reduceLT, Int.reduceLE, Int.reduceEq, Int.reduceNeg, Int.reduceAdd, Int.reduceSub, decide_eq_true_eq, ite_true, ite_false, and_self, or_self, and_true, true_and, Bool.or_self, Bool.and_self, ixn0, ixn1, ixn2, ixn3, Bool.or_eq_true, or_true, true_or, or_false, false_or, e_next]
      refine wd_of (fun h => ?_) (fun h => ?_)
      · obtain ⟨l2, g1, g2, g3⟩ := word_q (nxR (nxA a1 ns c1) ns (c1 + 1))
        simp only [↓n_ret, ↓n_opt, ↓n_eUn, ↓n_eBin, ↓n_eCons, ↓n_eNil, ↓n_eOp, ↓n_eTup, ↓n_rD, ↓n_rOp, ↓n_rLst, ↓n_eFz, ↓n_eVar, ↓n_eFull, ↓n_tFull, ↓n_rFull, ↓n_eTst, ↓n_eNot, ↓n_cAnd, ↓n_cOr, ↓n_cNot, ↓n_cYes, ↓n_eAnd, ↓n_eOr, ↓n_eChain, ↓n_eIf, ↓n_rIf, ↓n_oNone, ↓n_oSome, ↓n_eSl, ↓n_rSlL', ↓n_eMt, ↓n_rMt, ↓n_rBin, ↓n_rMv, ↓n_iLst, ↓n_iTupl, ↓n_iSeq, ↓n_iText, ↓n_iR1, ↓n_iR2, ↓n_iEn, ↓n_aNil, ↓n_aV, ↓n_aO, ↓n_callF, ↓n_rCall, ↓n_rMeth, ↓n_rMakeN, ↓n_fnOf, ↓n_sNext, ↓n_sBrk, ↓n_sCt, ↓n_sRetN, ↓n_sSeq, ↓n_sSet, ↓n_sAsg, ↓n_sIf, ↓n_sRet, ↓n_sDrop, ↓n_sFor, ↓n_sApp', ↓n_sExtA, ↓n_sSub, ↓n_eFld, ↓n_rLc, wc_t, wd_t, wd_f, kU_a, wo_some, wo_none, wo_ifn, wpe_eq, wse_eq, kr_a, krl_a, ku_a, kUn_v, kUn_x, kBin2_v, kBin2_x, kBin1_v, kBin1_x, kCons2_v, kCons2_x, kCons1_v, kCons1_x, kOp_v, kOp_x, kTup_v, kTup_x, kD_v, kD_x, kROp_v, kROp_x, kLst_v, kLst_x, kFz_v, kFz_x, kFull_v, kFull_x, kTFull_v, kTFull_x, n_rfx_ol, n_rfx_d, rfx_x, kTst_v, kTst_x, krn_a, kNot_v, kNot_x, wAnd_t, wAnd_f, kAnd_v, kAnd_x, wOr_t, wOr_f, kOr_v, kOr_x, kCNot_v, kCNot_x, wEAnd_t, wEAnd_f, kEAnd_v, kEAnd_x, wEOr_t, wEOr_f, kEOr_v, kEOr_x, tb_n, wChain_t, wChain_f, kCh3_a, kCh2_v, kCh2_x, kCh1_v, kCh1_x, wEIf_t, wEIf_f, kEIf_v, kEIf_x, wRIf_t, wRIf_f, kRIf_v, kRIf_x, kso_a, kSome_v, kSome_x, kSl3_v, kSl3_x, kSl2_v, kSl2_x, kSl1_v, kSl1_x, kcut_a, kRSl3_v, kRSl3_x, kRSl2_v, kRSl2_x, kRSl1_v, kRSl1_x, kMt2_v, kMt2_x, kMtu_a, kMt1_v, kMt1_x, kRMt2_v, kRMt2_x, kRMtu_a, kRMt1_v, kRMt1_x, kRBin2_v, kRBin2_x, kRBin1_v, kRBin1_x, kILst_v, kILst_x, kITup_v, kITup_x, kISeq_v, kISeq_x, ktx_a, kIText_v, kIText_x, kIL_v, kIL_x, kAV2_v, kAV2_x, kAV1_v, kAV1_x, kAO_v, kAO_x, isq_s, kAOu_a, kEnd2_a, kEnd_a, kCallU_a, kCall_a, kRcu_a, kRc_v, kRc_x, kMcu_a, kMc_v, kMc_x, kMf_a, kMo_a, kMeth_v, kFnU_a, ko_a, n_oend_rt, n_oend_nx, n_oend_x, kSeq_nx, kSeq_bk, kSeq_ct, kSeq_rt, kSeq_x, kSet_v, kSet_x, knx_a, kAsg_v, kAsg_x, wIf_t, wIf_f, kIf_v, kIf_x, kRet_v, kRet_x, kDrop_v, kDrop_x, kFor_v, kFor_x, kSt_a, kApp2_a, kApp_v, kApp_x, kAppU_a, kExt3_a, kExt2_a, kExt_v, kExt_x, kExtU_a, kSub5_a, kSub4_a, kSub3_a, kSub2_v, kSub2_x, kSubU_a, kSub1_v, kSub1_x, fld_o, e_tys, kLc_v, kLcU_a, kLcB_a, W_len, W_app, sgn_W, own_no, own_d, List.all_cons, List.all_nil, List.getD_cons_succ, List.getD_cons_zero, wipeS, backS, vr_d, vr_ol, vr_od, gt_0, gt_s, stt_0, stt_s, vwN_nil, vwN_d, vwN_ol, vwN_od, vwN_no, vwN_oi, ti_int, tl_l, tt_t, tq_t, tq_l, tx_s, mv_s, to_o, gA, pA, outs_nil, outs_cons, outs1_s, isD_d, gol_s, isL_ol, isL_d, gN_eq, gT_eq, gsN_eq, gsC_eq, some_bind', dR1_i, dR2_i, dEn_i, owns, vw_d, vw_ol, vw_oi, vw_od, wh_d, wh_ol, wh_od, wh_oi, imm, imms, decide_true, decide_false, Bool.not_true, Bool.not_false, if_true, if_false, List.length_cons, List.length_nil, List.map_cons, List.map_nil, List.append_nil, List.nil_append, List.cons_append, List.replicate, Option.map_some, beq_self_eq_true, Bool.true_or, Bool.or_true, Bool.false_or, Bool.or_false, Bool.false_and, Bool.and_false, Bool.true_and, Bool.and_true, reduceCtorEq, e_sub, e_mod, e_div, e_mul, e_addi, e_adds, e_addt, e_eqi, e_eqs, e_eqb, e_nei, e_nes, e_neb, e_lti, e_gti, e_lei, e_gei, e_lenl, e_lent, e_lens, e_isib, e_inw, e_ninw, e_inwt, e_ninwt, e_intb, e_ixn, e_ixtn, e_ix0, e_ix1, e_ix2, e_ix3, e_ixt0, e_ixt1, e_ixt2, e_ixt3, e_ixs, e_ixs0, szl, List.getElem?_cons_zero, List.getElem?_cons_succ, e_tupl, e_tupt, e_listl, e_listt, nodup0, nodup1, List.length_set, List.length_append, List.length_map, List.set_cons_zero, List.set_cons_succ, Nat.add_zero, Nat.zero_add, lp_nx, lp_rt, lp_bk, lp_ct, lp_x, ↓reduceIte, Nat.reduceAdd, Nat.reduceSub, Nat.reduceLeDiff, Nat.reduceLT, Nat.reduceMul, Nat.reduceDiv, Nat.reduceMod, Int.reduceMul, Int.reduceToNat, Int.reduceMod, Int.reduceDiv, Int.reduceOfNat, Int.reduceBEq, Nat.reduceEqDiff, Nat.reduceBEq, Int.reduceLT, Int.reduceLE, Int.reduceEq, Int.reduceNeg, Int.reduceAdd, Int.reduceSub, decide_eq_true_eq, ite_true, ite_false, and_self, or_self, and_true, true_and, Bool.or_self, Bool.and_self, ixn0, ixn1, ixn2, ixn3, Bool.or_eq_true, or_true, true_or, or_false, false_or, e_next, g3]
        exact ⟨_, _, _, g2, g1, rfl⟩
      · simp only [↓n_ret, ↓n_opt, ↓n_eUn, ↓n_eBin, ↓n_eCons, ↓n_eNil, ↓n_eOp, ↓n_eTup, ↓n_rD, ↓n_rOp, ↓n_rLst, ↓n_eFz, ↓n_eVar, ↓n_eFull, ↓n_tFull, ↓n_rFull, ↓n_eTst, ↓n_eNot, ↓n_cAnd, ↓n_cOr, ↓n_cNot, ↓n_cYes, ↓n_eAnd, ↓n_eOr, ↓n_eChain, ↓n_eIf, ↓n_rIf, ↓n_oNone, ↓n_oSome, ↓n_eSl, ↓n_rSlL', ↓n_eMt, ↓n_rMt, ↓n_rBin, ↓n_rMv, ↓n_iLst, ↓n_iTupl, ↓n_iSeq, ↓n_iText, ↓n_iR1, ↓n_iR2, ↓n_iEn, ↓n_aNil, ↓n_aV, ↓n_aO, ↓n_callF, ↓n_rCall, ↓n_rMeth, ↓n_rMakeN, ↓n_fnOf, ↓n_sNext, ↓n_sBrk, ↓n_sCt, ↓n_sRetN, ↓n_sSeq, ↓n_sSet, ↓n_sAsg, ↓n_sIf, ↓n_sRet, ↓n_sDrop, ↓n_sFor, ↓n_sApp', ↓n_sExtA, ↓n_sSub, ↓n_eFld, ↓n_rLc, wc_t, wd_t, wd_f, kU_a, wo_some, wo_none, wo_ifn, wpe_eq, wse_eq, kr_a, krl_a, ku_a, kUn_v, kUn_x, kBin2_v, kBin2_x, kBin1_v, kBin1_x, kCons2_v, kCons2_x, kCons1_v, kCons1_x, kOp_v, kOp_x, kTup_v, kTup_x, kD_v, kD_x, kROp_v, kROp_x, kLst_v, kLst_x, kFz_v, kFz_x, kFull_v, kFull_x, kTFull_v, kTFull_x, n_rfx_ol, n_rfx_d, rfx_x, kTst_v, kTst_x, krn_a, kNot_v, kNot_x, wAnd_t, wAnd_f, kAnd_v, kAnd_x, wOr_t, wOr_f, kOr_v, kOr_x, kCNot_v, kCNot_x, wEAnd_t, wEAnd_f, kEAnd_v, kEAnd_x, wEOr_t, wEOr_f, kEOr_v, kEOr_x, tb_n, wChain_t, wChain_f, kCh3_a, kCh2_v, kCh2_x, kCh1_v, kCh1_x, wEIf_t, wEIf_f, kEIf_v, kEIf_x, wRIf_t, wRIf_f, kRIf_v, kRIf_x, kso_a, kSome_v, kSome_x, kSl3_v, kSl3_x, kSl2_v, kSl2_x, kSl1_v, kSl1_x, kcut_a, kRSl3_v, kRSl3_x, kRSl2_v, kRSl2_x, kRSl1_v, kRSl1_x, kMt2_v, kMt2_x, kMtu_a, kMt1_v, kMt1_x, kRMt2_v, kRMt2_x, kRMtu_a, kRMt1_v, kRMt1_x, kRBin2_v, kRBin2_x, kRBin1_v, kRBin1_x, kILst_v, kILst_x, kITup_v, kITup_x, kISeq_v, kISeq_x, ktx_a, kIText_v, kIText_x, kIL_v, kIL_x, kAV2_v, kAV2_x, kAV1_v, kAV1_x, kAO_v, kAO_x, isq_s, kAOu_a, kEnd2_a, kEnd_a, kCallU_a, kCall_a, kRcu_a, kRc_v, kRc_x, kMcu_a, kMc_v, kMc_x, kMf_a, kMo_a, kMeth_v, kFnU_a, ko_a, n_oend_rt, n_oend_nx, n_oend_x, kSeq_nx, kSeq_bk, kSeq_ct, kSeq_rt, kSeq_x, kSet_v, kSet_x, knx_a, kAsg_v, kAsg_x, wIf_t, wIf_f, kIf_v, kIf_x, kRet_v, kRet_x, kDrop_v, kDrop_x, kFor_v, kFor_x, kSt_a, kApp2_a, kApp_v, kApp_x, kAppU_a, kExt3_a, kExt2_a, kExt_v, kExt_x, kExtU_a, kSub5_a, kSub4_a, kSub3_a, kSub2_v, kSub2_x, kSubU_a, kSub1_v, kSub1_x, fld_o, e_tys, kLc_v, kLcU_a, kLcB_a, W_len, W_app, sgn_W, own_no, own_d, List.all_cons, List.all_nil, List.getD_cons_succ, List.getD_cons_zero, wipeS, backS, vr_d, vr_ol, vr_od, gt_0, gt_s, stt_0, stt_s, vwN_nil, vwN_d, vwN_ol, vwN_od, vwN_no, vwN_oi, ti_int, tl_l, tt_t, tq_t, tq_l, tx_s, mv_s, to_o, gA, pA, outs_nil, outs_cons, outs1_s, isD_d, gol_s, isL_ol, isL_d, gN_eq, gT_eq, gsN_eq, gsC_eq, some_bind', dR1_i, dR2_i, dEn_i, owns, vw_d, vw_ol, vw_oi, vw_od, wh_d, wh_ol, wh_od, wh_oi, imm, imms, decide_true, decide_false, Bool.not_true, Bool.not_false, if_true, if_false, List.length_cons, List.length_nil, List.map_cons, List.map_nil, List.append_nil, List.nil_append, List.cons_append, List.replicate, Option.map_some, beq_self_eq_true, Bool.true_or, Bool.or_true, Bool.false_or, Bool.or_false, Bool.false_and, Bool.and_false, Bool.true_and, Bool.and_true, reduceCtorEq, e_sub, e_mod, e_div, e_mul, e_addi, e_adds, e_addt, e_eqi, e_eqs, e_eqb, e_nei, e_nes, e_neb, e_lti, e_gti, e_lei, e_gei, e_lenl, e_lent, e_lens, e_isib, e_inw, e_ninw, e_inwt, e_ninwt, e_intb, e_ixn, e_ixtn, e_ix0, e_ix1, e_ix2, e_ix3, e_ixt0, e_ixt1, e_ixt2, e_ixt3, e_ixs, e_ixs0, szl, List.getElem?_cons_zero, List.getElem?_cons_succ, e_tupl, e_tupt, e_listl, e_listt, nodup0, nodup1, List.length_set, List.length_append, List.length_map, List.set_cons_zero, List.set_cons_succ, Nat.add_zero, Nat.zero_add, lp_nx, lp_rt, lp_bk, lp_ct, lp_x, ↓reduceIte, Nat.reduceAdd, Nat.reduceSub, Nat.reduceLeDiff, Nat.reduceLT, Nat.reduceMul, Nat.reduceDiv, Nat.reduceMod, Int.reduceMul, Int.reduceToNat, Int.reduceMod, Int.reduceDiv, Int.reduceOfNat, Int.reduceBEq, Nat.reduceEqDiff, Nat.reduceBEq, Int.reduceLT, Int.reduceLE, Int.reduceEq, Int.reduceNeg, Int.reduceAdd, Int.reduceSub, decide_eq_true_eq, ite_true, ite_false, and_self, or_self, and_true, true_and, Bool.or_self, Bool.and_self, ixn0, ixn1, ixn2, ixn3, Bool.or_eq_true, or_true, true_or, or_false, false_or, e_next]
        exact ⟨_, _, _, by simpa using h1, h2, rfl⟩
    · rintro s ⟨a1, c1, l, h1, h2, rfl⟩
      have hl0 := h2.len
      have hz : (l.length ≤ 16777216) = True := eq_true (by omega)
      have hz1 : (l.length + 1 ≤ 16777216) = True := eq_true (by omega)
      have hp : (0 < (l.length : Int)) = True := eq_true (by omega)
      obtain ⟨k, hk, ek⟩ := mod_nat (nxR a1 ns c1) l.length hl0
      obtain ⟨i, ei⟩ := index_sml (l.getD 0 0) (by obtain ⟨b, t, rfl, h3, _⟩ := h2; exact h3)
      obtain ⟨i2, ei2⟩ := index_sg (l.getD k 0) (h2.all _ (getD_mem hk))
      have ex0 : dIx (.str (W l)) (.int 0) = some (.str (W [l.getD 0 0])) := e_ixsn (k := 0) hl0 (by simp [szl]; omega)
      have exk : dIx (.str (W l)) (.int (k : Int)) = some (.str (W [l.getD k 0])) := e_ixsn (k := k) hk (by simp [szl]; omega)
      obtain ⟨f, hf, ef⟩ := mod_nat (nxR (nxA a1 ns c1) ns (c1 + 1)) 9 (by decide)
      have ef : nxR (nxA a1 ns c1) ns (c1 + 1) % 9 = f := ef
      have ef2 : (1 : Int) + (f : Int) = ((f + 1 : Nat) : Int) := by omega
      have ex1 : dIx (.str (W sg)) (.int ((f + 1 : Nat) : Int)) = some (.str (W [sg.getD (f + 1) 0])) := e_ixsn (by rw [l3]; omega) (by decide)
      simp only [↓n_ret, ↓n_opt, ↓n_eUn, ↓n_eBin, ↓n_eCons, ↓n_eNil, ↓n_eOp, ↓n_eTup, ↓n_rD, ↓n_rOp, ↓n_rLst, ↓n_eFz, ↓n_eVar, ↓n_eFull, ↓n_tFull, ↓n_rFull, ↓n_eTst, ↓n_eNot, ↓n_cAnd, ↓n_cOr, ↓n_cNot, ↓n_cYes, ↓n_eAnd, ↓n_eOr, ↓n_eChain, ↓n_eIf, ↓n_rIf, ↓n_oNone, ↓n_oSome, ↓n_eSl, ↓n_rSlL', ↓n_eMt, ↓n_rMt, ↓n_rBin, ↓n_rMv, ↓n_iLst, ↓n_iTupl, ↓n_iSeq, ↓n_iText, ↓n_iR1, ↓n_iR2, ↓n_iEn, ↓n_aNil, ↓n_aV, ↓n_aO, ↓n_callF, ↓n_rCall, ↓n_rMeth, ↓n_rMakeN, ↓n_fnOf, ↓n_sNext, ↓n_sBrk, ↓n_sCt, ↓n_sRetN, ↓n_sSeq, ↓n_sSet, ↓n_sAsg, ↓n_sIf, ↓n_sRet, ↓n_sDrop, ↓n_sFor, ↓n_sApp', ↓n_sExtA, ↓n_sSub, ↓n_eFld, ↓n_rLc, wc_t, wd_t, wd_f, kU_a, wo_some, wo_none, wo_ifn, wpe_eq, wse_eq, kr_a, krl_a, ku_a, kUn_v, kUn_x, kBin2_v, kBin2_x, kBin1_v, kBin1_x, kCons2_v, kCons2_x, kCons1_v, kCons1_x, kOp_v, kOp_x, kTup_v, kTup_x, kD_v, kD_x, kROp_v, kROp_x, kLst_v, kLst_x, kFz_v, kFz_x, kFull_v, kFull_x, kTFull_v, kTFull_x, n_rfx_ol, n_rfx_d, rfx_x, kTst_v, kTst_x, krn_a, kNot_v, kNot_x, wAnd_t, wAnd_f, kAnd_v, kAnd_x, wOr_t, wOr_f, kOr_v, kOr_x, kCNot_v, kCNot_x, wEAnd_t, wEAnd_f, kEAnd_v, kEAnd_x, wEOr_t, wEOr_f, kEOr_v, kEOr_x, tb_n, wChain_t, wChain_f, kCh3_a, kCh2_v, kCh2_x, kCh1_v, kCh1_x, wEIf_t, wEIf_f, kEIf_v, kEIf_x, wRIf_t, wRIf_f, kRIf_v, kRIf_x, kso_a, kSome_v, kSome_x, kSl3_v, kSl3_x, kSl2_v, kSl2_x, kSl1_v, kSl1_x, kcut_a, kRSl3_v, kRSl3_x, kRSl2_v, kRSl2_x, kRSl1_v, kRSl1_x, kMt2_v, kMt2_x, kMtu_a, kMt1_v, kMt1_x, kRMt2_v, kRMt2_x, kRMtu_a, kRMt1_v, kRMt1_x, kRBin2_v, kRBin2_x, kRBin1_v, kRBin1_x, kILst_v, kILst_x, kITup_v, kITup_x, kISeq_v, kISeq_x, ktx_a, kIText_v, kIText_x, kIL_v, kIL_x, kAV2_v, kAV2_x, kAV1_v, kAV1_x, kAO_v, kAO_x, isq_s, kAOu_a, kEnd2_a, kEnd_a, kCallU_a, kCall_a, kRcu_a, kRc_v, kRc_x, kMcu_a, kMc_v, kMc_x, kMf_a, kMo_a, kMeth_v, kFnU_a, ko_a, n_oend_rt, n_oend_nx, n_oend_x, kSeq_nx, kSeq_bk, kSeq_ct, kSeq_rt, kSeq_x, kSet_v, kSet_x, knx_a, kAsg_v, kAsg_x, wIf_t, wIf_f, kIf_v, kIf_x, kRet_v, kRet_x, kDrop_v, kDrop_x, kFor_v, kFor_x, kSt_a, kApp2_a, kApp_v, kApp_x, kAppU_a, kExt3_a, kExt2_a, kExt_v, kExt_x, kExtU_a, kSub5_a, kSub4_a, kSub3_a, kSub2_v, kSub2_x, kSubU_a, kSub1_v, kSub1_x, fld_o, e_tys, kLc_v, kLcU_a, kLcB_a, W_len, W_app, sgn_W, own_no, own_d, List.all_cons, List.all_nil, List.getD_cons_succ, List.getD_cons_zero, wipeS, backS, vr_d, vr_ol, vr_od, gt_0, gt_s, stt_0, stt_s, vwN_nil, vwN_d, vwN_ol, vwN_od, vwN_no, vwN_oi, ti_int, tl_l, tt_t, tq_t, tq_l, tx_s, mv_s, to_o, gA, pA, outs_nil, outs_cons, outs1_s, isD_d, gol_s, isL_ol, isL_d, gN_eq, gT_eq, gsN_eq, gsC_eq, some_bind', dR1_i, dR2_i, dEn_i, owns, vw_d, vw_ol, vw_oi, vw_od, wh_d, wh_ol, wh_od, wh_oi, imm, imms, decide_true, decide_false, Bool.not_true, Bool.not_false, if_true, if_false, List.length_cons, List.length_nil, List.map_cons, List.map_nil, List.append_nil, List.nil_append, List.cons_append, List.replicate, Option.map_some, beq_self_eq_true, Bool.true_or, Bool.or_true, Bool.false_or, Bool.or_false, Bool.false_and, Bool.and_false, Bool.true_and, Bool.and_true, reduceCtorEq, e_sub, e_mod, e_div, e_mul, e_addi, e_adds, e_addt, e_eqi, e_eqs, e_eqb, e_nei, e_nes, e_neb, e_lti, e_gti, e_lei, e_gei, e_lenl, e_lent, e_lens, e_isib, e_inw, e_ninw, e_inwt, e_ninwt, e_intb, e_ixn, e_ixtn, e_ix0, e_ix1, e_ix2, e_ix3, e_ixt0, e_ixt1, e_ixt2, e_ixt3, e_ixs, e_ixs0, szl, List.getElem?_cons_zero, List.getElem?_cons_succ, e_tupl, e_tupt, e_listl, e_listt, nodup0, nodup1, List.length_set, List.length_append, List.length_map, List.set_cons_zero, List.set_cons_succ, Nat.add_zero, Nat.zero_add, lp_nx, lp_rt, lp_bk, lp_ct, lp_x, ↓reduceIte, Nat.reduceAdd, Nat.reduceSub, Nat.reduceLeDiff, Nat.reduceLT, Nat.reduceMul, Nat.reduceDiv, Nat.reduceMod, Int.reduceMul, Int.reduceToNat, Int.reduceMod, Int.reduceDiv, Int.reduceOfNat, Int.reduceBEq, Nat.reduceEqDiff, Nat.reduceBEq, Int.reduceLT, Int.reduceLE, Int.reduceEq, Int.reduceNeg, Int.reduceAdd, Int.reduceSub, decide_eq_true_eq, ite_true, ite_false, and_self, or_self, and_true, true_and, Bool.or_self, Bool.and_self, ixn0, ixn1, ixn2, ixn3, Bool.or_eq_true, or_true, true_or, or_false, false_or, e_next, hz, hp, ek, ex0, ei, ef, ef2, at_sml]
      have ek1 : (k : Int) + 1 = ((k + 1 : Nat) : Int) := by omega
      have ht : (l.take k).length = k := by simp; omega
      have hd : (l.drop (k + 1)).length = l.length - (k + 1) := by simp
      have hs1 : (k + 1 ≤ 16777216) = True := eq_true (by omega)
      have hs2 : (k + 1 + (l.length - (k + 1)) ≤ 16777216) = True := eq_true (by omega)
      have fin : ∀ x : Nat, x ∈ sg → (k = 0 → x ∈ sml) → Mk (mkOf (W l)) ∧ Mk (mkOf (W (l ++ [sg.getD (f + 1) 0]))) ∧ Mk (mkOf (W (l.take k ++ [x] ++ l.drop (k + 1)))) := fun x hx h0 => by
        refine ⟨mk_of h2 (by omega), mk_of (h2.snoc (getD_mem (by rw [l3]; omega))) (by simp; omega), ?_⟩
        rw [List.append_assoc]
        exact mk_of (h2.put hk hx h0) (by simp; omega)
      have mk3 : ∀ w ∈ ([W l, W (l ++ [sg.getD (f + 1) 0])] : List Str), w.length ≤ 100 := by
        intro w hw
        simp only [List.mem_cons, List.not_mem_nil, or_false] at hw
        rcases hw with rfl | rfl
        · rw [W_len]; omega
        · rw [W_len]; simp; omega
      have mk4 : ∀ x : Nat, (W (l.take k ++ [x] ++ l.drop (k + 1))).length ≤ 100 := fun x => by rw [W_len]; simp; omega
      refine wd_of (fun hk0 => ?_) (fun hk0 => ?_)
      · have hk0 := of_decide_eq_true hk0
        simp only [↓n_ret, ↓n_opt, ↓n_eUn, ↓n_eBin, ↓n_eCons, ↓n_eNil, ↓n_eOp, ↓n_eTup, ↓n_rD, ↓n_rOp, ↓n_rLst, ↓n_eFz, ↓n_eVar, ↓n_eFull, ↓n_tFull, ↓n_rFull, ↓n_eTst, ↓n_eNot, ↓n_cAnd, ↓n_cOr, ↓n_cNot, ↓n_cYes, ↓n_eAnd, ↓n_eOr, ↓n_eChain, ↓n_eIf, ↓n_rIf, ↓n_oNone, ↓n_oSome, ↓n_eSl, ↓n_rSlL', ↓n_eMt, ↓n_rMt, ↓n_rBin, ↓n_rMv, ↓n_iLst, ↓n_iTupl, ↓n_iSeq, ↓n_iText, ↓n_iR1, ↓n_iR2, ↓n_iEn, ↓n_aNil, ↓n_aV, ↓n_aO, ↓n_callF, ↓n_rCall, ↓n_rMeth, ↓n_rMakeN, ↓n_fnOf, ↓n_sNext, ↓n_sBrk, ↓n_sCt, ↓n_sRetN, ↓n_sSeq, ↓n_sSet, ↓n_sAsg, ↓n_sIf, ↓n_sRet, ↓n_sDrop, ↓n_sFor, ↓n_sApp', ↓n_sExtA, ↓n_sSub, ↓n_eFld, ↓n_rLc, wc_t, wd_t, wd_f, kU_a, wo_some, wo_none, wo_ifn, wpe_eq, wse_eq, kr_a, krl_a, ku_a, kUn_v, kUn_x, kBin2_v, kBin2_x, kBin1_v, kBin1_x, kCons2_v, kCons2_x, kCons1_v, kCons1_x, kOp_v, kOp_x, kTup_v, kTup_x, kD_v, kD_x, kROp_v, kROp_x, kLst_v, kLst_x, kFz_v, kFz_x, kFull_v, kFull_x, kTFull_v, kTFull_x, n_rfx_ol, n_rfx_d, rfx_x, kTst_v, kTst_x, krn_a, kNot_v, kNot_x, wAnd_t, wAnd_f, kAnd_v, kAnd_x, wOr_t, wOr_f, kOr_v, kOr_x, kCNot_v, kCNot_x, wEAnd_t, wEAnd_f, kEAnd_v, kEAnd_x, wEOr_t, wEOr_f, kEOr_v, kEOr_x, tb_n, wChain_t, wChain_f, kCh3_a, kCh2_v, kCh2_x, kCh1_v, kCh1_x, wEIf_t, wEIf_f, kEIf_v, kEIf_x, wRIf_t, wRIf_f, kRIf_v, kRIf_x, kso_a, kSome_v, kSome_x, kSl3_v, kSl3_x, kSl2_v, kSl2_x, kSl1_v, kSl1_x, kcut_a, kRSl3_v, kRSl3_x, kRSl2_v, kRSl2_x, kRSl1_v, kRSl1_x, kMt2_v, kMt2_x, kMtu_a, kMt1_v, kMt1_x, kRMt2_v, kRMt2_x, kRMtu_a, kRMt1_v, kRMt1_x, kRBin2_v, kRBin2_x, kRBin1_v, kRBin1_x, kILst_v, kILst_x, kITup_v, kITup_x, kISeq_v, kISeq_x, ktx_a, kIText_v, kIText_x, kIL_v, kIL_x, kAV2_v, kAV2_x, kAV1_v, kAV1_x, kAO_v, kAO_x, isq_s, kAOu_a, kEnd2_a, kEnd_a, kCallU_a, kCall_a, kRcu_a, kRc_v, kRc_x, kMcu_a, kMc_v, kMc_x, kMf_a, kMo_a, kMeth_v, kFnU_a, ko_a, n_oend_rt, n_oend_nx, n_oend_x, kSeq_nx, kSeq_bk, kSeq_ct, kSeq_rt, kSeq_x, kSet_v, kSet_x, knx_a, kAsg_v, kAsg_x, wIf_t, wIf_f, kIf_v, kIf_x, kRet_v, kRet_x, kDrop_v, kDrop_x, kFor_v, kFor_x, kSt_a, kApp2_a, kApp_v, kApp_x, kAppU_a, kExt3_a, kExt2_a, kExt_v, kExt_x, kExtU_a, kSub5_a, kSub4_a, kSub3_a, kSub2_v, kSub2_x, kSubU_a, kSub1_v, kSub1_x, fld_o, e_tys, kLc_v, kLcU_a, kLcB_a, W_len, W_app, sgn_W, own_no, own_d, List.all_cons, List.all_nil, List.getD_cons_succ, List.getD_cons_zero, wipeS, backS, vr_d, vr_ol, vr_od, gt_0, gt_s, stt_0, stt_s, vwN_nil, vwN_d, vwN_ol, vwN_od, vwN_no, vwN_oi, ti_int, tl_l, tt_t, tq_t, tq_l, tx_s, mv_s, to_o, gA, pA, outs_nil, outs_cons, outs1_s, isD_d, gol_s, isL_ol, isL_d, gN_eq, gT_eq, gsN_eq, gsC_eq, some_bind', dR1_i, dR2_i, dEn_i, owns, vw_d, vw_ol, vw_oi, vw_od, wh_d, wh_ol, wh_od, wh_oi, imm, imms, decide_true, decide_false, Bool.not_true, Bool.not_false, if_true, if_false, List.length_cons, List.length_nil, List.map_cons, List.map_nil, List.append_nil, List.nil_append, List.cons_append, List.replicate, Option.map_some, beq_self_eq_true, Bool.true_or, Bool.or_true, Bool.false_or, Bool.or_false, Bool.false_and, Bool.and_false, Bool.true_and, Bool.and_true, reduceCtorEq, e_sub, e_mod, e_div, e_mul, e_addi, e_adds, e_addt, e_eqi, e_eqs, e_eqb, e_nei, e_nes, e_neb, e_lti, e_gti, e_lei, e_gei, e_lenl, e_lent, e_lens, e_isib, e_inw, e_ninw, e_inwt, e_ninwt, e_intb, e_ixn, e_ixtn, e_ix0, e_ix1, e_ix2, e_ix3, e_ixt0, e_ixt1, e_ixt2, e_ixt3, e_ixs, e_ixs0, szl, List.getElem?_cons_zero, List.getElem?_cons_succ, e_tupl, e_tupt, e_listl, e_listt, nodup0, nodup1, List.length_set, List.length_append, List.length_map, List.set_cons_zero, List.set_cons_succ, Nat.add_zero, Nat.zero_add, lp_nx, lp_rt, lp_bk, lp_ct, lp_x, ↓reduceIte, Nat.reduceAdd, Nat.reduceSub, Nat.reduceLeDiff, Nat.reduceLT, Nat.reduceMul, Nat.reduceDiv, Nat.reduceMod, Int.reduceMul, Int.reduceToNat, Int.reduceMod, Int.reduceDiv, Int.reduceOfNat, Int.reduceBEq, Nat.reduceEqDiff, Nat.reduceBEq, Int.reduceLT, Int.reduceLE, Int.reduceEq, Int.reduceNeg, Int.reduceAdd, Int.reduceSub, decide_eq_true_eq, ite_true, ite_false, and_self, or_self, and_true, true_and, Bool.or_self, Bool.and_self, ixn0, ixn1, ixn2, ixn3, Bool.or_eq_true, or_true, true_or, or_false, false_or, e_next, hz, hz1, hp, ek, ex0, ei, ef, ef2, at_sml, exk, ei2, at_sg, ex1, e_slto, e_slfrom, ek1, ht, hd, hs1, hs2]
        refine wl_map (xs := [_, _, _]) D.str (fun w => D.str (mkOf w)) (by simp [szl]) (fun w hw => ?_) ?_
        · have hw1 : w.length ≤ 100 := by
            simp only [List.mem_cons, List.not_mem_nil, or_false] at hw
            rcases hw with rfl | rfl | rfl
            · exact mk3 _ (by simp)
            · exact mk3 _ (by simp)
            · exact mk4 _
          simp only [↓n_ret, ↓n_opt, ↓n_eUn, ↓n_eBin, ↓n_eCons, ↓n_eNil, ↓n_eOp, ↓n_eTup, ↓n_rD, ↓n_rOp, ↓n_rLst, ↓n_eFz, ↓n_eVar, ↓n_eFull, ↓n_tFull, ↓n_rFull, ↓n_eTst, ↓n_eNot, ↓n_cAnd, ↓n_cOr, ↓n_cNot, ↓n_cYes, ↓n_eAnd, ↓n_eOr, ↓n_eChain, ↓n_eIf, ↓n_rIf, ↓n_oNone, ↓n_oSome, ↓n_eSl, ↓n_rSlL', ↓n_eMt, ↓n_rMt, ↓n_rBin, ↓n_rMv, ↓n_iLst, ↓n_iTupl, ↓n_iSeq, ↓n_iText, ↓n_iR1, ↓n_iR2, ↓n_iEn, ↓n_aNil, ↓n_aV, ↓n_aO, ↓n_callF, ↓n_rCall, ↓n_rMeth, ↓n_rMakeN, ↓n_fnOf, ↓n_sNext, ↓n_sBrk, ↓n_sCt, ↓n_sRetN, ↓n_sSeq, ↓n_sSet, ↓n_sAsg, ↓n_sIf, ↓n_sRet, ↓n_sDrop, ↓n_sFor, ↓n_sApp', ↓n_sExtA, ↓n_sSub, ↓n_eFld, ↓n_rLc, wc_t, wd_t, wd_f, kU_a, wo_some, wo_none, wo_ifn, wpe_eq, wse_eq, kr_a, krl_a, ku_a, kUn_v, kUn_x, kBin2_v, kBin2_x, kBin1_v, kBin1_x, kCons2_v, kCons2_x, kCons1_v, kCons1_x, kOp_v, kOp_x, kTup_v, kTup_x, kD_v, kD_x, kROp_v, kROp_x, kLst_v, kLst_x, kFz_v, kFz_x, kFull_v, kFull_x, kTFull_v, kTFull_x, n_rfx_ol, n_rfx_d, rfx_x, kTst_v, kTst_x, krn_a, kNot_v, kNot_x, wAnd_t, wAnd_f, kAnd_v, kAnd_x, wOr_t, wOr_f, kOr_v, kOr_x, kCNot_v, kCNot_x, wEAnd_t, wEAnd_f, kEAnd_v, kEAnd_x, wEOr_t, wEOr_f, kEOr_v, kEOr_x, tb_n, wChain_t, wChain_f, kCh3_a, kCh2_v, kCh2_x, kCh1_v, kCh1_x, wEIf_t, wEIf_f, kEIf_v, kEIf_x, wRIf_t, wRIf_f, kRIf_v, kRIf_x, kso_a, kSome_v, kSome_x, kSl3_v, kSl3_x, kSl2_v, kSl2_x, kSl1_v, kSl1_x, kcut_a, kRSl3_v, kRSl3_x, kRSl2_v, kRSl2_x, kRSl1_v, kRSl1_x, kMt2_v, kMt2_x, kMtu_a, kMt1_v, kMt1_x, kRMt2_v, kRMt2_x, kRMtu_a, kRMt1_v, kRMt1_x, kRBin2_v, kRBin2_x, kRBin1_v, kRBin1_x, kILst_v, kILst_x, kITup_v, kITup_x, kISeq_v, kISeq_x, ktx_a, kIText_v, kIText_x, kIL_v, kIL_x, kAV2_v, kAV2_x, kAV1_v, kAV1_x, kAO_v, kAO_x, isq_s, kAOu_a, kEnd2_a, kEnd_a, kCallU_a, kCall_a, kRcu_a, kRc_v, kRc_x, kMcu_a, kMc_v, kMc_x, kMf_a, kMo_a, kMeth_v, kFnU_a, ko_a, n_oend_rt, n_oend_nx, n_oend_x, kSeq_nx, kSeq_bk, kSeq_ct, kSeq_rt, kSeq_x, kSet_v, kSet_x, knx_a, kAsg_v, kAsg_x, wIf_t, wIf_f, kIf_v, kIf_x, kRet_v, kRet_x, kDrop_v, kDrop_x, kFor_v, kFor_x, kSt_a, kApp2_a, kApp_v, kApp_x, kAppU_a, kExt3_a, kExt2_a, kExt_v, kExt_x, kExtU_a, kSub5_a, kSub4_a, kSub3_a, kSub2_v, kSub2_x, kSubU_a, kSub1_v, kSub1_x, fld_o, e_tys, kLc_v, kLcU_a, kLcB_a, W_len, W_app, sgn_W, own_no, own_d, List.all_cons, List.all_nil, List.getD_cons_succ, List.getD_cons_zero, wipeS, backS, vr_d, vr_ol, vr_od, gt_0, gt_s, stt_0, stt_s, vwN_nil, vwN_d, vwN_ol, vwN_od, vwN_no, vwN_oi, ti_int, tl_l, tt_t, tq_t, tq_l, tx_s, mv_s, to_o, gA, pA, outs_nil, outs_cons, outs1_s, isD_d, gol_s, isL_ol, isL_d, gN_eq, gT_eq, gsN_eq, gsC_eq, some_bind', dR1_i, dR2_i, dEn_i, owns, vw_d, vw_ol, vw_oi, vw_od, wh_d, wh_ol, wh_od, wh_oi, imm, imms, decide_true, decide_false, Bool.not_true, Bool.not_false, if_true, if_false, List.length_cons, List.length_nil, List.map_cons, List.map_nil, List.append_nil, List.nil_append, List.cons_append, List.replicate, Option.map_some, beq_self_eq_true, Bool.true_or, Bool.or_true, Bool.false_or, Bool.or_false, Bool.false_and, Bool.and_false, Bool.true_and, Bool.and_true, reduceCtorEq, e_sub, e_mod, e_div, e_mul, e_addi, e_adds, e_addt, e_eqi, e_eqs, e_eqb, e_nei, e_nes, e_neb, e_lti, e_gti, e_lei, e_gei, e_lenl, e_lent, e_lens, e_isib, e_inw, e_ninw, e_inwt, e_ninwt, e_intb, e_ixn, e_ixtn, e_ix0, e_ix1, e_ix2, e_ix3, e_ixt0, e_ixt1, e_ixt2, e_ixt3, e_ixs, e_ixs0, szl, List.getElem?_cons_zero, List.getElem?_cons_succ, e_tupl, e_tupt, e_listl, e_listt, nodup0, nodup1, List.length_set, List.length_append, List.length_map, List.set_cons_zero, List.set_cons_succ, Nat.add_zero, Nat.zero_add, lp_nx, lp_rt, lp_bk, lp_ct, lp_x, ↓reduceIte, Nat.reduceAdd, Nat.reduceSub, Nat.reduceLeDiff, Nat.reduceLT, Nat.reduceMul, Nat.reduceDiv, Nat.reduceMod, Int.reduceMul, Int.reduceToNat, Int.reduceMod, Int.reduceDiv, Int.reduceOfNat, Int.reduceBEq, Nat.reduceEqDiff, Nat.reduceBEq, Int.reduceLT, Int.reduceLE, Int.reduceEq, Int.reduceNeg, Int.reduceAdd, Int.reduceSub, decide_eq_true_eq, ite_true, ite_false, and_self, or_self, and_true, true_and, Bool.or_self, Bool.and_self, ixn0, ixn1, ixn2, ixn3, Bool.or_eq_true, or_true, true_or, or_false, false_or, wf_of (markof_ok w hw1)]
        · obtain ⟨f1, f2, f3⟩ := fin _ (in_sg _) (fun h => by omega)
          simp only [↓n_ret, ↓n_opt, ↓n_eUn, ↓n_eBin, ↓n_eCons, ↓n_eNil, ↓n_eOp, ↓n_eTup, ↓n_rD, ↓n_rOp, ↓n_rLst, ↓n_eFz, ↓n_eVar, ↓n_eFull, ↓n_tFull, ↓n_rFull, ↓n_eTst, ↓n_eNot, ↓n_cAnd, ↓n_cOr, ↓n_cNot, ↓n_cYes, ↓n_eAnd, ↓n_eOr, ↓n_eChain, ↓n_eIf, ↓n_rIf, ↓n_oNone, ↓n_oSome, ↓n_eSl, ↓n_rSlL', ↓n_eMt, ↓n_rMt, ↓n_rBin, ↓n_rMv, ↓n_iLst, ↓n_iTupl, ↓n_iSeq, ↓n_iText, ↓n_iR1, ↓n_iR2, ↓n_iEn, ↓n_aNil, ↓n_aV, ↓n_aO, ↓n_callF, ↓n_rCall, ↓n_rMeth, ↓n_rMakeN, ↓n_fnOf, ↓n_sNext, ↓n_sBrk, ↓n_sCt, ↓n_sRetN, ↓n_sSeq, ↓n_sSet, ↓n_sAsg, ↓n_sIf, ↓n_sRet, ↓n_sDrop, ↓n_sFor, ↓n_sApp', ↓n_sExtA, ↓n_sSub, ↓n_eFld, ↓n_rLc, wc_t, wd_t, wd_f, kU_a, wo_some, wo_none, wo_ifn, wpe_eq, wse_eq, kr_a, krl_a, ku_a, kUn_v, kUn_x, kBin2_v, kBin2_x, kBin1_v, kBin1_x, kCons2_v, kCons2_x, kCons1_v, kCons1_x, kOp_v, kOp_x, kTup_v, kTup_x, kD_v, kD_x, kROp_v, kROp_x, kLst_v, kLst_x, kFz_v, kFz_x, kFull_v, kFull_x, kTFull_v, kTFull_x, n_rfx_ol, n_rfx_d, rfx_x, kTst_v, kTst_x, krn_a, kNot_v, kNot_x, wAnd_t, wAnd_f, kAnd_v, kAnd_x, wOr_t, wOr_f, kOr_v, kOr_x, kCNot_v, kCNot_x, wEAnd_t, wEAnd_f, kEAnd_v, kEAnd_x, wEOr_t, wEOr_f, kEOr_v, kEOr_x, tb_n, wChain_t, wChain_f, kCh3_a, kCh2_v, kCh2_x, kCh1_v, kCh1_x, wEIf_t, wEIf_f, kEIf_v, kEIf_x, wRIf_t, wRIf_f, kRIf_v, kRIf_x, kso_a, kSome_v, kSome_x, kSl3_v, kSl3_x, kSl2_v, kSl2_x, kSl1_v, kSl1_x, kcut_a, kRSl3_v, kRSl3_x, kRSl2_v, kRSl2_x, kRSl1_v, kRSl1_x, kMt2_v, kMt2_x, kMtu_a, kMt1_v, kMt1_x, kRMt2_v, kRMt2_x, kRMtu_a, kRMt1_v, kRMt1_x, kRBin2_v, kRBin2_x, kRBin1_v, kRBin1_x, kILst_v, kILst_x, kITup_v, kITup_x, kISeq_v, kISeq_x, ktx_a, kIText_v, kIText_x, kIL_v, kIL_x, kAV2_v, kAV2_x, kAV1_v, kAV1_x, kAO_v, kAO_x, isq_s, kAOu_a, kEnd2_a, kEnd_a, kCallU_a, kCall_a, kRcu_a, kRc_v, kRc_x, kMcu_a, kMc_v, kMc_x, kMf_a, kMo_a, kMeth_v, kFnU_a, ko_a, n_oend_rt, n_oend_nx, n_oend_x, kSeq_nx, kSeq_bk, kSeq_ct, kSeq_rt, kSeq_x, kSet_v, kSet_x, knx_a, kAsg_v, kAsg_x, wIf_t, wIf_f, kIf_v, kIf_x, kRet_v, kRet_x, kDrop_v, kDrop_x, kFor_v, kFor_x, kSt_a, kApp2_a, kApp_v, kApp_x, kAppU_a, kExt3_a, kExt2_a, kExt_v, kExt_x, kExtU_a, kSub5_a, kSub4_a, kSub3_a, kSub2_v, kSub2_x, kSubU_a, kSub1_v, kSub1_x, fld_o, e_tys, kLc_v, kLcU_a, kLcB_a, W_len, W_app, sgn_W, own_no, own_d, List.all_cons, List.all_nil, List.getD_cons_succ, List.getD_cons_zero, wipeS, backS, vr_d, vr_ol, vr_od, gt_0, gt_s, stt_0, stt_s, vwN_nil, vwN_d, vwN_ol, vwN_od, vwN_no, vwN_oi, ti_int, tl_l, tt_t, tq_t, tq_l, tx_s, mv_s, to_o, gA, pA, outs_nil, outs_cons, outs1_s, isD_d, gol_s, isL_ol, isL_d, gN_eq, gT_eq, gsN_eq, gsC_eq, some_bind', dR1_i, dR2_i, dEn_i, owns, vw_d, vw_ol, vw_oi, vw_od, wh_d, wh_ol, wh_od, wh_oi, imm, imms, decide_true, decide_false, Bool.not_true, Bool.not_false, if_true, if_false, List.length_cons, List.length_nil, List.map_cons, List.map_nil, List.append_nil, List.nil_append, List.cons_append, List.replicate, Option.map_some, beq_self_eq_true, Bool.true_or, Bool.or_true, Bool.false_or, Bool.or_false, Bool.false_and, Bool.and_false, Bool.true_and, Bool.and_true, reduceCtorEq, e_sub, e_mod, e_div, e_mul, e_addi, e_adds, e_addt, e_eqi, e_eqs, e_eqb, e_nei, e_nes, e_neb, e_lti, e_gti, e_lei, e_gei, e_lenl, e_lent, e_lens, e_isib, e_inw, e_ninw, e_inwt, e_ninwt, e_intb, e_ixn, e_ixtn, e_ix0, e_ix1, e_ix2, e_ix3, e_ixt0, e_ixt1, e_ixt2, e_ixt3, e_ixs, e_ixs0, szl, List.getElem?_cons_zero, List.getElem?_cons_succ, e_tupl, e_tupt, e_listl, e_listt, nodup0, nodup1, List.length_set, List.length_append, List.length_map, List.set_cons_zero, List.set_cons_succ, Nat.add_zero, Nat.zero_add, lp_nx, lp_rt, lp_bk, lp_ct, lp_x, ↓reduceIte, Nat.reduceAdd, Nat.reduceSub, Nat.reduceLeDiff, Nat.reduceLT, Nat.reduceMul, Nat.reduceDiv, Nat.reduceMod, Int.reduceMul, Int.reduceToNat, Int.reduceMod, Int.reduceDiv, Int.reduceOfNat, Int.reduceBEq, Nat.reduceEqDiff, Nat.reduceBEq, Int.reduceLT, Int.reduceLE, Int.reduceEq, Int.reduceNeg, Int.reduceAdd, Int.reduceSub, decide_eq_true_eq, ite_true, ite_false, and_self, or_self, and_true, true_and, Bool.or_self, Bool.and_self, ixn0, ixn1, ixn2, ixn3, Bool.or_eq_true, or_true, true_or, or_false, false_or]
          exact ⟨_, _, _, _, _, f1, f2, f3, rfl, rfl⟩
      · have hk0 : k = 0 := by have := of_decide_eq_false hk0; omega
        simp only [↓n_ret, ↓n_opt, ↓n_eUn, ↓n_eBin, ↓n_eCons, ↓n_eNil, ↓n_eOp, ↓n_eTup, ↓n_rD, ↓n_rOp, ↓n_rLst, ↓n_eFz, ↓n_eVar, ↓n_eFull, ↓n_tFull, ↓n_rFull, ↓n_eTst, ↓n_eNot, ↓n_cAnd, ↓n_cOr, ↓n_cNot, ↓n_cYes, ↓n_eAnd, ↓n_eOr, ↓n_eChain, ↓n_eIf, ↓n_rIf, ↓n_oNone, ↓n_oSome, ↓n_eSl, ↓n_rSlL', ↓n_eMt, ↓n_rMt, ↓n_rBin, ↓n_rMv, ↓n_iLst, ↓n_iTupl, ↓n_iSeq, ↓n_iText, ↓n_iR1, ↓n_iR2, ↓n_iEn, ↓n_aNil, ↓n_aV, ↓n_aO, ↓n_callF, ↓n_rCall, ↓n_rMeth, ↓n_rMakeN, ↓n_fnOf, ↓n_sNext, ↓n_sBrk, ↓n_sCt, ↓n_sRetN, ↓n_sSeq, ↓n_sSet, ↓n_sAsg, ↓n_sIf, ↓n_sRet, ↓n_sDrop, ↓n_sFor, ↓n_sApp', ↓n_sExtA, ↓n_sSub, ↓n_eFld, ↓n_rLc, wc_t, wd_t, wd_f, kU_a, wo_some, wo_none, wo_ifn, wpe_eq, wse_eq, kr_a, krl_a, ku_a, kUn_v, kUn_x, kBin2_v, kBin2_x, kBin1_v, kBin1_x, kCons2_v, kCons2_x, kCons1_v, kCons1_x, kOp_v, kOp_x, kTup_v, kTup_x, kD_v, kD_x, kROp_v, kROp_x, kLst_v, kLst_x, kFz_v, kFz_x, kFull_v, kFull_x, kTFull_v, kTFull_x, n_rfx_ol, n_rfx_d, rfx_x, kTst_v, kTst_x, krn_a, kNot_v, kNot_x, wAnd_t, wAnd_f, kAnd_v, kAnd_x, wOr_t, wOr_f, kOr_v, kOr_x, kCNot_v, kCNot_x, wEAnd_t, wEAnd_f, kEAnd_v, kEAnd_x, wEOr_t, wEOr_f, kEOr_v, kEOr_x, tb_n, wChain_t, wChain_f, kCh3_a, kCh2_v, kCh2_x, kCh1_v, kCh1_x, wEIf_t, wEIf_f, kEIf_v, kEIf_x, wRIf_t, wRIf_f, kRIf_v, kRIf_x, kso_a, kSome_v, kSome_x, kSl3_v, kSl3_x, kSl2_v, kSl2_x, kSl1_v, kSl1_x, kcut_a, kRSl3_v, kRSl3_x, kRSl2_v, kRSl2_x, kRSl1_v, kRSl1_x, kMt2_v, kMt2_x, kMtu_a, kMt1_v, kMt1_x, kRMt2_v, kRMt2_x, kRMtu_a, kRMt1_v, kRMt1_x, kRBin2_v, kRBin2_x, kRBin1_v, kRBin1_x, kILst_v, kILst_x, kITup_v, kITup_x, kISeq_v, kISeq_x, ktx_a, kIText_v, kIText_x, kIL_v, kIL_x, kAV2_v, kAV2_x, kAV1_v, kAV1_x, kAO_v, kAO_x, isq_s, kAOu_a, kEnd2_a, kEnd_a, kCallU_a, kCall_a, kRcu_a, kRc_v, kRc_x, kMcu_a, kMc_v, kMc_x, kMf_a, kMo_a, kMeth_v, kFnU_a, ko_a, n_oend_rt, n_oend_nx, n_oend_x, kSeq_nx, kSeq_bk, kSeq_ct, kSeq_rt, kSeq_x, kSet_v, kSet_x, knx_a, kAsg_v, kAsg_x, wIf_t, wIf_f, kIf_v, kIf_x, kRet_v, kRet_x, kDrop_v, kDrop_x, kFor_v, kFor_x, kSt_a, kApp2_a, kApp_v, kApp_x, kAppU_a, kExt3_a, kExt2_a, kExt_v, kExt_x, kExtU_a, kSub5_a, kSub4_a, kSub3_a, kSub2_v, kSub2_x, kSubU_a, kSub1_v, kSub1_x, fld_o, e_tys, kLc_v, kLcU_a, kLcB_a, W_len, W_app, sgn_W, own_no, own_d, List.all_cons, List.all_nil, List.getD_cons_succ, List.getD_cons_zero, wipeS, backS, vr_d, vr_ol, vr_od, gt_0, gt_s, stt_0, stt_s, vwN_nil, vwN_d, vwN_ol, vwN_od, vwN_no, vwN_oi, ti_int, tl_l, tt_t, tq_t, tq_l, tx_s, mv_s, to_o, gA, pA, outs_nil, outs_cons, outs1_s, isD_d, gol_s, isL_ol, isL_d, gN_eq, gT_eq, gsN_eq, gsC_eq, some_bind', dR1_i, dR2_i, dEn_i, owns, vw_d, vw_ol, vw_oi, vw_od, wh_d, wh_ol, wh_od, wh_oi, imm, imms, decide_true, decide_false, Bool.not_true, Bool.not_false, if_true, if_false, List.length_cons, List.length_nil, List.map_cons, List.map_nil, List.append_nil, List.nil_append, List.cons_append, List.replicate, Option.map_some, beq_self_eq_true, Bool.true_or, Bool.or_true, Bool.false_or, Bool.or_false, Bool.false_and, Bool.and_false, Bool.true_and, Bool.and_true, reduceCtorEq, e_sub, e_mod, e_div, e_mul, e_addi, e_adds, e_addt, e_eqi, e_eqs, e_eqb, e_nei, e_nes, e_neb, e_lti, e_gti, e_lei, e_gei, e_lenl, e_lent, e_lens, e_isib, e_inw, e_ninw, e_inwt, e_ninwt, e_intb, e_ixn, e_ixtn, e_ix0, e_ix1, e_ix2, e_ix3, e_ixt0, e_ixt1, e_ixt2, e_ixt3, e_ixs, e_ixs0, szl, List.getElem?_cons_zero, List.getElem?_cons_succ, e_tupl, e_tupt, e_listl, e_listt, nodup0, nodup1, List.length_set, List.length_append, List.length_map, List.set_cons_zero, List.set_cons_succ, Nat.add_zero, Nat.zero_add, lp_nx, lp_rt, lp_bk, lp_ct, lp_x, ↓reduceIte, Nat.reduceAdd, Nat.reduceSub, Nat.reduceLeDiff, Nat.reduceLT, Nat.reduceMul, Nat.reduceDiv, Nat.reduceMod, Int.reduceMul, Int.reduceToNat, Int.reduceMod, Int.reduceDiv, Int.reduceOfNat, Int.reduceBEq, Nat.reduceEqDiff, Nat.reduceBEq, Int.reduceLT, Int.reduceLE, Int.reduceEq, Int.reduceNeg, Int.reduceAdd, Int.reduceSub, decide_eq_true_eq, ite_true, ite_false, and_self, or_self, and_true, true_and, Bool.or_self, Bool.and_self, ixn0, ixn1, ixn2, ixn3, Bool.or_eq_true, or_true, true_or, or_false, false_or, e_next, hz, hz1, hp, ek, ex0, ei, ef, ef2, at_sml, exk, ei2, at_sg, ex1, e_slto, e_slfrom, ek1, ht, hd, hs1, hs2]
        refine wl_map (xs := [_, _, _]) D.str (fun w => D.str (mkOf w)) (by simp [szl]) (fun w hw => ?_) ?_
        · have hw1 : w.length ≤ 100 := by
            simp only [List.mem_cons, List.not_mem_nil, or_false] at hw
            rcases hw with rfl | rfl | rfl
            · exact mk3 _ (by simp)
            · exact mk3 _ (by simp)
            · exact mk4 _
          simp only [↓n_ret, ↓n_opt, ↓n_eUn, ↓n_eBin, ↓n_eCons, ↓n_eNil, ↓n_eOp, ↓n_eTup, ↓n_rD, ↓n_rOp, ↓n_rLst, ↓n_eFz, ↓n_eVar, ↓n_eFull, ↓n_tFull, ↓n_rFull, ↓n_eTst, ↓n_eNot, ↓n_cAnd, ↓n_cOr, ↓n_cNot, ↓n_cYes, ↓n_eAnd, ↓n_eOr, ↓n_eChain, ↓n_eIf, ↓n_rIf, ↓n_oNone, ↓n_oSome, ↓n_eSl, ↓n_rSlL', ↓n_eMt, ↓n_rMt, ↓n_rBin, ↓n_rMv, ↓n_iLst, ↓n_iTupl, ↓n_iSeq, ↓n_iText, ↓n_iR1, ↓n_iR2, ↓n_iEn, ↓n_aNil, ↓n_aV, ↓n_aO, ↓n_callF, ↓n_rCall, ↓n_rMeth, ↓n_rMakeN, ↓n_fnOf, ↓n_sNext, ↓n_sBrk, ↓n_sCt, ↓n_sRetN, ↓n_sSeq, ↓n_sSet, ↓n_sAsg, ↓n_sIf, ↓n_sRet, ↓n_sDrop, ↓n_sFor, ↓n_sApp', ↓n_sExtA, ↓n_sSub, ↓n_eFld, ↓n_rLc, wc_t, wd_t, wd_f, kU_a, wo_some, wo_none, wo_ifn, wpe_eq, wse_eq, kr_a, krl_a, ku_a, kUn_v, kUn_x, kBin2_v, kBin2_x, kBin1_v, kBin1_x, kCons2_v, kCons2_x, kCons1_v, kCons1_x, kOp_v, kOp_x, kTup_v, kTup_x, kD_v, kD_x, kROp_v, kROp_x, kLst_v, kLst_x, kFz_v, kFz_x, kFull_v, kFull_x, kTFull_v, kTFull_x, n_rfx_ol, n_rfx_d, rfx_x, kTst_v, kTst_x, krn_a, kNot_v, kNot_x, wAnd_t, wAnd_f, kAnd_v, kAnd_x, wOr_t, wOr_f, kOr_v, kOr_x, kCNot_v, kCNot_x, wEAnd_t, wEAnd_f, kEAnd_v, kEAnd_x, wEOr_t, wEOr_f, kEOr_v, kEOr_x, tb_n, wChain_t, wChain_f, kCh3_a, kCh2_v, kCh2_x, kCh1_v, kCh1_x, wEIf_t, wEIf_f, kEIf_v, kEIf_x, wRIf_t, wRIf_f, kRIf_v, kRIf_x, kso_a, kSome_v, kSome_x, kSl3_v, kSl3_x, kSl2_v, kSl2_x, kSl1_v, kSl1_x, kcut_a, kRSl3_v, kRSl3_x, kRSl2_v, kRSl2_x, kRSl1_v, kRSl1_x, kMt2_v, kMt2_x, kMtu_a, kMt1_v, kMt1_x, kRMt2_v, kRMt2_x, kRMtu_a, kRMt1_v, kRMt1_x, kRBin2_v, kRBin2_x, kRBin1_v, kRBin1_x, kILst_v, kILst_x, kITup_v, kITup_x, kISeq_v, kISeq_x, ktx_a, kIText_v, kIText_x, kIL_v, kIL_x, kAV2_v, kAV2_x, kAV1_v, kAV1_x, kAO_v, kAO_x, isq_s, kAOu_a, kEnd2_a, kEnd_a, kCallU_a, kCall_a, kRcu_a, kRc_v, kRc_x, kMcu_a, kMc_v, kMc_x, kMf_a, kMo_a, kMeth_v, kFnU_a, ko_a, n_oend_rt, n_oend_nx, n_oend_x, kSeq_nx, kSeq_bk, kSeq_ct, kSeq_rt, kSeq_x, kSet_v, kSet_x, knx_a, kAsg_v, kAsg_x, wIf_t, wIf_f, kIf_v, kIf_x, kRet_v, kRet_x, kDrop_v, kDrop_x, kFor_v, kFor_x, kSt_a, kApp2_a, kApp_v, kApp_x, kAppU_a, kExt3_a, kExt2_a, kExt_v, kExt_x, kExtU_a, kSub5_a, kSub4_a, kSub3_a, kSub2_v, kSub2_x, kSubU_a, kSub1_v, kSub1_x, fld_o, e_tys, kLc_v, kLcU_a, kLcB_a, W_len, W_app, sgn_W, own_no, own_d, List.all_cons, List.all_nil, List.getD_cons_succ, List.getD_cons_zero, wipeS, backS, vr_d, vr_ol, vr_od, gt_0, gt_s, stt_0, stt_s, vwN_nil, vwN_d, vwN_ol, vwN_od, vwN_no, vwN_oi, ti_int, tl_l, tt_t, tq_t, tq_l, tx_s, mv_s, to_o, gA, pA, outs_nil, outs_cons, outs1_s, isD_d, gol_s, isL_ol, isL_d, gN_eq, gT_eq, gsN_eq, gsC_eq, some_bind', dR1_i, dR2_i, dEn_i, owns, vw_d, vw_ol, vw_oi, vw_od, wh_d, wh_ol, wh_od, wh_oi, imm, imms, decide_true, decide_false, Bool.not_true, Bool.not_false, if_true, if_false, List.length_cons, List.length_nil, List.map_cons, List.map_nil, List.append_nil, List.nil_append, List.cons_append, List.replicate, Option.map_some, beq_self_eq_true, Bool.true_or, Bool.or_true, Bool.false_or, Bool.or_false, Bool.false_and, Bool.and_false, Bool.true_and, Bool.and_true, reduceCtorEq, e_sub, e_mod, e_div, e_mul, e_addi, e_adds, e_addt, e_eqi, e_eqs, e_eqb, e_nei, e_nes, e_neb, e_lti, e_gti, e_lei, e_gei, e_lenl, e_lent, e_lens, e_isib, e_inw, e_ninw, e_inwt, e_ninwt, e_intb, e_ixn, e_ixtn, e_ix0, e_ix1, e_ix2, e_ix3, e_ixt0, e_ixt1, e_ixt2, e_ixt3, e_ixs, e_ixs0, szl, List.getElem?_cons_zero, List.getElem?_cons_succ, e_tupl, e_tupt, e_listl, e_listt, nodup0, nodup1, List.length_set, List.length_append, List.length_map, List.set_cons_zero, List.set_cons_succ, Nat.add_zero, Nat.zero_add, lp_nx, lp_rt, lp_bk, lp_ct, lp_x, ↓reduceIte, Nat.reduceAdd, Nat.reduceSub, Nat.reduceLeDiff, Nat.reduceLT, Nat.reduceMul, Nat.reduceDiv, Nat.reduceMod, Int.reduceMul, Int.reduceToNat, Int.reduceMod, Int.reduceDiv, Int.reduceOfNat, Int.reduceBEq, Nat.reduceEqDiff, Nat.reduceBEq, Int.reduceLT, Int.reduceLE, Int.reduceEq, Int.reduceNeg, Int.reduceAdd, Int.reduceSub, decide_eq_true_eq, ite_true, ite_false, and_self, or_self, and_true, true_and, Bool.or_self, Bool.and_self, ixn0, ixn1, ixn2, ixn3, Bool.or_eq_true, or_true, true_or, or_false, false_or, wf_of (markof_ok w hw1)]
        · obtain ⟨f1, f2, f3⟩ := fin _ (sml_sg (in_sml _)) (fun h => in_sml _)
          simp only [↓n_ret, ↓n_opt, ↓n_eUn, ↓n_eBin, ↓n_eCons, ↓n_eNil, ↓n_eOp, ↓n_eTup, ↓n_rD, ↓n_rOp, ↓n_rLst, ↓n_eFz, ↓n_eVar, ↓n_eFull, ↓n_tFull, ↓n_rFull, ↓n_eTst, ↓n_eNot, ↓n_cAnd, ↓n_cOr, ↓n_cNot, ↓n_cYes, ↓n_eAnd, ↓n_eOr, ↓n_eChain, ↓n_eIf, ↓n_rIf, ↓n_oNone, ↓n_oSome, ↓n_eSl, ↓n_rSlL', ↓n_eMt, ↓n_rMt, ↓n_rBin, ↓n_rMv, ↓n_iLst, ↓n_iTupl, ↓n_iSeq, ↓n_iText, ↓n_iR1, ↓n_iR2, ↓n_iEn, ↓n_aNil, ↓n_aV, ↓n_aO, ↓n_callF, ↓n_rCall, ↓n_rMeth, ↓n_rMakeN, ↓n_fnOf, ↓n_sNext, ↓n_sBrk, ↓n_sCt, ↓n_sRetN, ↓n_sSeq, ↓n_sSet, ↓n_sAsg, ↓n_sIf, ↓n_sRet, ↓n_sDrop, ↓n_sFor, ↓n_sApp', ↓n_sExtA, ↓n_sSub, ↓n_eFld, ↓n_rLc, wc_t, wd_t, wd_f, kU_a, wo_some, wo_none, wo_ifn, wpe_eq, wse_eq, kr_a, krl_a, ku_a, kUn_v, kUn_x, kBin2_v, kBin2_x, kBin1_v, kBin1_x, kCons2_v, kCons2_x, kCons1_v, kCons1_x, kOp_v, kOp_x, kTup_v, kTup_x, kD_v, kD_x, kROp_v, kROp_x, kLst_v, kLst_x, kFz_v, kFz_x, kFull_v, kFull_x, kTFull_v, kTFull_x, n_rfx_ol, n_rfx_d, rfx_x, kTst_v, kTst_x, krn_a, kNot_v, kNot_x, wAnd_t, wAnd_f, kAnd_v, kAnd_x, wOr_t, wOr_f, kOr_v, kOr_x, kCNot_v, kCNot_x, wEAnd_t, wEAnd_f, kEAnd_v, kEAnd_x, wEOr_t, wEOr_f, kEOr_v, kEOr_x, tb_n, wChain_t, wChain_f, kCh3_a, kCh2_v, kCh2_x, kCh1_v, kCh1_x, wEIf_t, wEIf_f, kEIf_v, kEIf_x, wRIf_t, wRIf_f, kRIf_v, kRIf_x, kso_a, kSome_v, kSome_x, kSl3_v, kSl3_x, kSl2_v, kSl2_x, kSl1_v, kSl1_x, kcut_a, kRSl3_v, kRSl3_x, kRSl2_v, kRSl2_x, kRSl1_v, kRSl1_x, kMt2_v, kMt2_x, kMtu_a, kMt1_v, kMt1_x, kRMt2_v, kRMt2_x, kRMtu_a, kRMt1_v, kRMt1_x, kRBin2_v, kRBin2_x, kRBin1_v, kRBin1_x, kILst_v, kILst_x, kITup_v, kITup_x, kISeq_v, kISeq_x, ktx_a, kIText_v, kIText_x, kIL_v, kIL_x, kAV2_v, kAV2_x, kAV1_v, kAV1_x, kAO_v, kAO_x, isq_s, kAOu_a, kEnd2_a, kEnd_a, kCallU_a, kCall_a, kRcu_a, kRc_v, kRc_x, kMcu_a, kMc_v, kMc_x, kMf_a, kMo_a, kMeth_v, kFnU_a, ko_a, n_oend_rt, n_oend_nx, n_oend_x, kSeq_nx, kSeq_bk, kSeq_ct, kSeq_rt, kSeq_x, kSet_v, kSet_x, knx_a, kAsg_v, kAsg_x, wIf_t, wIf_f, kIf_v, kIf_x, kRet_v, kRet_x, kDrop_v, kDrop_x, kFor_v, kFor_x, kSt_a, kApp2_a, kApp_v, kApp_x, kAppU_a, kExt3_a, kExt2_a, kExt_v, kExt_x, kExtU_a, kSub5_a, kSub4_a, kSub3_a, kSub2_v, kSub2_x, kSubU_a, kSub1_v, kSub1_x, fld_o, e_tys, kLc_v, kLcU_a, kLcB_a, W_len, W_app, sgn_W, own_no, own_d, List.all_cons, List.all_nil, List.getD_cons_succ, List.getD_cons_zero, wipeS, backS, vr_d, vr_ol, vr_od, gt_0, gt_s, stt_0, stt_s, vwN_nil, vwN_d, vwN_ol, vwN_od, vwN_no, vwN_oi, ti_int, tl_l, tt_t, tq_t, tq_l, tx_s, mv_s, to_o, gA, pA, outs_nil, outs_cons, outs1_s, isD_d, gol_s, isL_ol, isL_d, gN_eq, gT_eq, gsN_eq, gsC_eq, some_bind', dR1_i, dR2_i, dEn_i, owns, vw_d, vw_ol, vw_oi, vw_od, wh_d, wh_ol, wh_od, wh_oi, imm, imms, decide_true, decide_false, Bool.not_true, Bool.not_false, if_true, if_false, List.length_cons, List.length_nil, List.map_cons, List.map_nil, List.append_nil, List.nil_append, List.cons_append, List.replicate, Option.map_some, beq_self_eq_true, Bool.true_or, Bool.or_true, Bool.false_or, Bool.or_false, Bool.false_and, Bool.and_false, Bool.true_and, Bool.and_true, reduceCtorEq, e_sub, e_mod, e_div, e_mul, e_addi, e_adds, e_addt, e_eqi, e_eqs, e_eqb, e_nei, e_nes, e_neb, e_lti, e_gti, e_lei, e_gei, e_lenl, e_lent, e_lens, e_isib, e_inw, e_ninw, e_inwt, e_ninwt, e_intb, e_ixn, e_ixtn, e_ix0, e_ix1, e_ix2, e_ix3, e_ixt0, e_ixt1, e_ixt2, e_ixt3, e_ixs, e_ixs0, szl, List.getElem?_cons_zero, List.getElem?_cons_succ, e_tupl, e_tupt, e_listl, e_listt, nodup0, nodup1, List.length_set, List.length_append, List.length_map, List.set_cons_zero, List.set_cons_succ, Nat.add_zero, Nat.zero_add, lp_nx, lp_rt, lp_bk, lp_ct, lp_x, ↓reduceIte, Nat.reduceAdd, Nat.reduceSub, Nat.reduceLeDiff, Nat.reduceLT, Nat.reduceMul, Nat.reduceDiv, Nat.reduceMod, Int.reduceMul, Int.reduceToNat, Int.reduceMod, Int.reduceDiv, Int.reduceOfNat, Int.reduceBEq, Nat.reduceEqDiff, Nat.reduceBEq, Int.reduceLT, Int.reduceLE, Int.reduceEq, Int.reduceNeg, Int.reduceAdd, Int.reduceSub, decide_eq_true_eq, ite_true, ite_false, and_self, or_self, and_true, true_and, Bool.or_self, Bool.and_self, ixn0, ixn1, ixn2, ixn3, Bool.or_eq_true, or_true, true_or, or_false, false_or]
          exact ⟨_, _, _, _, _, f1, f2, f3, rfl, rfl⟩
end K23

-- text T4
set_option Elab.async false
set_option linter.all false
set_option maxRecDepth 100000
set_option maxHeartbeats 2000000
namespace K23
open PySem hiding ret plain
open Fz hiding tb
theorem isP_push : ∀ t, pl t → ∀ d, isP (pushT d t) = true := by
  intro t
  induction t with
  | yes => intro _ d; cases d <;> rfl
  | no => intro _ d; cases d <;> rfl
  | now m => intro _ d; cases d <;> rfl
  | one w t ih =>
    intro h d
    have g := ih h.2
    have hw := h.1
    cases w with
    | nt => exact g _
    | nx => cases d <;> simp [pushT, dual1, isP, g] <;> decide +kernel
    | bf => cases d <;> simp [pushT, dual1, isP, g] <;> decide +kernel
    | er => cases d <;> simp [pushT, dual1, isP, g] <;> decide +kernel
    | _ => simp at hw
  | two w a b iha ihb =>
    intro h d
    have ga := iha h.2.1
    have gb := ihb h.2.2
    have hw := h.1
    cases w with
    | th => exact absurd rfl hw
    | _ => all_goals (cases d <;> simp [pushT, dual2, isP, ga, gb])
theorem to_tree {t : Tr} (h : dp t ≤ 40) {Q : Oc R → Sl → Prop} {s : Sl} : Fz.to (ob t) (kMo 1 (tab_tree 40) aNil Q s) = Q (.v (.d (dt t))) s := by
  have e := tree_q t h (fa := Fz.ret (ob t)) (st := s) (s := s) rfl
  have e2 : wp (rMeth 1 (tab_tree 40) (Fz.ret (ob t)) aNil) s Q = Q (.v (.d (dt t))) s := by unfold wp; rw [e]
  rw [n_rMeth, n_ret, kMeth_v] at e2
  exact e2
theorem law_ok : Fz.LawDoes F_law := by
  intro ns hns
  have h : wf F_law [.d (.lst (ns.map D.int))] (fun o rs => o = .v (.d (.bl true))) := by
    unfold F_law
    have hb := begin_ok ns
    obtain ⟨o1, rs1, e1, a1, m1, m2, m3, c1, k1, k2, k3, rfl, rfl⟩ := wf_get (marks_ok ((ns.length : Int) + 7) ns 0)
    have e1 : F__law_marks [st ((ns.length : Int) + 7) ns 0] = _ := e1
    simp only [↓n_ret, ↓n_opt, ↓n_eUn, ↓n_eBin, ↓n_eCons, ↓n_eNil, ↓n_eOp, ↓n_eTup, ↓n_rD, ↓n_rOp, ↓n_rLst, ↓n_eFz, ↓n_eVar, ↓n_eFull, ↓n_tFull, ↓n_rFull, ↓n_eTst, ↓n_eNot, ↓n_cAnd, ↓n_cOr, ↓n_cNot, ↓n_cYes, ↓n_eAnd, ↓n_eOr, ↓n_eChain, ↓n_eIf, ↓n_rIf, ↓n_oNone, ↓n_oSome, ↓n_eSl, ↓n_rSlL', ↓n_eMt, ↓n_rMt, ↓n_rBin, ↓n_rMv, ↓n_iLst, ↓n_iTupl, ↓n_iSeq, ↓n_iText, ↓n_iR1, ↓n_iR2, ↓n_iEn, ↓n_aNil, ↓n_aV, ↓n_aO, ↓n_callF, ↓n_rCall, ↓n_rMeth, ↓n_rMakeN, ↓n_fnOf, ↓n_sNext, ↓n_sBrk, ↓n_sCt, ↓n_sRetN, ↓n_sSeq, ↓n_sSet, ↓n_sAsg, ↓n_sIf, ↓n_sRet, ↓n_sDrop, ↓n_sFor, ↓n_sApp', ↓n_sExtA, ↓n_sSub, ↓n_eFld, ↓n_rLc, wc_t, wd_t, wd_f, kU_a, wo_some, wo_none, wo_ifn, wpe_eq, wse_eq, kr_a, krl_a, ku_a, kUn_v, kUn_x, kBin2_v, kBin2_x, kBin1_v, kBin1_x, kCons2_v, kCons2_x, kCons1_v, kCons1_x, kOp_v, kOp_x, kTup_v, kTup_x, kD_v, kD_x, kROp_v, kROp_x, kLst_v, kLst_x, kFz_v, kFz_x, kFull_v, kFull_x, kTFull_v, kTFull_x, n_rfx_ol, n_rfx_d, rfx_x, kTst_v, kTst_x, krn_a, kNot_v, kNot_x, wAnd_t, wAnd_f, kAnd_v, kAnd_x, wOr_t, wOr_f, kOr_v, kOr_x, kCNot_v, kCNot_x, wEAnd_t, wEAnd_f, kEAnd_v, kEAnd_x, wEOr_t, wEOr_f, kEOr_v, kEOr_x, tb_n, wChain_t, wChain_f, kCh3_a, kCh2_v, kCh2_x, kCh1_v, kCh1_x, wEIf_t, wEIf_f, kEIf_v, kEIf_x, wRIf_t, wRIf_f, kRIf_v, kRIf_x, kso_a, kSome_v, kSome_x, kSl3_v, kSl3_x, kSl2_v, kSl2_x, kSl1_v, kSl1_x, kcut_a, kRSl3_v, kRSl3_x, kRSl2_v, kRSl2_x, kRSl1_v, kRSl1_x, kMt2_v, kMt2_x, kMtu_a, kMt1_v, kMt1_x, kRMt2_v, kRMt2_x, kRMtu_a, kRMt1_v, kRMt1_x, kRBin2_v, kRBin2_x, kRBin1_v, kRBin1_x, kILst_v, kILst_x, kITup_v, kITup_x, kISeq_v, kISeq_x, ktx_a, kIText_v, kIText_x, kIL_v, kIL_x, kAV2_v, kAV2_x, kAV1_v, kAV1_x, kAO_v, kAO_x, isq_s, kAOu_a, kEnd2_a, kEnd_a, kCallU_a, kCall_a, kRcu_a, kRc_v, kRc_x, kMcu_a, kMc_v, kMc_x, kMf_a, kMo_a, kMeth_v, kFnU_a, ko_a, n_oend_rt, n_oend_nx, n_oend_x, kSeq_nx, kSeq_bk, kSeq_ct, kSeq_rt, kSeq_x, kSet_v, kSet_x, knx_a, kAsg_v, kAsg_x, wIf_t, wIf_f, kIf_v, kIf_x, kRet_v, kRet_x, kDrop_v, kDrop_x, kFor_v, kFor_x, kSt_a, kApp2_a, kApp_v, kApp_x, kAppU_a, kExt3_a, kExt2_a, kExt_v, kExt_x, kExtU_a, kSub5_a, kSub4_a, kSub3_a, kSub2_v, kSub2_x, kSubU_a, kSub1_v, kSub1_x, fld_o, e_tys, kLc_v, kLcU_a, kLcB_a, W_len, W_app, sgn_W, own_no, own_d, List.all_cons, List.all_nil, List.getD_cons_succ, List.getD_cons_zero, wipeS, backS, vr_d, vr_ol, vr_od, gt_0, gt_s, stt_0, stt_s, vwN_nil, vwN_d, vwN_ol, vwN_od, vwN_no, vwN_oi, ti_int, tl_l, tt_t, tq_t, tq_l, tx_s, mv_s, to_o, gA, pA, outs_nil, outs_cons, outs1_s, isD_d, gol_s, isL_ol, isL_d, gN_eq, gT_eq, gsN_eq, gsC_eq, some_bind', dR1_i, dR2_i, dEn_i, owns, vw_d, vw_ol, vw_oi, vw_od, wh_d, wh_ol, wh_od, wh_oi, imm, imms, decide_true, decide_false, Bool.not_true, Bool.not_false, if_true, if_false, List.length_cons, List.length_nil, List.map_cons, List.map_nil, List.append_nil, List.nil_append, List.cons_append, List.replicate, Option.map_some, beq_self_eq_true, Bool.true_or, Bool.or_true, Bool.false_or, Bool.or_false, Bool.false_and, Bool.and_false, Bool.true_and, Bool.and_true, reduceCtorEq, e_sub, e_mod, e_div, e_mul, e_addi, e_adds, e_addt, e_eqi, e_eqs, e_eqb, e_nei, e_nes, e_neb, e_lti, e_gti, e_lei, e_gei, e_lenl, e_lent, e_lens, e_isib, e_inw, e_ninw, e_inwt, e_ninwt, e_intb, e_ixn, e_ixtn, e_ix0, e_ix1, e_ix2, e_ix3, e_ixt0, e_ixt1, e_ixt2, e_ixt3, e_ixs, e_ixs0, szl, List.getElem?_cons_zero, List.getElem?_cons_succ, e_tupl, e_tupt, e_listl, e_listt, nodup0, nodup1, List.length_set, List.length_append, List.length_map, List.set_cons_zero, List.set_cons_succ, Nat.add_zero, Nat.zero_add, lp_nx, lp_rt, lp_bk, lp_ct, lp_x, ↓reduceIte, Nat.reduceAdd, Nat.reduceSub, Nat.reduceLeDiff, Nat.reduceLT, Nat.reduceMul, Nat.reduceDiv, Nat.reduceMod, Int.reduceMul, Int.reduceToNat, Int.reduceMod, Int.reduceDiv, Int.reduceOfNat, Int.reduceBEq, Nat.reduceEqDiff, Nat.reduceBEq, Int.reduceLT, Int.reduceLE, Int.reduceEq, Int.reduceNeg, Int.reduceAdd, Int.reduceSub, decide_eq_true_eq, ite_true, ite_false, and_self, or_self, and_true, true_and, Bool.or_self, Bool.and_self, ixn0, ixn1, ixn2, ixn3, Bool.or_eq_true, or_true, true_or, or_false, false_or, b_law, wf_of hb, wf_of e1, e_next]
    obtain ⟨a2, c2, t, p1, p2, p3, p4⟩ := draw_ok ns [m1, m2, m3] (by
      intro m hm
      simp only [List.mem_cons, List.not_mem_nil, or_false] at hm
      rcases hm with rfl | rfl | rfl <;> exact good_of _ (by assumption)) (by simp) 40 (3 + nxR a1 ns c1 % 10) 6 (nxA a1 ns c1) ((c1 + 1 : Nat) : Int) (by omega) (by decide) (by decide)
    have p4 : F__law_tree 40 [st (nxA a1 ns c1) ns ((c1 + 1 : Nat) : Int), .d (.lst [.str m1, .str m2, .str m3]), .d (.int (3 + nxR a1 ns c1 % 10)), .d (.int 6)] = _ := p4
    have d1 : dp t ≤ 6 := by omega
    have hT := pushed_ok t (by omega) (ok_push _ _ (ok_plain _ p2)) (size_small _ (by have := dp_push (plainT t) false; have := dp_plain t; omega))
    have hS := statement_ok t p2 (by omega) (size_small _ (by omega))
    have hdT : dp (pushT false (plainT t)) ≤ 13 := by have := dp_push (plainT t) false; have := dp_plain t; omega
    have hokT : ok (pushT false (plainT t)) := ok_push _ _ (ok_plain _ p2)
    have hsm : smallI 3 = true := rfl
    have hp : isP (pushT false (plainT t)) = true := isP_push _ (pl_plain t) false
    simp only [↓n_ret, ↓n_opt, ↓n_eUn, ↓n_eBin, ↓n_eCons, ↓n_eNil, ↓n_eOp, ↓n_eTup, ↓n_rD, ↓n_rOp, ↓n_rLst, ↓n_eFz, ↓n_eVar, ↓n_eFull, ↓n_tFull, ↓n_rFull, ↓n_eTst, ↓n_eNot, ↓n_cAnd, ↓n_cOr, ↓n_cNot, ↓n_cYes, ↓n_eAnd, ↓n_eOr, ↓n_eChain, ↓n_eIf, ↓n_rIf, ↓n_oNone, ↓n_oSome, ↓n_eSl, ↓n_rSlL', ↓n_eMt, ↓n_rMt, ↓n_rBin, ↓n_rMv, ↓n_iLst, ↓n_iTupl, ↓n_iSeq, ↓n_iText, ↓n_iR1, ↓n_iR2, ↓n_iEn, ↓n_aNil, ↓n_aV, ↓n_aO, ↓n_callF, ↓n_rCall, ↓n_rMeth, ↓n_rMakeN, ↓n_fnOf, ↓n_sNext, ↓n_sBrk, ↓n_sCt, ↓n_sRetN, ↓n_sSeq, ↓n_sSet, ↓n_sAsg, ↓n_sIf, ↓n_sRet, ↓n_sDrop, ↓n_sFor, ↓n_sApp', ↓n_sExtA, ↓n_sSub, ↓n_eFld, ↓n_rLc, wc_t, wd_t, wd_f, kU_a, wo_some, wo_none, wo_ifn, wpe_eq, wse_eq, kr_a, krl_a, ku_a, kUn_v, kUn_x, kBin2_v, kBin2_x, kBin1_v, kBin1_x, kCons2_v, kCons2_x, kCons1_v, kCons1_x, kOp_v, kOp_x, kTup_v, kTup_x, kD_v, kD_x, kROp_v, kROp_x, kLst_v, kLst_x, kFz_v, kFz_x, kFull_v, kFull_x, kTFull_v, kTFull_x, n_rfx_ol, n_rfx_d, rfx_x, kTst_v, kTst_x, krn_a, kNot_v, kNot_x, wAnd_t, wAnd_f, kAnd_v, kAnd_x, wOr_t, wOr_f, kOr_v, kOr_x, kCNot_v, kCNot_x, wEAnd_t, wEAnd_f, kEAnd_v, kEAnd_x, wEOr_t, wEOr_f, kEOr_v, kEOr_x, tb_n, wChain_t, wChain_f, kCh3_a, kCh2_v, kCh2_x, kCh1_v, kCh1_x, wEIf_t, wEIf_f, kEIf_v, kEIf_x, wRIf_t, wRIf_f, kRIf_v, kRIf_x, kso_a, kSome_v, kSome_x, kSl3_v, kSl3_x, kSl2_v, kSl2_x, kSl1_v, kSl1_x, kcut_a, kRSl3_v, kRSl3_x, kRSl2_v, kRSl2_x, kRSl1_v, kRSl1_x, kMt2_v, kMt2_x, kMtu_a, kMt1_v, kMt1_x, kRMt2_v, kRMt2_x, kRMtu_a, kRMt1_v, kRMt1_x, kRBin2_v, kRBin2_x, kRBin1_v, kRBin1_x, kILst_v, kILst_x, kITup_v, kITup_x, kISeq_v, kISeq_x, ktx_a, kIText_v, kIText_x, kIL_v, kIL_x, kAV2_v, kAV2_x, kAV1_v, kAV1_x, kAO_v, kAO_x, isq_s, kAOu_a, kEnd2_a, kEnd_a, kCallU_a, kCall_a, kRcu_a, kRc_v, kRc_x, kMcu_a, kMc_v, kMc_x, kMf_a, kMo_a, kMeth_v, kFnU_a, ko_a, n_oend_rt, n_oend_nx, n_oend_x, kSeq_nx, kSeq_bk, kSeq_ct, kSeq_rt, kSeq_x, kSet_v, kSet_x, knx_a, kAsg_v, kAsg_x, wIf_t, wIf_f, kIf_v, kIf_x, kRet_v, kRet_x, kDrop_v, kDrop_x, kFor_v, kFor_x, kSt_a, kApp2_a, kApp_v, kApp_x, kAppU_a, kExt3_a, kExt2_a, kExt_v, kExt_x, kExtU_a, kSub5_a, kSub4_a, kSub3_a, kSub2_v, kSub2_x, kSubU_a, kSub1_v, kSub1_x, fld_o, e_tys, kLc_v, kLcU_a, kLcB_a, W_len, W_app, sgn_W, own_no, own_d, List.all_cons, List.all_nil, List.getD_cons_succ, List.getD_cons_zero, wipeS, backS, vr_d, vr_ol, vr_od, gt_0, gt_s, stt_0, stt_s, vwN_nil, vwN_d, vwN_ol, vwN_od, vwN_no, vwN_oi, ti_int, tl_l, tt_t, tq_t, tq_l, tx_s, mv_s, to_o, gA, pA, outs_nil, outs_cons, outs1_s, isD_d, gol_s, isL_ol, isL_d, gN_eq, gT_eq, gsN_eq, gsC_eq, some_bind', dR1_i, dR2_i, dEn_i, owns, vw_d, vw_ol, vw_oi, vw_od, wh_d, wh_ol, wh_od, wh_oi, imm, imms, decide_true, decide_false, Bool.not_true, Bool.not_false, if_true, if_false, List.length_cons, List.length_nil, List.map_cons, List.map_nil, List.append_nil, List.nil_append, List.cons_append, List.replicate, Option.map_some, beq_self_eq_true, Bool.true_or, Bool.or_true, Bool.false_or, Bool.or_false, Bool.false_and, Bool.and_false, Bool.true_and, Bool.and_true, reduceCtorEq, e_sub, e_mod, e_div, e_mul, e_addi, e_adds, e_addt, e_eqi, e_eqs, e_eqb, e_nei, e_nes, e_neb, e_lti, e_gti, e_lei, e_gei, e_lenl, e_lent, e_lens, e_isib, e_inw, e_ninw, e_inwt, e_ninwt, e_intb, e_ixn, e_ixtn, e_ix0, e_ix1, e_ix2, e_ix3, e_ixt0, e_ixt1, e_ixt2, e_ixt3, e_ixs, e_ixs0, szl, List.getElem?_cons_zero, List.getElem?_cons_succ, e_tupl, e_tupt, e_listl, e_listt, nodup0, nodup1, List.length_set, List.length_append, List.length_map, List.set_cons_zero, List.set_cons_succ, Nat.add_zero, Nat.zero_add, lp_nx, lp_rt, lp_bk, lp_ct, lp_x, ↓reduceIte, Nat.reduceAdd, Nat.reduceSub, Nat.reduceLeDiff, Nat.reduceLT, Nat.reduceMul, Nat.reduceDiv, Nat.reduceMod, Int.reduceMul, Int.reduceToNat, Int.reduceMod, Int.reduceDiv, Int.reduceOfNat, Int.reduceBEq, Nat.reduceEqDiff, Nat.reduceBEq, Int.reduceLT, Int.reduceLE, Int.reduceEq, Int.reduceNeg, Int.reduceAdd, Int.reduceSub, decide_eq_true_eq, ite_true, ite_false, and_self, or_self, and_true, true_and, Bool.or_self, Bool.and_self, ixn0, ixn1, ixn2, ixn3, Bool.or_eq_true, or_true, true_or, or_false, false_or, wf_of p4, wf_of hS, wf_of hT, vw_ob, wh_ob, to_tree (show dp (pushT false (plainT t)) ≤ 40 by omega), hsm]
    generalize pushT false (plainT t) = T at *
    refine ws_for (fun ds s => ∃ a c x4 x5 x6, 0 ≤ c ∧ s = [some (R.d (.lst (ns.map D.int))), some (st a ns c), some (R.d (.lst [.str m1, .str m2, .str m3])), some (R.d (dt T)), x4, x5, x6]) ⟨_, _, _, _, _, p1, rfl⟩ ?_ ?_
    · rintro d r s ⟨a, c, x4, x5, x6, hc, rfl⟩
      obtain ⟨n, rfl⟩ : ∃ n : Nat, c = n := ⟨c.toNat, by omega⟩
      obtain ⟨u, a', w1, w2, w3⟩ := spoilt_ok (nxR (nxA a ns n) ns (n + 1)) (nxR_pos _ _ _) T hokT 40 (by omega) (nxR a ns n % 12)
      have hSu := statement_ok u w1 (by omega) (size_small _ (by omega))
      have hPu := ispushed_ok u (by omega)
      have hLu := lawp_ok u 40 (by omega)
      simp only [↓n_ret, ↓n_opt, ↓n_eUn, ↓n_eBin, ↓n_eCons, ↓n_eNil, ↓n_eOp, ↓n_eTup, ↓n_rD, ↓n_rOp, ↓n_rLst, ↓n_eFz, ↓n_eVar, ↓n_eFull, ↓n_tFull, ↓n_rFull, ↓n_eTst, ↓n_eNot, ↓n_cAnd, ↓n_cOr, ↓n_cNot, ↓n_cYes, ↓n_eAnd, ↓n_eOr, ↓n_eChain, ↓n_eIf, ↓n_rIf, ↓n_oNone, ↓n_oSome, ↓n_eSl, ↓n_rSlL', ↓n_eMt, ↓n_rMt, ↓n_rBin, ↓n_rMv, ↓n_iLst, ↓n_iTupl, ↓n_iSeq, ↓n_iText, ↓n_iR1, ↓n_iR2, ↓n_iEn, ↓n_aNil, ↓n_aV, ↓n_aO, ↓n_callF, ↓n_rCall, ↓n_rMeth, ↓n_rMakeN, ↓n_fnOf, ↓n_sNext, ↓n_sBrk, ↓n_sCt, ↓n_sRetN, ↓n_sSeq, ↓n_sSet, ↓n_sAsg, ↓n_sIf, ↓n_sRet, ↓n_sDrop, ↓n_sFor, ↓n_sApp', ↓n_sExtA, ↓n_sSub, ↓n_eFld, ↓n_rLc, wc_t, wd_t, wd_f, kU_a, wo_some, wo_none, wo_ifn, wpe_eq, wse_eq, kr_a, krl_a, ku_a, kUn_v, kUn_x, kBin2_v, kBin2_x, kBin1_v, kBin1_x, kCons2_v, kCons2_x, kCons1_v, kCons1_x, kOp_v, kOp_x, kTup_v, kTup_x, kD_v, kD_x, kROp_v, kROp_x, kLst_v, kLst_x, kFz_v, kFz_x, kFull_v, kFull_x, kTFull_v, kTFull_x, n_rfx_ol, n_rfx_d, rfx_x, kTst_v, kTst_x, krn_a, kNot_v, kNot_x, wAnd_t, wAnd_f, kAnd_v, kAnd_x, wOr_t, wOr_f, kOr_v, kOr_x, kCNot_v, kCNot_x, wEAnd_t, wEAnd_f, kEAnd_v, kEAnd_x, wEOr_t, wEOr_f, kEOr_v, kEOr_x, tb_n, wChain_t, wChain_f, kCh3_a, kCh2_v, kCh2_x, kCh1_v, kCh1_x, wEIf_t, wEIf_f, kEIf_v, kEIf_x, wRIf_t, wRIf_f, kRIf_v, kRIf_x, kso_a, kSome_v, kSome_x, kSl3_v, kSl3_x, kSl2_v, kSl2_x, kSl1_v, kSl1_x, kcut_a, kRSl3_v, kRSl3_x, kRSl2_v, kRSl2_x, kRSl1_v, kRSl1_x, kMt2_v, kMt2_x, kMtu_a, kMt1_v, kMt1_x, kRMt2_v, kRMt2_x, kRMtu_a, kRMt1_v, kRMt1_x, kRBin2_v, kRBin2_x, kRBin1_v, kRBin1_x, kILst_v, kILst_x, kITup_v, kITup_x, kISeq_v, kISeq_x, ktx_a, kIText_v, kIText_x, kIL_v, kIL_x, kAV2_v, kAV2_x, kAV1_v, kAV1_x, kAO_v, kAO_x, isq_s, kAOu_a, kEnd2_a, kEnd_a, kCallU_a, kCall_a, kRcu_a, kRc_v, kRc_x, kMcu_a, kMc_v, kMc_x, kMf_a, kMo_a, kMeth_v, kFnU_a, ko_a, n_oend_rt, n_oend_nx, n_oend_x, kSeq_nx, kSeq_bk, kSeq_ct, kSeq_rt, kSeq_x, kSet_v, kSet_x, knx_a, kAsg_v, kAsg_x, wIf_t, wIf_f, kIf_v, kIf_x, kRet_v, kRet_x, kDrop_v, kDrop_x, kFor_v, kFor_x, kSt_a, kApp2_a, kApp_v, kApp_x, kAppU_a, kExt3_a, kExt2_a, kExt_v, kExt_x, kExtU_a, kSub5_a, kSub4_a, kSub3_a, kSub2_v, kSub2_x, kSubU_a, kSub1_v, kSub1_x, fld_o, e_tys, kLc_v, kLcU_a, kLcB_a, W_len, W_app, sgn_W, own_no, own_d, List.all_cons, List.all_nil, List.getD_cons_succ, List.getD_cons_zero, wipeS, backS, vr_d, vr_ol, vr_od, gt_0, gt_s, stt_0, stt_s, vwN_nil, vwN_d, vwN_ol, vwN_od, vwN_no, vwN_oi, ti_int, tl_l, tt_t, tq_t, tq_l, tx_s, mv_s, to_o, gA, pA, outs_nil, outs_cons, outs1_s, isD_d, gol_s, isL_ol, isL_d, gN_eq, gT_eq, gsN_eq, gsC_eq, some_bind', dR1_i, dR2_i, dEn_i, owns, vw_d, vw_ol, vw_oi, vw_od, wh_d, wh_ol, wh_od, wh_oi, imm, imms, decide_true, decide_false, Bool.not_true, Bool.not_false, if_true, if_false, List.length_cons, List.length_nil, List.map_cons, List.map_nil, List.append_nil, List.nil_append, List.cons_append, List.replicate, Option.map_some, beq_self_eq_true, Bool.true_or, Bool.or_true, Bool.false_or, Bool.or_false, Bool.false_and, Bool.and_false, Bool.true_and, Bool.and_true, reduceCtorEq, e_sub, e_mod, e_div, e_mul, e_addi, e_adds, e_addt, e_eqi, e_eqs, e_eqb, e_nei, e_nes, e_neb, e_lti, e_gti, e_lei, e_gei, e_lenl, e_lent, e_lens, e_isib, e_inw, e_ninw, e_inwt, e_ninwt, e_intb, e_ixn, e_ixtn, e_ix0, e_ix1, e_ix2, e_ix3, e_ixt0, e_ixt1, e_ixt2, e_ixt3, e_ixs, e_ixs0, szl, List.getElem?_cons_zero, List.getElem?_cons_succ, e_tupl, e_tupt, e_listl, e_listt, nodup0, nodup1, List.length_set, List.length_append, List.length_map, List.set_cons_zero, List.set_cons_succ, Nat.add_zero, Nat.zero_add, lp_nx, lp_rt, lp_bk, lp_ct, lp_x, ↓reduceIte, Nat.reduceAdd, Nat.reduceSub, Nat.reduceLeDiff, Nat.reduceLT, Nat.reduceMul, Nat.reduceDiv, Nat.reduceMod, Int.reduceMul, Int.reduceToNat, Int.reduceMod, Int.reduceDiv, Int.reduceOfNat, Int.reduceBEq, Nat.reduceEqDiff, Nat.reduceBEq, Int.reduceLT, Int.reduceLE, Int.reduceEq, Int.reduceNeg, Int.reduceAdd, Int.reduceSub, decide_eq_true_eq, ite_true, ite_false, and_self, or_self, and_true, true_and, Bool.or_self, Bool.and_self, ixn0, ixn1, ixn2, ixn3, Bool.or_eq_true, or_true, true_or, or_false, false_or, e_next, wf_of w3, wf_of hSu, wf_of hPu, wf_of hLu, vw_ob, wh_ob]
      exact ⟨_, _, _, _, _, by omega, rfl⟩
    · rintro s ⟨a, c, x4, x5, x6, hc, rfl⟩
      have hS := statement_ok T hokT (by omega) (size_small _ (by omega))
      have hPu := ispushed_ok T (by omega)
      simp only [↓n_ret, ↓n_opt, ↓n_eUn, ↓n_eBin, ↓n_eCons, ↓n_eNil, ↓n_eOp, ↓n_eTup, ↓n_rD, ↓n_rOp, ↓n_rLst, ↓n_eFz, ↓n_eVar, ↓n_eFull, ↓n_tFull, ↓n_rFull, ↓n_eTst, ↓n_eNot, ↓n_cAnd, ↓n_cOr, ↓n_cNot, ↓n_cYes, ↓n_eAnd, ↓n_eOr, ↓n_eChain, ↓n_eIf, ↓n_rIf, ↓n_oNone, ↓n_oSome, ↓n_eSl, ↓n_rSlL', ↓n_eMt, ↓n_rMt, ↓n_rBin, ↓n_rMv, ↓n_iLst, ↓n_iTupl, ↓n_iSeq, ↓n_iText, ↓n_iR1, ↓n_iR2, ↓n_iEn, ↓n_aNil, ↓n_aV, ↓n_aO, ↓n_callF, ↓n_rCall, ↓n_rMeth, ↓n_rMakeN, ↓n_fnOf, ↓n_sNext, ↓n_sBrk, ↓n_sCt, ↓n_sRetN, ↓n_sSeq, ↓n_sSet, ↓n_sAsg, ↓n_sIf, ↓n_sRet, ↓n_sDrop, ↓n_sFor, ↓n_sApp', ↓n_sExtA, ↓n_sSub, ↓n_eFld, ↓n_rLc, wc_t, wd_t, wd_f, kU_a, wo_some, wo_none, wo_ifn, wpe_eq, wse_eq, kr_a, krl_a, ku_a, kUn_v, kUn_x, kBin2_v, kBin2_x, kBin1_v, kBin1_x, kCons2_v, kCons2_x, kCons1_v, kCons1_x, kOp_v, kOp_x, kTup_v, kTup_x, kD_v, kD_x, kROp_v, kROp_x, kLst_v, kLst_x, kFz_v, kFz_x, kFull_v, kFull_x, kTFull_v, kTFull_x, n_rfx_ol, n_rfx_d, rfx_x, kTst_v, kTst_x, krn_a, kNot_v, kNot_x, wAnd_t, wAnd_f, kAnd_v, kAnd_x, wOr_t, wOr_f, kOr_v, kOr_x, kCNot_v, kCNot_x, wEAnd_t, wEAnd_f, kEAnd_v, kEAnd_x, wEOr_t, wEOr_f, kEOr_v, kEOr_x, tb_n, wChain_t, wChain_f, kCh3_a, kCh2_v, kCh2_x, kCh1_v, kCh1_x, wEIf_t, wEIf_f, kEIf_v, kEIf_x, wRIf_t, wRIf_f, kRIf_v, kRIf_x, kso_a, kSome_v, kSome_x, kSl3_v, kSl3_x, kSl2_v, kSl2_x, kSl1_v, kSl1_x, kcut_a, kRSl3_v, kRSl3_x, kRSl2_v, kRSl2_x, kRSl1_v, kRSl1_x, kMt2_v, kMt2_x, kMtu_a, kMt1_v, kMt1_x, kRMt2_v, kRMt2_x, kRMtu_a, kRMt1_v, kRMt1_x, kRBin2_v, kRBin2_x, kRBin1_v, kRBin1_x, kILst_v, kILst_x, kITup_v, kITup_x, kISeq_v, kISeq_x, ktx_a, kIText_v, kIText_x, kIL_v, kIL_x, kAV2_v, kAV2_x, kAV1_v, kAV1_x, kAO_v, kAO_x, isq_s, kAOu_a, kEnd2_a, kEnd_a, kCallU_a, kCall_a, kRcu_a, kRc_v, kRc_x, kMcu_a, kMc_v, kMc_x, kMf_a, kMo_a, kMeth_v, kFnU_a, ko_a, n_oend_rt, n_oend_nx, n_oend_x, kSeq_nx, kSeq_bk, kSeq_ct, kSeq_rt, kSeq_x, kSet_v, kSet_x, knx_a, kAsg_v, kAsg_x, wIf_t, wIf_f, kIf_v, kIf_x, kRet_v, kRet_x, kDrop_v, kDrop_x, kFor_v, kFor_x, kSt_a, kApp2_a, kApp_v, kApp_x, kAppU_a, kExt3_a, kExt2_a, kExt_v, kExt_x, kExtU_a, kSub5_a, kSub4_a, kSub3_a, kSub2_v, kSub2_x, kSubU_a, kSub1_v, kSub1_x, fld_o, e_tys, kLc_v, kLcU_a, kLcB_a, W_len, W_app, sgn_W, own_no, own_d, List.all_cons, List.all_nil, List.getD_cons_succ, List.getD_cons_zero, wipeS, backS, vr_d, vr_ol, vr_od, gt_0, gt_s, stt_0, stt_s, vwN_nil, vwN_d, vwN_ol, vwN_od, vwN_no, vwN_oi, ti_int, tl_l, tt_t, tq_t, tq_l, tx_s, mv_s, to_o, gA, pA, outs_nil, outs_cons, outs1_s, isD_d, gol_s, isL_ol, isL_d, gN_eq, gT_eq, gsN_eq, gsC_eq, some_bind', dR1_i, dR2_i, dEn_i, owns, vw_d, vw_ol, vw_oi, vw_od, wh_d, wh_ol, wh_od, wh_oi, imm, imms, decide_true, decide_false, Bool.not_true, Bool.not_false, if_true, if_false, List.length_cons, List.length_nil, List.map_cons, List.map_nil, List.append_nil, List.nil_append, List.cons_append, List.replicate, Option.map_some, beq_self_eq_true, Bool.true_or, Bool.or_true, Bool.false_or, Bool.or_false, Bool.false_and, Bool.and_false, Bool.true_and, Bool.and_true, reduceCtorEq, e_sub, e_mod, e_div, e_mul, e_addi, e_adds, e_addt, e_eqi, e_eqs, e_eqb, e_nei, e_nes, e_neb, e_lti, e_gti, e_lei, e_gei, e_lenl, e_lent, e_lens, e_isib, e_inw, e_ninw, e_inwt, e_ninwt, e_intb, e_ixn, e_ixtn, e_ix0, e_ix1, e_ix2, e_ix3, e_ixt0, e_ixt1, e_ixt2, e_ixt3, e_ixs, e_ixs0, szl, List.getElem?_cons_zero, List.getElem?_cons_succ, e_tupl, e_tupt, e_listl, e_listt, nodup0, nodup1, List.length_set, List.length_append, List.length_map, List.set_cons_zero, List.set_cons_succ, Nat.add_zero, Nat.zero_add, lp_nx, lp_rt, lp_bk, lp_ct, lp_x, ↓reduceIte, Nat.reduceAdd, Nat.reduceSub, Nat.reduceLeDiff, Nat.reduceLT, Nat.reduceMul, Nat.reduceDiv, Nat.reduceMod, Int.reduceMul, Int.reduceToNat, Int.reduceMod, Int.reduceDiv, Int.reduceOfNat, Int.reduceBEq, Nat.reduceEqDiff, Nat.reduceBEq, Int.reduceLT, Int.reduceLE, Int.reduceEq, Int.reduceNeg, Int.reduceAdd, Int.reduceSub, decide_eq_true_eq, ite_true, ite_false, and_self, or_self, and_true, true_and, Bool.or_self, Bool.and_self, ixn0, ixn1, ixn2, ixn3, Bool.or_eq_true, or_true, true_or, or_false, false_or, wf_of hS, wf_of hPu, vw_ob, wh_ob, hp, dIs, dIsv]
  obtain ⟨o, rs, e, rfl⟩ := wf_get h
  exact ⟨rs, e⟩
end K23

-- text K23h
set_option Elab.async false
set_option linter.all false
set_option maxRecDepth 100000
set_option maxHeartbeats 0
namespace K23
open PySem PySem.Spec PyProof.Rows L2 Fz
section
variable {w : World} {K : PySem.W.Frag} {h : Heap} {mg : Str → Option Value}
theorem vx_n_all (X : K.In h) (G : h.Ns mainGlobals mg) (c : SaysC chk fns tss w K) : mg "all" = none := He.free_ok X G (fact_at (f := fas_186) c.b 186)
theorem vx_n_bool (X : K.In h) (G : h.Ns mainGlobals mg) (c : SaysC chk fns tss w K) : mg "bool" = none := He.free_ok X G (fact_at (f := fas_187) c.b 187)
theorem vx_n_isinstance (X : K.In h) (G : h.Ns mainGlobals mg) (c : SaysC chk fns tss w K) : mg "isinstance" = none := He.free_ok X G (fact_at (f := fas_188) c.b 188)
theorem vx_n_len (X : K.In h) (G : h.Ns mainGlobals mg) (c : SaysC chk fns tss w K) : mg "len" = none := He.free_ok X G (fact_at (f := fas_189) c.b 189)
theorem vx_n_range (X : K.In h) (G : h.Ns mainGlobals mg) (c : SaysC chk fns tss w K) : mg "range" = none := He.free_ok X G (fact_at (f := fas_190) c.b 190)
theorem vx_n_str (X : K.In h) (G : h.Ns mainGlobals mg) (c : SaysC chk fns tss w K) : mg "str" = none := He.free_ok X G (fact_at (f := fas_191) c.b 191)
theorem vx_n_tuple (X : K.In h) (G : h.Ns mainGlobals mg) (c : SaysC chk fns tss w K) : mg "tuple" = none := He.free_ok X G (fact_at (f := fas_192) c.b 192)
theorem vx_c_DUALS (X : K.In h) (G : h.Ns mainGlobals mg) (c : SaysC chk fns tss w K) : GlobK (tb K) mg w "DUALS" c_DUALS := let ⟨_, _, d⟩ := c.t.tab (t := tss_0) 0; globK_str (kvs := kvs_DUALS) rfl X G (fact_at (f := fas_193) c.b 193) d (fact_at (f := fas_194) c.b 194) (by decide +kernel)
theorem vx_c_FIGURES (X : K.In h) (G : h.Ns mainGlobals mg) (c : SaysC chk fns tss w K) : GlobD (tb K) mg "FIGURES" c_FIGURES := globD_str rfl X G (fact_at (f := fas_195) c.b 195) (by decide +kernel)
theorem vx_c_MOST_SIGNS (X : K.In h) (G : h.Ns mainGlobals mg) (c : SaysC chk fns tss w K) : GlobD (tb K) mg "MOST_SIGNS" c_MOST_SIGNS := globD_int rfl X G (fact_at (f := fas_196) c.b 196)
theorem vx_c_OF_ONE (X : K.In h) (G : h.Ns mainGlobals mg) (c : SaysC chk fns tss w K) : GlobD (tb K) mg "OF_ONE" c_OF_ONE := globD_tup (zs := ["not", "next", "before", "early", "soon", "ever", "once", "sofar", "again", "settles"]) rfl X G (fact_at (f := fas_197) c.b 197) (fact_at (f := fas_198) c.b 198) (by decide +kernel)
theorem vx_c_OF_TWO (X : K.In h) (G : h.Ns mainGlobals mg) (c : SaysC chk fns tss w K) : GlobD (tb K) mg "OF_TWO" c_OF_TWO := globD_tup (zs := ["and", "or", "then", "until", "since", "frees", "held"]) rfl X G (fact_at (f := fas_199) c.b 199) (fact_at (f := fas_200) c.b 200) (by decide +kernel)
theorem vx_c_SMALL (X : K.In h) (G : h.Ns mainGlobals mg) (c : SaysC chk fns tss w K) : GlobD (tb K) mg "SMALL" c_SMALL := globD_str rfl X G (fact_at (f := fas_201) c.b 201) (by decide +kernel)
theorem vx_f_kept_words (X : K.In h) (G : h.Ns mainGlobals mg) (c : SaysC chk fns tss w K) : GFun (tb K) mg "kept_words" s_kept_words P_kept_words := let ⟨fd, F⟩ := c.t.d.def_ (d := fns_0) 0; ⟨_, fd, He.glo_ok X G (fact_at (f := fas_0) c.b 0), fun_of F, FunD.bindsN (ps := P_kept_words) F (fun _ _ _ _ _ _ us hl => match us, hl with | [], _ => rfl)⟩
theorem vx_f_is_mark (X : K.In h) (G : h.Ns mainGlobals mg) (c : SaysC chk fns tss w K) : GFun (tb K) mg "is_mark" s_is_mark P_is_mark := let ⟨fd, F⟩ := c.t.d.def_ (d := fns_1) 1; ⟨_, fd, He.glo_ok X G (fact_at (f := fas_1) c.b 1), fun_of F, FunD.bindsN (ps := P_is_mark) F (fun _ _ _ _ _ _ us hl => match us, hl with | [_], _ => rfl)⟩
theorem vx_f_of_one (X : K.In h) (G : h.Ns mainGlobals mg) (c : SaysC chk fns tss w K) : GFun (tb K) mg "of_one" s_of_one P_of_one := let ⟨fd, F⟩ := c.t.d.def_ (d := fns_2) 2; ⟨_, fd, He.glo_ok X G (fact_at (f := fas_2) c.b 2), fun_of F, FunD.bindsN (ps := P_of_one) F (fun _ _ _ _ _ _ us hl => match us, hl with | [_, _], _ => rfl)⟩
theorem vx_f_of_two (X : K.In h) (G : h.Ns mainGlobals mg) (c : SaysC chk fns tss w K) : GFun (tb K) mg "of_two" s_of_two P_of_two := let ⟨fd, F⟩ := c.t.d.def_ (d := fns_3) 3; ⟨_, fd, He.glo_ok X G (fact_at (f := fas_3) c.b 3), fun_of F, FunD.bindsN (ps := P_of_two) F (fun _ _ _ _ _ _ us hl => match us, hl with | [_, _, _], _ => rfl)⟩
theorem vx_f_is_form (X : K.In h) (G : h.Ns mainGlobals mg) (c : SaysC chk fns tss w K) : GFun (tb K) mg "is_form" s_is_form P_is_form := let ⟨fd, F⟩ := c.t.d.def_ (d := fns_4) 4; ⟨_, fd, He.glo_ok X G (fact_at (f := fas_4) c.b 4), fun_of F, FunD.bindsN (ps := P_is_form) F (fun _ _ _ _ _ _ us hl => match us, hl with | [_], _ => rfl)⟩
theorem vx_f_need_tree (X : K.In h) (G : h.Ns mainGlobals mg) (c : SaysC chk fns tss w K) : GFun (tb K) mg "need_tree" s_need_tree P_need_tree := let ⟨fd, F⟩ := c.t.d.def_ (d := fns_5) 5; ⟨_, fd, He.glo_ok X G (fact_at (f := fas_5) c.b 5), fun_of F, FunD.bindsN (ps := P_need_tree) F (fun _ _ _ _ _ _ us hl => match us, hl with | [_], _ => rfl)⟩
theorem vx_f_built (X : K.In h) (G : h.Ns mainGlobals mg) (c : SaysC chk fns tss w K) : GFun (tb K) mg "built" s_built P_built := let ⟨fd, F⟩ := c.t.d.def_ (d := fns_6) 6; ⟨_, fd, He.glo_ok X G (fact_at (f := fas_6) c.b 6), fun_of F, FunD.bindsN (ps := P_built) F (fun _ _ _ _ _ _ us hl => match us, hl with | [_], _ => rfl)⟩
theorem vx_f_statement_of (X : K.In h) (G : h.Ns mainGlobals mg) (c : SaysC chk fns tss w K) : GFun (tb K) mg "statement_of" s_statement_of P_statement_of := let ⟨fd, F⟩ := c.t.d.def_ (d := fns_7) 7; ⟨_, fd, He.glo_ok X G (fact_at (f := fas_7) c.b 7), fun_of F, FunD.bindsN (ps := P_statement_of) F (fun _ _ _ _ _ _ us hl => match us, hl with | [_], _ => rfl)⟩
theorem vx_f_soon_of (X : K.In h) (G : h.Ns mainGlobals mg) (c : SaysC chk fns tss w K) : GFun (tb K) mg "soon_of" s_soon_of P_soon_of := let ⟨fd, F⟩ := c.t.d.def_ (d := fns_8) 8; ⟨_, fd, He.glo_ok X G (fact_at (f := fas_8) c.b 8), fun_of F, FunD.bindsN (ps := P_soon_of) F (fun _ _ _ _ _ _ us hl => match us, hl with | [_], _ => rfl)⟩
theorem vx_f_ever_of (X : K.In h) (G : h.Ns mainGlobals mg) (c : SaysC chk fns tss w K) : GFun (tb K) mg "ever_of" s_ever_of P_ever_of := let ⟨fd, F⟩ := c.t.d.def_ (d := fns_9) 9; ⟨_, fd, He.glo_ok X G (fact_at (f := fas_9) c.b 9), fun_of F, FunD.bindsN (ps := P_ever_of) F (fun _ _ _ _ _ _ us hl => match us, hl with | [_], _ => rfl)⟩
theorem vx_f_plain_of (X : K.In h) (G : h.Ns mainGlobals mg) (c : SaysC chk fns tss w K) : GFun (tb K) mg "plain_of" s_plain_of P_plain_of := let ⟨fd, F⟩ := c.t.d.def_ (d := fns_10) 10; ⟨_, fd, He.glo_ok X G (fact_at (f := fas_10) c.b 10), fun_of F, FunD.bindsN (ps := P_plain_of) F (fun _ _ _ _ _ _ us hl => match us, hl with | [_], _ => rfl)⟩
theorem vx_f_pushed_of (X : K.In h) (G : h.Ns mainGlobals mg) (c : SaysC chk fns tss w K) : GFun (tb K) mg "pushed_of" s_pushed_of P_pushed_of := let ⟨fd, F⟩ := c.t.d.def_ (d := fns_11) 11; ⟨_, fd, He.glo_ok X G (fact_at (f := fas_11) c.b 11), fun_of F, FunD.bindsN (ps := P_pushed_of) F (fun _ _ _ _ _ _ us hl => match us, hl with | [_, _], _ => rfl)⟩
theorem vx_f_pushed (X : K.In h) (G : h.Ns mainGlobals mg) (c : SaysC chk fns tss w K) : GFun (tb K) mg "pushed" s_pushed P_pushed := let ⟨fd, F⟩ := c.t.d.def_ (d := fns_12) 12; ⟨_, fd, He.glo_ok X G (fact_at (f := fas_12) c.b 12), fun_of F, FunD.bindsN (ps := P_pushed) F (fun _ _ _ _ _ _ us hl => match us, hl with | [_], _ => rfl)⟩
theorem vx_f_is_pushed (X : K.In h) (G : h.Ns mainGlobals mg) (c : SaysC chk fns tss w K) : GFun (tb K) mg "is_pushed" s_is_pushed P_is_pushed := let ⟨fd, F⟩ := c.t.d.def_ (d := fns_13) 13; ⟨_, fd, He.glo_ok X G (fact_at (f := fas_13) c.b 13), fun_of F, FunD.bindsN (ps := P_is_pushed) F (fun _ _ _ _ _ _ us hl => match us, hl with | [_], _ => rfl)⟩
theorem vx_f__law_begin (X : K.In h) (G : h.Ns mainGlobals mg) (c : SaysC chk fns tss w K) : GFun (tb K) mg "_law_begin" s__law_begin P__law_begin := let ⟨fd, F⟩ := c.t.d.def_ (d := fns_14) 14; ⟨_, fd, He.glo_ok X G (fact_at (f := fas_14) c.b 14), fun_of F, FunD.bindsN (ps := P__law_begin) F (fun _ _ _ _ _ _ us hl => match us, hl with | [_], _ => rfl)⟩
theorem vx_f__law_next (X : K.In h) (G : h.Ns mainGlobals mg) (c : SaysC chk fns tss w K) : GFun (tb K) mg "_law_next" s__law_next P__law_next := let ⟨fd, F⟩ := c.t.d.def_ (d := fns_15) 15; ⟨_, fd, He.glo_ok X G (fact_at (f := fas_15) c.b 15), fun_of F, FunD.bindsN (ps := P__law_next) F (fun _ _ _ _ _ _ us hl => match us, hl with | [_], _ => rfl)⟩
theorem vx_f__law_mark_of (X : K.In h) (G : h.Ns mainGlobals mg) (c : SaysC chk fns tss w K) : GFun (tb K) mg "_law_mark_of" s__law_mark_of P__law_mark_of := let ⟨fd, F⟩ := c.t.d.def_ (d := fns_16) 16; ⟨_, fd, He.glo_ok X G (fact_at (f := fas_16) c.b 16), fun_of F, FunD.bindsN (ps := P__law_mark_of) F (fun _ _ _ _ _ _ us hl => match us, hl with | [_], _ => rfl)⟩
theorem vx_f__law_marks (X : K.In h) (G : h.Ns mainGlobals mg) (c : SaysC chk fns tss w K) : GFun (tb K) mg "_law_marks" s__law_marks P__law_marks := let ⟨fd, F⟩ := c.t.d.def_ (d := fns_17) 17; ⟨_, fd, He.glo_ok X G (fact_at (f := fas_17) c.b 17), fun_of F, FunD.bindsN (ps := P__law_marks) F (fun _ _ _ _ _ _ us hl => match us, hl with | [_], _ => rfl)⟩
theorem vx_f__law_leaf (X : K.In h) (G : h.Ns mainGlobals mg) (c : SaysC chk fns tss w K) : GFun (tb K) mg "_law_leaf" s__law_leaf P__law_leaf := let ⟨fd, F⟩ := c.t.d.def_ (d := fns_18) 18; ⟨_, fd, He.glo_ok X G (fact_at (f := fas_18) c.b 18), fun_of F, FunD.bindsN (ps := P__law_leaf) F (fun _ _ _ _ _ _ us hl => match us, hl with | [_, _], _ => rfl)⟩
theorem vx_f__law_tree (X : K.In h) (G : h.Ns mainGlobals mg) (c : SaysC chk fns tss w K) : GFun (tb K) mg "_law_tree" s__law_tree P__law_tree := let ⟨fd, F⟩ := c.t.d.def_ (d := fns_19) 19; ⟨_, fd, He.glo_ok X G (fact_at (f := fas_19) c.b 19), fun_of F, FunD.bindsN (ps := P__law_tree) F (fun _ _ _ _ _ _ us hl => match us, hl with | [_, _, _, _], _ => rfl)⟩
theorem vx_f__law_spoilt (X : K.In h) (G : h.Ns mainGlobals mg) (c : SaysC chk fns tss w K) : GFun (tb K) mg "_law_spoilt" s__law_spoilt P__law_spoilt := let ⟨fd, F⟩ := c.t.d.def_ (d := fns_20) 20; ⟨_, fd, He.glo_ok X G (fact_at (f := fas_20) c.b 20), fun_of F, FunD.bindsN (ps := P__law_spoilt) F (fun _ _ _ _ _ _ us hl => match us, hl with | [_, _, _], _ => rfl)⟩
theorem vx_f__law_is_pushed (X : K.In h) (G : h.Ns mainGlobals mg) (c : SaysC chk fns tss w K) : GFun (tb K) mg "_law_is_pushed" s__law_is_pushed P__law_is_pushed := let ⟨fd, F⟩ := c.t.d.def_ (d := fns_21) 21; ⟨_, fd, He.glo_ok X G (fact_at (f := fas_21) c.b 21), fun_of F, FunD.bindsN (ps := P__law_is_pushed) F (fun _ _ _ _ _ _ us hl => match us, hl with | [_], _ => rfl)⟩
theorem vx_f_law (X : K.In h) (G : h.Ns mainGlobals mg) (c : SaysC chk fns tss w K) : GFun (tb K) mg "law" s_law P_law := let ⟨fd, F⟩ := c.t.d.def_ (d := fns_22) 22; ⟨_, fd, He.glo_ok X G (fact_at (f := fas_22) c.b 22), fun_of F, FunD.bindsN (ps := P_law) F (fun _ _ _ _ _ _ us hl => match us, hl with | [_], _ => rfl)⟩
theorem vx_m_Statement_inner (X : K.In h) (G : h.Ns mainGlobals mg) (c : SaysC chk fns tss w K) : GMth (tb K) 2 "inner" "Statement.inner" s_Statement_inner P_Statement_inner := let ⟨fd, F⟩ := c.t.d.def_ (d := fns_23) 23; ⟨_, fd, He.meth_ok (fact_at (f := fas_97) c.b 97), fun_of F, FunD.bindsN (ps := P_Statement_inner) F (fun _ _ _ _ _ _ us hl => match us, hl with | [_], _ => rfl)⟩
theorem vx_m_Yes_inner (X : K.In h) (G : h.Ns mainGlobals mg) (c : SaysC chk fns tss w K) : GMth (tb K) 3 "inner" "Statement.inner" s_Statement_inner P_Statement_inner := let ⟨fd, F⟩ := c.t.d.def_ (d := fns_24) 24; ⟨_, fd, He.meth_ok (fact_at (f := fas_98) c.b 98), fun_of F, FunD.bindsN (ps := P_Statement_inner) F (fun _ _ _ _ _ _ us hl => match us, hl with | [_], _ => rfl)⟩
theorem vx_m_No_inner (X : K.In h) (G : h.Ns mainGlobals mg) (c : SaysC chk fns tss w K) : GMth (tb K) 4 "inner" "Statement.inner" s_Statement_inner P_Statement_inner := let ⟨fd, F⟩ := c.t.d.def_ (d := fns_25) 25; ⟨_, fd, He.meth_ok (fact_at (f := fas_99) c.b 99), fun_of F, FunD.bindsN (ps := P_Statement_inner) F (fun _ _ _ _ _ _ us hl => match us, hl with | [_], _ => rfl)⟩
theorem vx_m_Now_inner (X : K.In h) (G : h.Ns mainGlobals mg) (c : SaysC chk fns tss w K) : GMth (tb K) 5 "inner" "Statement.inner" s_Statement_inner P_Statement_inner := let ⟨fd, F⟩ := c.t.d.def_ (d := fns_26) 26; ⟨_, fd, He.meth_ok (fact_at (f := fas_100) c.b 100), fun_of F, FunD.bindsN (ps := P_Statement_inner) F (fun _ _ _ _ _ _ us hl => match us, hl with | [_], _ => rfl)⟩
theorem vx_m_OfOne_inner (X : K.In h) (G : h.Ns mainGlobals mg) (c : SaysC chk fns tss w K) : GMth (tb K) 6 "inner" "OfOne.inner" s_OfOne_inner P_OfOne_inner := let ⟨fd, F⟩ := c.t.d.def_ (d := fns_27) 27; ⟨_, fd, He.meth_ok (fact_at (f := fas_101) c.b 101), fun_of F, FunD.bindsN (ps := P_OfOne_inner) F (fun _ _ _ _ _ _ us hl => match us, hl with | [_], _ => rfl)⟩
theorem vx_m_OfTwo_inner (X : K.In h) (G : h.Ns mainGlobals mg) (c : SaysC chk fns tss w K) : GMth (tb K) 7 "inner" "OfTwo.inner" s_OfTwo_inner P_OfTwo_inner := let ⟨fd, F⟩ := c.t.d.def_ (d := fns_28) 28; ⟨_, fd, He.meth_ok (fact_at (f := fas_102) c.b 102), fun_of F, FunD.bindsN (ps := P_OfTwo_inner) F (fun _ _ _ _ _ _ us hl => match us, hl with | [_], _ => rfl)⟩
theorem vx_m_Not_inner (X : K.In h) (G : h.Ns mainGlobals mg) (c : SaysC chk fns tss w K) : GMth (tb K) 8 "inner" "OfOne.inner" s_OfOne_inner P_OfOne_inner := let ⟨fd, F⟩ := c.t.d.def_ (d := fns_29) 29; ⟨_, fd, He.meth_ok (fact_at (f := fas_103) c.b 103), fun_of F, FunD.bindsN (ps := P_OfOne_inner) F (fun _ _ _ _ _ _ us hl => match us, hl with | [_], _ => rfl)⟩
theorem vx_m_Next_inner (X : K.In h) (G : h.Ns mainGlobals mg) (c : SaysC chk fns tss w K) : GMth (tb K) 9 "inner" "OfOne.inner" s_OfOne_inner P_OfOne_inner := let ⟨fd, F⟩ := c.t.d.def_ (d := fns_30) 30; ⟨_, fd, He.meth_ok (fact_at (f := fas_104) c.b 104), fun_of F, FunD.bindsN (ps := P_OfOne_inner) F (fun _ _ _ _ _ _ us hl => match us, hl with | [_], _ => rfl)⟩
theorem vx_m_Before_inner (X : K.In h) (G : h.Ns mainGlobals mg) (c : SaysC chk fns tss w K) : GMth (tb K) 10 "inner" "OfOne.inner" s_OfOne_inner P_OfOne_inner := let ⟨fd, F⟩ := c.t.d.def_ (d := fns_31) 31; ⟨_, fd, He.meth_ok (fact_at (f := fas_105) c.b 105), fun_of F, FunD.bindsN (ps := P_OfOne_inner) F (fun _ _ _ _ _ _ us hl => match us, hl with | [_], _ => rfl)⟩
theorem vx_m_Early_inner (X : K.In h) (G : h.Ns mainGlobals mg) (c : SaysC chk fns tss w K) : GMth (tb K) 11 "inner" "OfOne.inner" s_OfOne_inner P_OfOne_inner := let ⟨fd, F⟩ := c.t.d.def_ (d := fns_32) 32; ⟨_, fd, He.meth_ok (fact_at (f := fas_106) c.b 106), fun_of F, FunD.bindsN (ps := P_OfOne_inner) F (fun _ _ _ _ _ _ us hl => match us, hl with | [_], _ => rfl)⟩
theorem vx_m_Soon_inner (X : K.In h) (G : h.Ns mainGlobals mg) (c : SaysC chk fns tss w K) : GMth (tb K) 12 "inner" "OfOne.inner" s_OfOne_inner P_OfOne_inner := let ⟨fd, F⟩ := c.t.d.def_ (d := fns_33) 33; ⟨_, fd, He.meth_ok (fact_at (f := fas_107) c.b 107), fun_of F, FunD.bindsN (ps := P_OfOne_inner) F (fun _ _ _ _ _ _ us hl => match us, hl with | [_], _ => rfl)⟩
theorem vx_m_Ever_inner (X : K.In h) (G : h.Ns mainGlobals mg) (c : SaysC chk fns tss w K) : GMth (tb K) 13 "inner" "OfOne.inner" s_OfOne_inner P_OfOne_inner := let ⟨fd, F⟩ := c.t.d.def_ (d := fns_34) 34; ⟨_, fd, He.meth_ok (fact_at (f := fas_108) c.b 108), fun_of F, FunD.bindsN (ps := P_OfOne_inner) F (fun _ _ _ _ _ _ us hl => match us, hl with | [_], _ => rfl)⟩
theorem vx_m_Once_inner (X : K.In h) (G : h.Ns mainGlobals mg) (c : SaysC chk fns tss w K) : GMth (tb K) 14 "inner" "OfOne.inner" s_OfOne_inner P_OfOne_inner := let ⟨fd, F⟩ := c.t.d.def_ (d := fns_35) 35; ⟨_, fd, He.meth_ok (fact_at (f := fas_109) c.b 109), fun_of F, FunD.bindsN (ps := P_OfOne_inner) F (fun _ _ _ _ _ _ us hl => match us, hl with | [_], _ => rfl)⟩
theorem vx_m_Sofar_inner (X : K.In h) (G : h.Ns mainGlobals mg) (c : SaysC chk fns tss w K) : GMth (tb K) 15 "inner" "OfOne.inner" s_OfOne_inner P_OfOne_inner := let ⟨fd, F⟩ := c.t.d.def_ (d := fns_36) 36; ⟨_, fd, He.meth_ok (fact_at (f := fas_110) c.b 110), fun_of F, FunD.bindsN (ps := P_OfOne_inner) F (fun _ _ _ _ _ _ us hl => match us, hl with | [_], _ => rfl)⟩
theorem vx_m_Again_inner (X : K.In h) (G : h.Ns mainGlobals mg) (c : SaysC chk fns tss w K) : GMth (tb K) 16 "inner" "OfOne.inner" s_OfOne_inner P_OfOne_inner := let ⟨fd, F⟩ := c.t.d.def_ (d := fns_37) 37; ⟨_, fd, He.meth_ok (fact_at (f := fas_111) c.b 111), fun_of F, FunD.bindsN (ps := P_OfOne_inner) F (fun _ _ _ _ _ _ us hl => match us, hl with | [_], _ => rfl)⟩
theorem vx_m_Settles_inner (X : K.In h) (G : h.Ns mainGlobals mg) (c : SaysC chk fns tss w K) : GMth (tb K) 17 "inner" "OfOne.inner" s_OfOne_inner P_OfOne_inner := let ⟨fd, F⟩ := c.t.d.def_ (d := fns_38) 38; ⟨_, fd, He.meth_ok (fact_at (f := fas_112) c.b 112), fun_of F, FunD.bindsN (ps := P_OfOne_inner) F (fun _ _ _ _ _ _ us hl => match us, hl with | [_], _ => rfl)⟩
theorem vx_m_Both_inner (X : K.In h) (G : h.Ns mainGlobals mg) (c : SaysC chk fns tss w K) : GMth (tb K) 18 "inner" "OfTwo.inner" s_OfTwo_inner P_OfTwo_inner := let ⟨fd, F⟩ := c.t.d.def_ (d := fns_39) 39; ⟨_, fd, He.meth_ok (fact_at (f := fas_113) c.b 113), fun_of F, FunD.bindsN (ps := P_OfTwo_inner) F (fun _ _ _ _ _ _ us hl => match us, hl with | [_], _ => rfl)⟩
theorem vx_m_Either_inner (X : K.In h) (G : h.Ns mainGlobals mg) (c : SaysC chk fns tss w K) : GMth (tb K) 19 "inner" "OfTwo.inner" s_OfTwo_inner P_OfTwo_inner := let ⟨fd, F⟩ := c.t.d.def_ (d := fns_40) 40; ⟨_, fd, He.meth_ok (fact_at (f := fas_114) c.b 114), fun_of F, FunD.bindsN (ps := P_OfTwo_inner) F (fun _ _ _ _ _ _ us hl => match us, hl with | [_], _ => rfl)⟩
theorem vx_m_Then_inner (X : K.In h) (G : h.Ns mainGlobals mg) (c : SaysC chk fns tss w K) : GMth (tb K) 20 "inner" "OfTwo.inner" s_OfTwo_inner P_OfTwo_inner := let ⟨fd, F⟩ := c.t.d.def_ (d := fns_41) 41; ⟨_, fd, He.meth_ok (fact_at (f := fas_115) c.b 115), fun_of F, FunD.bindsN (ps := P_OfTwo_inner) F (fun _ _ _ _ _ _ us hl => match us, hl with | [_], _ => rfl)⟩
theorem vx_m_Until_inner (X : K.In h) (G : h.Ns mainGlobals mg) (c : SaysC chk fns tss w K) : GMth (tb K) 21 "inner" "OfTwo.inner" s_OfTwo_inner P_OfTwo_inner := let ⟨fd, F⟩ := c.t.d.def_ (d := fns_42) 42; ⟨_, fd, He.meth_ok (fact_at (f := fas_116) c.b 116), fun_of F, FunD.bindsN (ps := P_OfTwo_inner) F (fun _ _ _ _ _ _ us hl => match us, hl with | [_], _ => rfl)⟩
theorem vx_m_Since_inner (X : K.In h) (G : h.Ns mainGlobals mg) (c : SaysC chk fns tss w K) : GMth (tb K) 22 "inner" "OfTwo.inner" s_OfTwo_inner P_OfTwo_inner := let ⟨fd, F⟩ := c.t.d.def_ (d := fns_43) 43; ⟨_, fd, He.meth_ok (fact_at (f := fas_117) c.b 117), fun_of F, FunD.bindsN (ps := P_OfTwo_inner) F (fun _ _ _ _ _ _ us hl => match us, hl with | [_], _ => rfl)⟩
theorem vx_m_Frees_inner (X : K.In h) (G : h.Ns mainGlobals mg) (c : SaysC chk fns tss w K) : GMth (tb K) 23 "inner" "OfTwo.inner" s_OfTwo_inner P_OfTwo_inner := let ⟨fd, F⟩ := c.t.d.def_ (d := fns_44) 44; ⟨_, fd, He.meth_ok (fact_at (f := fas_118) c.b 118), fun_of F, FunD.bindsN (ps := P_OfTwo_inner) F (fun _ _ _ _ _ _ us hl => match us, hl with | [_], _ => rfl)⟩
theorem vx_m_Held_inner (X : K.In h) (G : h.Ns mainGlobals mg) (c : SaysC chk fns tss w K) : GMth (tb K) 24 "inner" "OfTwo.inner" s_OfTwo_inner P_OfTwo_inner := let ⟨fd, F⟩ := c.t.d.def_ (d := fns_45) 45; ⟨_, fd, He.meth_ok (fact_at (f := fas_119) c.b 119), fun_of F, FunD.bindsN (ps := P_OfTwo_inner) F (fun _ _ _ _ _ _ us hl => match us, hl with | [_], _ => rfl)⟩
theorem vx_m_Statement_tree (X : K.In h) (G : h.Ns mainGlobals mg) (c : SaysC chk fns tss w K) : GMth (tb K) 2 "tree" "Statement.tree" s_Statement_tree P_Statement_tree := let ⟨fd, F⟩ := c.t.d.def_ (d := fns_46) 46; ⟨_, fd, He.meth_ok (fact_at (f := fas_120) c.b 120), fun_of F, FunD.bindsN (ps := P_Statement_tree) F (fun _ _ _ _ _ _ us hl => match us, hl with | [_], _ => rfl)⟩
theorem vx_m_Yes_tree (X : K.In h) (G : h.Ns mainGlobals mg) (c : SaysC chk fns tss w K) : GMth (tb K) 3 "tree" "Statement.tree" s_Statement_tree P_Statement_tree := let ⟨fd, F⟩ := c.t.d.def_ (d := fns_47) 47; ⟨_, fd, He.meth_ok (fact_at (f := fas_121) c.b 121), fun_of F, FunD.bindsN (ps := P_Statement_tree) F (fun _ _ _ _ _ _ us hl => match us, hl with | [_], _ => rfl)⟩
theorem vx_m_No_tree (X : K.In h) (G : h.Ns mainGlobals mg) (c : SaysC chk fns tss w K) : GMth (tb K) 4 "tree" "Statement.tree" s_Statement_tree P_Statement_tree := let ⟨fd, F⟩ := c.t.d.def_ (d := fns_48) 48; ⟨_, fd, He.meth_ok (fact_at (f := fas_122) c.b 122), fun_of F, FunD.bindsN (ps := P_Statement_tree) F (fun _ _ _ _ _ _ us hl => match us, hl with | [_], _ => rfl)⟩
theorem vx_m_Now_tree (X : K.In h) (G : h.Ns mainGlobals mg) (c : SaysC chk fns tss w K) : GMth (tb K) 5 "tree" "Now.tree" s_Now_tree P_Now_tree := let ⟨fd, F⟩ := c.t.d.def_ (d := fns_49) 49; ⟨_, fd, He.meth_ok (fact_at (f := fas_123) c.b 123), fun_of F, FunD.bindsN (ps := P_Now_tree) F (fun _ _ _ _ _ _ us hl => match us, hl with | [_], _ => rfl)⟩
theorem vx_m_OfOne_tree (X : K.In h) (G : h.Ns mainGlobals mg) (c : SaysC chk fns tss w K) : GMth (tb K) 6 "tree" "Statement.tree" s_Statement_tree P_Statement_tree := let ⟨fd, F⟩ := c.t.d.def_ (d := fns_50) 50; ⟨_, fd, He.meth_ok (fact_at (f := fas_124) c.b 124), fun_of F, FunD.bindsN (ps := P_Statement_tree) F (fun _ _ _ _ _ _ us hl => match us, hl with | [_], _ => rfl)⟩
theorem vx_m_OfTwo_tree (X : K.In h) (G : h.Ns mainGlobals mg) (c : SaysC chk fns tss w K) : GMth (tb K) 7 "tree" "Statement.tree" s_Statement_tree P_Statement_tree := let ⟨fd, F⟩ := c.t.d.def_ (d := fns_51) 51; ⟨_, fd, He.meth_ok (fact_at (f := fas_125) c.b 125), fun_of F, FunD.bindsN (ps := P_Statement_tree) F (fun _ _ _ _ _ _ us hl => match us, hl with | [_], _ => rfl)⟩
theorem vx_m_Not_tree (X : K.In h) (G : h.Ns mainGlobals mg) (c : SaysC chk fns tss w K) : GMth (tb K) 8 "tree" "Statement.tree" s_Statement_tree P_Statement_tree := let ⟨fd, F⟩ := c.t.d.def_ (d := fns_52) 52; ⟨_, fd, He.meth_ok (fact_at (f := fas_126) c.b 126), fun_of F, FunD.bindsN (ps := P_Statement_tree) F (fun _ _ _ _ _ _ us hl => match us, hl with | [_], _ => rfl)⟩
theorem vx_m_Next_tree (X : K.In h) (G : h.Ns mainGlobals mg) (c : SaysC chk fns tss w K) : GMth (tb K) 9 "tree" "Statement.tree" s_Statement_tree P_Statement_tree := let ⟨fd, F⟩ := c.t.d.def_ (d := fns_53) 53; ⟨_, fd, He.meth_ok (fact_at (f := fas_127) c.b 127), fun_of F, FunD.bindsN (ps := P_Statement_tree) F (fun _ _ _ _ _ _ us hl => match us, hl with | [_], _ => rfl)⟩
theorem vx_m_Before_tree (X : K.In h) (G : h.Ns mainGlobals mg) (c : SaysC chk fns tss w K) : GMth (tb K) 10 "tree" "Statement.tree" s_Statement_tree P_Statement_tree := let ⟨fd, F⟩ := c.t.d.def_ (d := fns_54) 54; ⟨_, fd, He.meth_ok (fact_at (f := fas_128) c.b 128), fun_of F, FunD.bindsN (ps := P_Statement_tree) F (fun _ _ _ _ _ _ us hl => match us, hl with | [_], _ => rfl)⟩
theorem vx_m_Early_tree (X : K.In h) (G : h.Ns mainGlobals mg) (c : SaysC chk fns tss w K) : GMth (tb K) 11 "tree" "Statement.tree" s_Statement_tree P_Statement_tree := let ⟨fd, F⟩ := c.t.d.def_ (d := fns_55) 55; ⟨_, fd, He.meth_ok (fact_at (f := fas_129) c.b 129), fun_of F, FunD.bindsN (ps := P_Statement_tree) F (fun _ _ _ _ _ _ us hl => match us, hl with | [_], _ => rfl)⟩
theorem vx_m_Soon_tree (X : K.In h) (G : h.Ns mainGlobals mg) (c : SaysC chk fns tss w K) : GMth (tb K) 12 "tree" "Statement.tree" s_Statement_tree P_Statement_tree := let ⟨fd, F⟩ := c.t.d.def_ (d := fns_56) 56; ⟨_, fd, He.meth_ok (fact_at (f := fas_130) c.b 130), fun_of F, FunD.bindsN (ps := P_Statement_tree) F (fun _ _ _ _ _ _ us hl => match us, hl with | [_], _ => rfl)⟩
theorem vx_m_Ever_tree (X : K.In h) (G : h.Ns mainGlobals mg) (c : SaysC chk fns tss w K) : GMth (tb K) 13 "tree" "Statement.tree" s_Statement_tree P_Statement_tree := let ⟨fd, F⟩ := c.t.d.def_ (d := fns_57) 57; ⟨_, fd, He.meth_ok (fact_at (f := fas_131) c.b 131), fun_of F, FunD.bindsN (ps := P_Statement_tree) F (fun _ _ _ _ _ _ us hl => match us, hl with | [_], _ => rfl)⟩
theorem vx_m_Once_tree (X : K.In h) (G : h.Ns mainGlobals mg) (c : SaysC chk fns tss w K) : GMth (tb K) 14 "tree" "Statement.tree" s_Statement_tree P_Statement_tree := let ⟨fd, F⟩ := c.t.d.def_ (d := fns_58) 58; ⟨_, fd, He.meth_ok (fact_at (f := fas_132) c.b 132), fun_of F, FunD.bindsN (ps := P_Statement_tree) F (fun _ _ _ _ _ _ us hl => match us, hl with | [_], _ => rfl)⟩
theorem vx_m_Sofar_tree (X : K.In h) (G : h.Ns mainGlobals mg) (c : SaysC chk fns tss w K) : GMth (tb K) 15 "tree" "Statement.tree" s_Statement_tree P_Statement_tree := let ⟨fd, F⟩ := c.t.d.def_ (d := fns_59) 59; ⟨_, fd, He.meth_ok (fact_at (f := fas_133) c.b 133), fun_of F, FunD.bindsN (ps := P_Statement_tree) F (fun _ _ _ _ _ _ us hl => match us, hl with | [_], _ => rfl)⟩
theorem vx_m_Again_tree (X : K.In h) (G : h.Ns mainGlobals mg) (c : SaysC chk fns tss w K) : GMth (tb K) 16 "tree" "Statement.tree" s_Statement_tree P_Statement_tree := let ⟨fd, F⟩ := c.t.d.def_ (d := fns_60) 60; ⟨_, fd, He.meth_ok (fact_at (f := fas_134) c.b 134), fun_of F, FunD.bindsN (ps := P_Statement_tree) F (fun _ _ _ _ _ _ us hl => match us, hl with | [_], _ => rfl)⟩
theorem vx_m_Settles_tree (X : K.In h) (G : h.Ns mainGlobals mg) (c : SaysC chk fns tss w K) : GMth (tb K) 17 "tree" "Statement.tree" s_Statement_tree P_Statement_tree := let ⟨fd, F⟩ := c.t.d.def_ (d := fns_61) 61; ⟨_, fd, He.meth_ok (fact_at (f := fas_135) c.b 135), fun_of F, FunD.bindsN (ps := P_Statement_tree) F (fun _ _ _ _ _ _ us hl => match us, hl with | [_], _ => rfl)⟩
theorem vx_m_Both_tree (X : K.In h) (G : h.Ns mainGlobals mg) (c : SaysC chk fns tss w K) : GMth (tb K) 18 "tree" "Statement.tree" s_Statement_tree P_Statement_tree := let ⟨fd, F⟩ := c.t.d.def_ (d := fns_62) 62; ⟨_, fd, He.meth_ok (fact_at (f := fas_136) c.b 136), fun_of F, FunD.bindsN (ps := P_Statement_tree) F (fun _ _ _ _ _ _ us hl => match us, hl with | [_], _ => rfl)⟩
theorem vx_m_Either_tree (X : K.In h) (G : h.Ns mainGlobals mg) (c : SaysC chk fns tss w K) : GMth (tb K) 19 "tree" "Statement.tree" s_Statement_tree P_Statement_tree := let ⟨fd, F⟩ := c.t.d.def_ (d := fns_63) 63; ⟨_, fd, He.meth_ok (fact_at (f := fas_137) c.b 137), fun_of F, FunD.bindsN (ps := P_Statement_tree) F (fun _ _ _ _ _ _ us hl => match us, hl with | [_], _ => rfl)⟩
theorem vx_m_Then_tree (X : K.In h) (G : h.Ns mainGlobals mg) (c : SaysC chk fns tss w K) : GMth (tb K) 20 "tree" "Statement.tree" s_Statement_tree P_Statement_tree := let ⟨fd, F⟩ := c.t.d.def_ (d := fns_64) 64; ⟨_, fd, He.meth_ok (fact_at (f := fas_138) c.b 138), fun_of F, FunD.bindsN (ps := P_Statement_tree) F (fun _ _ _ _ _ _ us hl => match us, hl with | [_], _ => rfl)⟩
theorem vx_m_Until_tree (X : K.In h) (G : h.Ns mainGlobals mg) (c : SaysC chk fns tss w K) : GMth (tb K) 21 "tree" "Statement.tree" s_Statement_tree P_Statement_tree := let ⟨fd, F⟩ := c.t.d.def_ (d := fns_65) 65; ⟨_, fd, He.meth_ok (fact_at (f := fas_139) c.b 139), fun_of F, FunD.bindsN (ps := P_Statement_tree) F (fun _ _ _ _ _ _ us hl => match us, hl with | [_], _ => rfl)⟩
theorem vx_m_Since_tree (X : K.In h) (G : h.Ns mainGlobals mg) (c : SaysC chk fns tss w K) : GMth (tb K) 22 "tree" "Statement.tree" s_Statement_tree P_Statement_tree := let ⟨fd, F⟩ := c.t.d.def_ (d := fns_66) 66; ⟨_, fd, He.meth_ok (fact_at (f := fas_140) c.b 140), fun_of F, FunD.bindsN (ps := P_Statement_tree) F (fun _ _ _ _ _ _ us hl => match us, hl with | [_], _ => rfl)⟩
theorem vx_m_Frees_tree (X : K.In h) (G : h.Ns mainGlobals mg) (c : SaysC chk fns tss w K) : GMth (tb K) 23 "tree" "Statement.tree" s_Statement_tree P_Statement_tree := let ⟨fd, F⟩ := c.t.d.def_ (d := fns_67) 67; ⟨_, fd, He.meth_ok (fact_at (f := fas_141) c.b 141), fun_of F, FunD.bindsN (ps := P_Statement_tree) F (fun _ _ _ _ _ _ us hl => match us, hl with | [_], _ => rfl)⟩
theorem vx_m_Held_tree (X : K.In h) (G : h.Ns mainGlobals mg) (c : SaysC chk fns tss w K) : GMth (tb K) 24 "tree" "Statement.tree" s_Statement_tree P_Statement_tree := let ⟨fd, F⟩ := c.t.d.def_ (d := fns_68) 68; ⟨_, fd, He.meth_ok (fact_at (f := fas_142) c.b 142), fun_of F, FunD.bindsN (ps := P_Statement_tree) F (fun _ _ _ _ _ _ us hl => match us, hl with | [_], _ => rfl)⟩
theorem vx_m_Statement_word (X : K.In h) (G : h.Ns mainGlobals mg) (c : SaysC chk fns tss w K) : GMth (tb K) 2 "word" "Statement.word" s_Statement_word P_Statement_word := let ⟨fd, F⟩ := c.t.d.def_ (d := fns_69) 69; ⟨_, fd, He.meth_ok (fact_at (f := fas_143) c.b 143), fun_of F, FunD.bindsN (ps := P_Statement_word) F (fun _ _ _ _ _ _ us hl => match us, hl with | [_], _ => rfl)⟩
theorem vx_m_Yes_word (X : K.In h) (G : h.Ns mainGlobals mg) (c : SaysC chk fns tss w K) : GMth (tb K) 3 "word" "Yes.word" s_Yes_word P_Yes_word := let ⟨fd, F⟩ := c.t.d.def_ (d := fns_70) 70; ⟨_, fd, He.meth_ok (fact_at (f := fas_144) c.b 144), fun_of F, FunD.bindsN (ps := P_Yes_word) F (fun _ _ _ _ _ _ us hl => match us, hl with | [_], _ => rfl)⟩
theorem vx_m_No_word (X : K.In h) (G : h.Ns mainGlobals mg) (c : SaysC chk fns tss w K) : GMth (tb K) 4 "word" "No.word" s_No_word P_No_word := let ⟨fd, F⟩ := c.t.d.def_ (d := fns_71) 71; ⟨_, fd, He.meth_ok (fact_at (f := fas_145) c.b 145), fun_of F, FunD.bindsN (ps := P_No_word) F (fun _ _ _ _ _ _ us hl => match us, hl with | [_], _ => rfl)⟩
theorem vx_m_Now_word (X : K.In h) (G : h.Ns mainGlobals mg) (c : SaysC chk fns tss w K) : GMth (tb K) 5 "word" "Now.word" s_Now_word P_Now_word := let ⟨fd, F⟩ := c.t.d.def_ (d := fns_72) 72; ⟨_, fd, He.meth_ok (fact_at (f := fas_146) c.b 146), fun_of F, FunD.bindsN (ps := P_Now_word) F (fun _ _ _ _ _ _ us hl => match us, hl with | [_], _ => rfl)⟩
theorem vx_m_OfOne_word (X : K.In h) (G : h.Ns mainGlobals mg) (c : SaysC chk fns tss w K) : GMth (tb K) 6 "word" "Statement.word" s_Statement_word P_Statement_word := let ⟨fd, F⟩ := c.t.d.def_ (d := fns_73) 73; ⟨_, fd, He.meth_ok (fact_at (f := fas_147) c.b 147), fun_of F, FunD.bindsN (ps := P_Statement_word) F (fun _ _ _ _ _ _ us hl => match us, hl with | [_], _ => rfl)⟩
theorem vx_m_OfTwo_word (X : K.In h) (G : h.Ns mainGlobals mg) (c : SaysC chk fns tss w K) : GMth (tb K) 7 "word" "Statement.word" s_Statement_word P_Statement_word := let ⟨fd, F⟩ := c.t.d.def_ (d := fns_74) 74; ⟨_, fd, He.meth_ok (fact_at (f := fas_148) c.b 148), fun_of F, FunD.bindsN (ps := P_Statement_word) F (fun _ _ _ _ _ _ us hl => match us, hl with | [_], _ => rfl)⟩
theorem vx_m_Not_word (X : K.In h) (G : h.Ns mainGlobals mg) (c : SaysC chk fns tss w K) : GMth (tb K) 8 "word" "Not.word" s_Not_word P_Not_word := let ⟨fd, F⟩ := c.t.d.def_ (d := fns_75) 75; ⟨_, fd, He.meth_ok (fact_at (f := fas_149) c.b 149), fun_of F, FunD.bindsN (ps := P_Not_word) F (fun _ _ _ _ _ _ us hl => match us, hl with | [_], _ => rfl)⟩
theorem vx_m_Next_word (X : K.In h) (G : h.Ns mainGlobals mg) (c : SaysC chk fns tss w K) : GMth (tb K) 9 "word" "Next.word" s_Next_word P_Next_word := let ⟨fd, F⟩ := c.t.d.def_ (d := fns_76) 76; ⟨_, fd, He.meth_ok (fact_at (f := fas_150) c.b 150), fun_of F, FunD.bindsN (ps := P_Next_word) F (fun _ _ _ _ _ _ us hl => match us, hl with | [_], _ => rfl)⟩
theorem vx_m_Before_word (X : K.In h) (G : h.Ns mainGlobals mg) (c : SaysC chk fns tss w K) : GMth (tb K) 10 "word" "Before.word" s_Before_word P_Before_word := let ⟨fd, F⟩ := c.t.d.def_ (d := fns_77) 77; ⟨_, fd, He.meth_ok (fact_at (f := fas_151) c.b 151), fun_of F, FunD.bindsN (ps := P_Before_word) F (fun _ _ _ _ _ _ us hl => match us, hl with | [_], _ => rfl)⟩
theorem vx_m_Early_word (X : K.In h) (G : h.Ns mainGlobals mg) (c : SaysC chk fns tss w K) : GMth (tb K) 11 "word" "Early.word" s_Early_word P_Early_word := let ⟨fd, F⟩ := c.t.d.def_ (d := fns_78) 78; ⟨_, fd, He.meth_ok (fact_at (f := fas_152) c.b 152), fun_of F, FunD.bindsN (ps := P_Early_word) F (fun _ _ _ _ _ _ us hl => match us, hl with | [_], _ => rfl)⟩
theorem vx_m_Soon_word (X : K.In h) (G : h.Ns mainGlobals mg) (c : SaysC chk fns tss w K) : GMth (tb K) 12 "word" "Soon.word" s_Soon_word P_Soon_word := let ⟨fd, F⟩ := c.t.d.def_ (d := fns_79) 79; ⟨_, fd, He.meth_ok (fact_at (f := fas_153) c.b 153), fun_of F, FunD.bindsN (ps := P_Soon_word) F (fun _ _ _ _ _ _ us hl => match us, hl with | [_], _ => rfl)⟩
theorem vx_m_Ever_word (X : K.In h) (G : h.Ns mainGlobals mg) (c : SaysC chk fns tss w K) : GMth (tb K) 13 "word" "Ever.word" s_Ever_word P_Ever_word := let ⟨fd, F⟩ := c.t.d.def_ (d := fns_80) 80; ⟨_, fd, He.meth_ok (fact_at (f := fas_154) c.b 154), fun_of F, FunD.bindsN (ps := P_Ever_word) F (fun _ _ _ _ _ _ us hl => match us, hl with | [_], _ => rfl)⟩
theorem vx_m_Once_word (X : K.In h) (G : h.Ns mainGlobals mg) (c : SaysC chk fns tss w K) : GMth (tb K) 14 "word" "Once.word" s_Once_word P_Once_word := let ⟨fd, F⟩ := c.t.d.def_ (d := fns_81) 81; ⟨_, fd, He.meth_ok (fact_at (f := fas_155) c.b 155), fun_of F, FunD.bindsN (ps := P_Once_word) F (fun _ _ _ _ _ _ us hl => match us, hl with | [_], _ => rfl)⟩
theorem vx_m_Sofar_word (X : K.In h) (G : h.Ns mainGlobals mg) (c : SaysC chk fns tss w K) : GMth (tb K) 15 "word" "Sofar.word" s_Sofar_word P_Sofar_word := let ⟨fd, F⟩ := c.t.d.def_ (d := fns_82) 82; ⟨_, fd, He.meth_ok (fact_at (f := fas_156) c.b 156), fun_of F, FunD.bindsN (ps := P_Sofar_word) F (fun _ _ _ _ _ _ us hl => match us, hl with | [_], _ => rfl)⟩
theorem vx_m_Again_word (X : K.In h) (G : h.Ns mainGlobals mg) (c : SaysC chk fns tss w K) : GMth (tb K) 16 "word" "Again.word" s_Again_word P_Again_word := let ⟨fd, F⟩ := c.t.d.def_ (d := fns_83) 83; ⟨_, fd, He.meth_ok (fact_at (f := fas_157) c.b 157), fun_of F, FunD.bindsN (ps := P_Again_word) F (fun _ _ _ _ _ _ us hl => match us, hl with | [_], _ => rfl)⟩
theorem vx_m_Settles_word (X : K.In h) (G : h.Ns mainGlobals mg) (c : SaysC chk fns tss w K) : GMth (tb K) 17 "word" "Settles.word" s_Settles_word P_Settles_word := let ⟨fd, F⟩ := c.t.d.def_ (d := fns_84) 84; ⟨_, fd, He.meth_ok (fact_at (f := fas_158) c.b 158), fun_of F, FunD.bindsN (ps := P_Settles_word) F (fun _ _ _ _ _ _ us hl => match us, hl with | [_], _ => rfl)⟩
theorem vx_m_Both_word (X : K.In h) (G : h.Ns mainGlobals mg) (c : SaysC chk fns tss w K) : GMth (tb K) 18 "word" "Both.word" s_Both_word P_Both_word := let ⟨fd, F⟩ := c.t.d.def_ (d := fns_85) 85; ⟨_, fd, He.meth_ok (fact_at (f := fas_159) c.b 159), fun_of F, FunD.bindsN (ps := P_Both_word) F (fun _ _ _ _ _ _ us hl => match us, hl with | [_], _ => rfl)⟩
theorem vx_m_Either_word (X : K.In h) (G : h.Ns mainGlobals mg) (c : SaysC chk fns tss w K) : GMth (tb K) 19 "word" "Either.word" s_Either_word P_Either_word := let ⟨fd, F⟩ := c.t.d.def_ (d := fns_86) 86; ⟨_, fd, He.meth_ok (fact_at (f := fas_160) c.b 160), fun_of F, FunD.bindsN (ps := P_Either_word) F (fun _ _ _ _ _ _ us hl => match us, hl with | [_], _ => rfl)⟩
theorem vx_m_Then_word (X : K.In h) (G : h.Ns mainGlobals mg) (c : SaysC chk fns tss w K) : GMth (tb K) 20 "word" "Then.word" s_Then_word P_Then_word := let ⟨fd, F⟩ := c.t.d.def_ (d := fns_87) 87; ⟨_, fd, He.meth_ok (fact_at (f := fas_161) c.b 161), fun_of F, FunD.bindsN (ps := P_Then_word) F (fun _ _ _ _ _ _ us hl => match us, hl with | [_], _ => rfl)⟩
theorem vx_m_Until_word (X : K.In h) (G : h.Ns mainGlobals mg) (c : SaysC chk fns tss w K) : GMth (tb K) 21 "word" "Until.word" s_Until_word P_Until_word := let ⟨fd, F⟩ := c.t.d.def_ (d := fns_88) 88; ⟨_, fd, He.meth_ok (fact_at (f := fas_162) c.b 162), fun_of F, FunD.bindsN (ps := P_Until_word) F (fun _ _ _ _ _ _ us hl => match us, hl with | [_], _ => rfl)⟩
theorem vx_m_Since_word (X : K.In h) (G : h.Ns mainGlobals mg) (c : SaysC chk fns tss w K) : GMth (tb K) 22 "word" "Since.word" s_Since_word P_Since_word := let ⟨fd, F⟩ := c.t.d.def_ (d := fns_89) 89; ⟨_, fd, He.meth_ok (fact_at (f := fas_163) c.b 163), fun_of F, FunD.bindsN (ps := P_Since_word) F (fun _ _ _ _ _ _ us hl => match us, hl with | [_], _ => rfl)⟩
theorem vx_m_Frees_word (X : K.In h) (G : h.Ns mainGlobals mg) (c : SaysC chk fns tss w K) : GMth (tb K) 23 "word" "Frees.word" s_Frees_word P_Frees_word := let ⟨fd, F⟩ := c.t.d.def_ (d := fns_90) 90; ⟨_, fd, He.meth_ok (fact_at (f := fas_164) c.b 164), fun_of F, FunD.bindsN (ps := P_Frees_word) F (fun _ _ _ _ _ _ us hl => match us, hl with | [_], _ => rfl)⟩
theorem vx_m_Held_word (X : K.In h) (G : h.Ns mainGlobals mg) (c : SaysC chk fns tss w K) : GMth (tb K) 24 "word" "Held.word" s_Held_word P_Held_word := let ⟨fd, F⟩ := c.t.d.def_ (d := fns_91) 91; ⟨_, fd, He.meth_ok (fact_at (f := fas_165) c.b 165), fun_of F, FunD.bindsN (ps := P_Held_word) F (fun _ _ _ _ _ _ us hl => match us, hl with | [_], _ => rfl)⟩
theorem vx_k_Yes (X : K.In h) (G : h.Ns mainGlobals mg) (c : SaysC chk fns tss w K) : GMkN (tb K) mg "Yes" 3 := ⟨He.glo_ok X G (fact_at (f := fas_25) c.b 25), mkn_ok (fact_at (f := fas_166) c.b 166)⟩
theorem vx_k_No (X : K.In h) (G : h.Ns mainGlobals mg) (c : SaysC chk fns tss w K) : GMkN (tb K) mg "No" 4 := ⟨He.glo_ok X G (fact_at (f := fas_27) c.b 27), mkn_ok (fact_at (f := fas_167) c.b 167)⟩
theorem vx_k_Now (X : K.In h) (G : h.Ns mainGlobals mg) (c : SaysC chk fns tss w K) : GMk (tb K) mg "Now" 5 "Now.__init__" s_Now___init__ P_Now___init__ := let ⟨fd, F⟩ := c.t.d.def_ (d := fns_92) 92; ⟨_, fd, He.glo_ok X G (fact_at (f := fas_29) c.b 29), He.mkr_ok (fact_at (f := fas_168) c.b 168), fun_of F, FunD.bindsN (ps := P_Now___init__) F (fun _ _ _ _ _ _ us hl => match us, hl with | [_, _], _ => rfl)⟩
theorem vx_k_Not (X : K.In h) (G : h.Ns mainGlobals mg) (c : SaysC chk fns tss w K) : GMk (tb K) mg "Not" 8 "OfOne.__init__" s_OfOne___init__ P_OfOne___init__ := let ⟨fd, F⟩ := c.t.d.def_ (d := fns_93) 93; ⟨_, fd, He.glo_ok X G (fact_at (f := fas_39) c.b 39), He.mkr_ok (fact_at (f := fas_169) c.b 169), fun_of F, FunD.bindsN (ps := P_OfOne___init__) F (fun _ _ _ _ _ _ us hl => match us, hl with | [_, _], _ => rfl)⟩
theorem vx_k_Next (X : K.In h) (G : h.Ns mainGlobals mg) (c : SaysC chk fns tss w K) : GMk (tb K) mg "Next" 9 "OfOne.__init__" s_OfOne___init__ P_OfOne___init__ := let ⟨fd, F⟩ := c.t.d.def_ (d := fns_94) 94; ⟨_, fd, He.glo_ok X G (fact_at (f := fas_42) c.b 42), He.mkr_ok (fact_at (f := fas_170) c.b 170), fun_of F, FunD.bindsN (ps := P_OfOne___init__) F (fun _ _ _ _ _ _ us hl => match us, hl with | [_, _], _ => rfl)⟩
theorem vx_k_Before (X : K.In h) (G : h.Ns mainGlobals mg) (c : SaysC chk fns tss w K) : GMk (tb K) mg "Before" 10 "OfOne.__init__" s_OfOne___init__ P_OfOne___init__ := let ⟨fd, F⟩ := c.t.d.def_ (d := fns_95) 95; ⟨_, fd, He.glo_ok X G (fact_at (f := fas_45) c.b 45), He.mkr_ok (fact_at (f := fas_171) c.b 171), fun_of F, FunD.bindsN (ps := P_OfOne___init__) F (fun _ _ _ _ _ _ us hl => match us, hl with | [_, _], _ => rfl)⟩
theorem vx_k_Early (X : K.In h) (G : h.Ns mainGlobals mg) (c : SaysC chk fns tss w K) : GMk (tb K) mg "Early" 11 "OfOne.__init__" s_OfOne___init__ P_OfOne___init__ := let ⟨fd, F⟩ := c.t.d.def_ (d := fns_96) 96; ⟨_, fd, He.glo_ok X G (fact_at (f := fas_48) c.b 48), He.mkr_ok (fact_at (f := fas_172) c.b 172), fun_of F, FunD.bindsN (ps := P_OfOne___init__) F (fun _ _ _ _ _ _ us hl => match us, hl with | [_, _], _ => rfl)⟩
theorem vx_k_Soon (X : K.In h) (G : h.Ns mainGlobals mg) (c : SaysC chk fns tss w K) : GMk (tb K) mg "Soon" 12 "OfOne.__init__" s_OfOne___init__ P_OfOne___init__ := let ⟨fd, F⟩ := c.t.d.def_ (d := fns_97) 97; ⟨_, fd, He.glo_ok X G (fact_at (f := fas_51) c.b 51), He.mkr_ok (fact_at (f := fas_173) c.b 173), fun_of F, FunD.bindsN (ps := P_OfOne___init__) F (fun _ _ _ _ _ _ us hl => match us, hl with | [_, _], _ => rfl)⟩
theorem vx_k_Ever (X : K.In h) (G : h.Ns mainGlobals mg) (c : SaysC chk fns tss w K) : GMk (tb K) mg "Ever" 13 "OfOne.__init__" s_OfOne___init__ P_OfOne___init__ := let ⟨fd, F⟩ := c.t.d.def_ (d := fns_98) 98; ⟨_, fd, He.glo_ok X G (fact_at (f := fas_54) c.b 54), He.mkr_ok (fact_at (f := fas_174) c.b 174), fun_of F, FunD.bindsN (ps := P_OfOne___init__) F (fun _ _ _ _ _ _ us hl => match us, hl with | [_, _], _ => rfl)⟩
theorem vx_k_Once (X : K.In h) (G : h.Ns mainGlobals mg) (c : SaysC chk fns tss w K) : GMk (tb K) mg "Once" 14 "OfOne.__init__" s_OfOne___init__ P_OfOne___init__ := let ⟨fd, F⟩ := c.t.d.def_ (d := fns_99) 99; ⟨_, fd, He.glo_ok X G (fact_at (f := fas_57) c.b 57), He.mkr_ok (fact_at (f := fas_175) c.b 175), fun_of F, FunD.bindsN (ps := P_OfOne___init__) F (fun _ _ _ _ _ _ us hl => match us, hl with | [_, _], _ => rfl)⟩
theorem vx_k_Sofar (X : K.In h) (G : h.Ns mainGlobals mg) (c : SaysC chk fns tss w K) : GMk (tb K) mg "Sofar" 15 "OfOne.__init__" s_OfOne___init__ P_OfOne___init__ := let ⟨fd, F⟩ := c.t.d.def_ (d := fns_100) 100; ⟨_, fd, He.glo_ok X G (fact_at (f := fas_60) c.b 60), He.mkr_ok (fact_at (f := fas_176) c.b 176), fun_of F, FunD.bindsN (ps := P_OfOne___init__) F (fun _ _ _ _ _ _ us hl => match us, hl with | [_, _], _ => rfl)⟩
theorem vx_k_Again (X : K.In h) (G : h.Ns mainGlobals mg) (c : SaysC chk fns tss w K) : GMk (tb K) mg "Again" 16 "OfOne.__init__" s_OfOne___init__ P_OfOne___init__ := let ⟨fd, F⟩ := c.t.d.def_ (d := fns_101) 101; ⟨_, fd, He.glo_ok X G (fact_at (f := fas_63) c.b 63), He.mkr_ok (fact_at (f := fas_177) c.b 177), fun_of F, FunD.bindsN (ps := P_OfOne___init__) F (fun _ _ _ _ _ _ us hl => match us, hl with | [_, _], _ => rfl)⟩
theorem vx_k_Settles (X : K.In h) (G : h.Ns mainGlobals mg) (c : SaysC chk fns tss w K) : GMk (tb K) mg "Settles" 17 "OfOne.__init__" s_OfOne___init__ P_OfOne___init__ := let ⟨fd, F⟩ := c.t.d.def_ (d := fns_102) 102; ⟨_, fd, He.glo_ok X G (fact_at (f := fas_66) c.b 66), He.mkr_ok (fact_at (f := fas_178) c.b 178), fun_of F, FunD.bindsN (ps := P_OfOne___init__) F (fun _ _ _ _ _ _ us hl => match us, hl with | [_, _], _ => rfl)⟩
theorem vx_k_Both (X : K.In h) (G : h.Ns mainGlobals mg) (c : SaysC chk fns tss w K) : GMk (tb K) mg "Both" 18 "OfTwo.__init__" s_OfTwo___init__ P_OfTwo___init__ := let ⟨fd, F⟩ := c.t.d.def_ (d := fns_103) 103; ⟨_, fd, He.glo_ok X G (fact_at (f := fas_69) c.b 69), He.mkr_ok (fact_at (f := fas_179) c.b 179), fun_of F, FunD.bindsN (ps := P_OfTwo___init__) F (fun _ _ _ _ _ _ us hl => match us, hl with | [_, _, _], _ => rfl)⟩
theorem vx_k_Either (X : K.In h) (G : h.Ns mainGlobals mg) (c : SaysC chk fns tss w K) : GMk (tb K) mg "Either" 19 "OfTwo.__init__" s_OfTwo___init__ P_OfTwo___init__ := let ⟨fd, F⟩ := c.t.d.def_ (d := fns_104) 104; ⟨_, fd, He.glo_ok X G (fact_at (f := fas_73) c.b 73), He.mkr_ok (fact_at (f := fas_180) c.b 180), fun_of F, FunD.bindsN (ps := P_OfTwo___init__) F (fun _ _ _ _ _ _ us hl => match us, hl with | [_, _, _], _ => rfl)⟩
theorem vx_k_Then (X : K.In h) (G : h.Ns mainGlobals mg) (c : SaysC chk fns tss w K) : GMk (tb K) mg "Then" 20 "OfTwo.__init__" s_OfTwo___init__ P_OfTwo___init__ := let ⟨fd, F⟩ := c.t.d.def_ (d := fns_105) 105; ⟨_, fd, He.glo_ok X G (fact_at (f := fas_77) c.b 77), He.mkr_ok (fact_at (f := fas_181) c.b 181), fun_of F, FunD.bindsN (ps := P_OfTwo___init__) F (fun _ _ _ _ _ _ us hl => match us, hl with | [_, _, _], _ => rfl)⟩
theorem vx_k_Until (X : K.In h) (G : h.Ns mainGlobals mg) (c : SaysC chk fns tss w K) : GMk (tb K) mg "Until" 21 "OfTwo.__init__" s_OfTwo___init__ P_OfTwo___init__ := let ⟨fd, F⟩ := c.t.d.def_ (d := fns_106) 106; ⟨_, fd, He.glo_ok X G (fact_at (f := fas_81) c.b 81), He.mkr_ok (fact_at (f := fas_182) c.b 182), fun_of F, FunD.bindsN (ps := P_OfTwo___init__) F (fun _ _ _ _ _ _ us hl => match us, hl with | [_, _, _], _ => rfl)⟩
theorem vx_k_Since (X : K.In h) (G : h.Ns mainGlobals mg) (c : SaysC chk fns tss w K) : GMk (tb K) mg "Since" 22 "OfTwo.__init__" s_OfTwo___init__ P_OfTwo___init__ := let ⟨fd, F⟩ := c.t.d.def_ (d := fns_107) 107; ⟨_, fd, He.glo_ok X G (fact_at (f := fas_85) c.b 85), He.mkr_ok (fact_at (f := fas_183) c.b 183), fun_of F, FunD.bindsN (ps := P_OfTwo___init__) F (fun _ _ _ _ _ _ us hl => match us, hl with | [_, _, _], _ => rfl)⟩
theorem vx_k_Frees (X : K.In h) (G : h.Ns mainGlobals mg) (c : SaysC chk fns tss w K) : GMk (tb K) mg "Frees" 23 "OfTwo.__init__" s_OfTwo___init__ P_OfTwo___init__ := let ⟨fd, F⟩ := c.t.d.def_ (d := fns_108) 108; ⟨_, fd, He.glo_ok X G (fact_at (f := fas_89) c.b 89), He.mkr_ok (fact_at (f := fas_184) c.b 184), fun_of F, FunD.bindsN (ps := P_OfTwo___init__) F (fun _ _ _ _ _ _ us hl => match us, hl with | [_, _, _], _ => rfl)⟩
theorem vx_k_Held (X : K.In h) (G : h.Ns mainGlobals mg) (c : SaysC chk fns tss w K) : GMk (tb K) mg "Held" 24 "OfTwo.__init__" s_OfTwo___init__ P_OfTwo___init__ := let ⟨fd, F⟩ := c.t.d.def_ (d := fns_109) 109; ⟨_, fd, He.glo_ok X G (fact_at (f := fas_93) c.b 93), He.mkr_ok (fact_at (f := fas_185) c.b 185), fun_of F, FunD.bindsN (ps := P_OfTwo___init__) F (fun _ _ _ _ _ _ us hl => match us, hl with | [_, _, _], _ => rfl)⟩
theorem vx_q_Statement (X : K.In h) (G : h.Ns mainGlobals mg) (c : SaysC chk fns tss w K) : ClsOk (tb K) 2 := ⟨He.cls_ok (fact_at (f := fas_24) c.b 24), (show (flds 2).Nodup by decide +kernel), (show (flds 2).length ≤ 100 by decide +kernel), fun f hf => (nomatch hf)⟩
theorem vx_q_Yes (X : K.In h) (G : h.Ns mainGlobals mg) (c : SaysC chk fns tss w K) : ClsOk (tb K) 3 := ⟨He.cls_ok (fact_at (f := fas_26) c.b 26), (show (flds 3).Nodup by decide +kernel), (show (flds 3).length ≤ 100 by decide +kernel), fun f hf => (nomatch hf)⟩
theorem vx_q_No (X : K.In h) (G : h.Ns mainGlobals mg) (c : SaysC chk fns tss w K) : ClsOk (tb K) 4 := ⟨He.cls_ok (fact_at (f := fas_28) c.b 28), (show (flds 4).Nodup by decide +kernel), (show (flds 4).length ≤ 100 by decide +kernel), fun f hf => (nomatch hf)⟩
theorem vx_q_Now (X : K.In h) (G : h.Ns mainGlobals mg) (c : SaysC chk fns tss w K) : ClsOk (tb K) 5 := ⟨He.cls_ok (fact_at (f := fas_30) c.b 30), (show (flds 5).Nodup by decide +kernel), (show (flds 5).length ≤ 100 by decide +kernel), fun f hf => by
    have hf : f ∈ (["mark"] : List PySem.Str) := hf
    simp only [List.mem_cons, List.not_mem_nil, or_false] at hf
    subst hf
    · exact He.noat_ok (fact_at (f := fas_31) c.b 31)⟩
theorem vx_q_OfOne (X : K.In h) (G : h.Ns mainGlobals mg) (c : SaysC chk fns tss w K) : ClsOk (tb K) 6 := ⟨He.cls_ok (fact_at (f := fas_33) c.b 33), (show (flds 6).Nodup by decide +kernel), (show (flds 6).length ≤ 100 by decide +kernel), fun f hf => by
    have hf : f ∈ (["one"] : List PySem.Str) := hf
    simp only [List.mem_cons, List.not_mem_nil, or_false] at hf
    subst hf
    · exact He.noat_ok (fact_at (f := fas_34) c.b 34)⟩
theorem vx_q_OfTwo (X : K.In h) (G : h.Ns mainGlobals mg) (c : SaysC chk fns tss w K) : ClsOk (tb K) 7 := ⟨He.cls_ok (fact_at (f := fas_36) c.b 36), (show (flds 7).Nodup by decide +kernel), (show (flds 7).length ≤ 100 by decide +kernel), fun f hf => by
    have hf : f ∈ (["one", "other"] : List PySem.Str) := hf
    simp only [List.mem_cons, List.not_mem_nil, or_false] at hf
    rcases hf with rfl | rfl
    · exact He.noat_ok (fact_at (f := fas_37) c.b 37)
    · exact He.noat_ok (fact_at (f := fas_38) c.b 38)⟩
theorem vx_q_Not (X : K.In h) (G : h.Ns mainGlobals mg) (c : SaysC chk fns tss w K) : ClsOk (tb K) 8 := ⟨He.cls_ok (fact_at (f := fas_40) c.b 40), (show (flds 8).Nodup by decide +kernel), (show (flds 8).length ≤ 100 by decide +kernel), fun f hf => by
    have hf : f ∈ (["one"] : List PySem.Str) := hf
    simp only [List.mem_cons, List.not_mem_nil, or_false] at hf
    subst hf
    · exact He.noat_ok (fact_at (f := fas_41) c.b 41)⟩
theorem vx_q_Next (X : K.In h) (G : h.Ns mainGlobals mg) (c : SaysC chk fns tss w K) : ClsOk (tb K) 9 := ⟨He.cls_ok (fact_at (f := fas_43) c.b 43), (show (flds 9).Nodup by decide +kernel), (show (flds 9).length ≤ 100 by decide +kernel), fun f hf => by
    have hf : f ∈ (["one"] : List PySem.Str) := hf
    simp only [List.mem_cons, List.not_mem_nil, or_false] at hf
    subst hf
    · exact He.noat_ok (fact_at (f := fas_44) c.b 44)⟩
theorem vx_q_Before (X : K.In h) (G : h.Ns mainGlobals mg) (c : SaysC chk fns tss w K) : ClsOk (tb K) 10 := ⟨He.cls_ok (fact_at (f := fas_46) c.b 46), (show (flds 10).Nodup by decide +kernel), (show (flds 10).length ≤ 100 by decide +kernel), fun f hf => by
    have hf : f ∈ (["one"] : List PySem.Str) := hf
    simp only [List.mem_cons, List.not_mem_nil, or_false] at hf
    subst hf
    · exact He.noat_ok (fact_at (f := fas_47) c.b 47)⟩
theorem vx_q_Early (X : K.In h) (G : h.Ns mainGlobals mg) (c : SaysC chk fns tss w K) : ClsOk (tb K) 11 := ⟨He.cls_ok (fact_at (f := fas_49) c.b 49), (show (flds 11).Nodup by decide +kernel), (show (flds 11).length ≤ 100 by decide +kernel), fun f hf => by
    have hf : f ∈ (["one"] : List PySem.Str) := hf
    simp only [List.mem_cons, List.not_mem_nil, or_false] at hf
    subst hf
    · exact He.noat_ok (fact_at (f := fas_50) c.b 50)⟩
theorem vx_q_Soon (X : K.In h) (G : h.Ns mainGlobals mg) (c : SaysC chk fns tss w K) : ClsOk (tb K) 12 := ⟨He.cls_ok (fact_at (f := fas_52) c.b 52), (show (flds 12).Nodup by decide +kernel), (show (flds 12).length ≤ 100 by decide +kernel), fun f hf => by
    have hf : f ∈ (["one"] : List PySem.Str) := hf
    simp only [List.mem_cons, List.not_mem_nil, or_false] at hf
    subst hf
    · exact He.noat_ok (fact_at (f := fas_53) c.b 53)⟩
theorem vx_q_Ever (X : K.In h) (G : h.Ns mainGlobals mg) (c : SaysC chk fns tss w K) : ClsOk (tb K) 13 := ⟨He.cls_ok (fact_at (f := fas_55) c.b 55), (show (flds 13).Nodup by decide +kernel), (show (flds 13).length ≤ 100 by decide +kernel), fun f hf => by
    have hf : f ∈ (["one"] : List PySem.Str) := hf
    simp only [List.mem_cons, List.not_mem_nil, or_false] at hf
    subst hf
    · exact He.noat_ok (fact_at (f := fas_56) c.b 56)⟩
theorem vx_q_Once (X : K.In h) (G : h.Ns mainGlobals mg) (c : SaysC chk fns tss w K) : ClsOk (tb K) 14 := ⟨He.cls_ok (fact_at (f := fas_58) c.b 58), (show (flds 14).Nodup by decide +kernel), (show (flds 14).length ≤ 100 by decide +kernel), fun f hf => by
    have hf : f ∈ (["one"] : List PySem.Str) := hf
    simp only [List.mem_cons, List.not_mem_nil, or_false] at hf
    subst hf
    · exact He.noat_ok (fact_at (f := fas_59) c.b 59)⟩
theorem vx_q_Sofar (X : K.In h) (G : h.Ns mainGlobals mg) (c : SaysC chk fns tss w K) : ClsOk (tb K) 15 := ⟨He.cls_ok (fact_at (f := fas_61) c.b 61), (show (flds 15).Nodup by decide +kernel), (show (flds 15).length ≤ 100 by decide +kernel), fun f hf => by
    have hf : f ∈ (["one"] : List PySem.Str) := hf
    simp only [List.mem_cons, List.not_mem_nil, or_false] at hf
    subst hf
    · exact He.noat_ok (fact_at (f := fas_62) c.b 62)⟩
theorem vx_q_Again (X : K.In h) (G : h.Ns mainGlobals mg) (c : SaysC chk fns tss w K) : ClsOk (tb K) 16 := ⟨He.cls_ok (fact_at (f := fas_64) c.b 64), (show (flds 16).Nodup by decide +kernel), (show (flds 16).length ≤ 100 by decide +kernel), fun f hf => by
    have hf : f ∈ (["one"] : List PySem.Str) := hf
    simp only [List.mem_cons, List.not_mem_nil, or_false] at hf
    subst hf
    · exact He.noat_ok (fact_at (f := fas_65) c.b 65)⟩
theorem vx_q_Settles (X : K.In h) (G : h.Ns mainGlobals mg) (c : SaysC chk fns tss w K) : ClsOk (tb K) 17 := ⟨He.cls_ok (fact_at (f := fas_67) c.b 67), (show (flds 17).Nodup by decide +kernel), (show (flds 17).length ≤ 100 by decide +kernel), fun f hf => by
    have hf : f ∈ (["one"] : List PySem.Str) := hf
    simp only [List.mem_cons, List.not_mem_nil, or_false] at hf
    subst hf
    · exact He.noat_ok (fact_at (f := fas_68) c.b 68)⟩
theorem vx_q_Both (X : K.In h) (G : h.Ns mainGlobals mg) (c : SaysC chk fns tss w K) : ClsOk (tb K) 18 := ⟨He.cls_ok (fact_at (f := fas_70) c.b 70), (show (flds 18).Nodup by decide +kernel), (show (flds 18).length ≤ 100 by decide +kernel), fun f hf => by
    have hf : f ∈ (["one", "other"] : List PySem.Str) := hf
    simp only [List.mem_cons, List.not_mem_nil, or_false] at hf
    rcases hf with rfl | rfl
    · exact He.noat_ok (fact_at (f := fas_71) c.b 71)
    · exact He.noat_ok (fact_at (f := fas_72) c.b 72)⟩
theorem vx_q_Either (X : K.In h) (G : h.Ns mainGlobals mg) (c : SaysC chk fns tss w K) : ClsOk (tb K) 19 := ⟨He.cls_ok (fact_at (f := fas_74) c.b 74), (show (flds 19).Nodup by decide +kernel), (show (flds 19).length ≤ 100 by decide +kernel), fun f hf => by
    have hf : f ∈ (["one", "other"] : List PySem.Str) := hf
    simp only [List.mem_cons, List.not_mem_nil, or_false] at hf
    rcases hf with rfl | rfl
    · exact He.noat_ok (fact_at (f := fas_75) c.b 75)
    · exact He.noat_ok (fact_at (f := fas_76) c.b 76)⟩
theorem vx_q_Then (X : K.In h) (G : h.Ns mainGlobals mg) (c : SaysC chk fns tss w K) : ClsOk (tb K) 20 := ⟨He.cls_ok (fact_at (f := fas_78) c.b 78), (show (flds 20).Nodup by decide +kernel), (show (flds 20).length ≤ 100 by decide +kernel), fun f hf => by
    have hf : f ∈ (["one", "other"] : List PySem.Str) := hf
    simp only [List.mem_cons, List.not_mem_nil, or_false] at hf
    rcases hf with rfl | rfl
    · exact He.noat_ok (fact_at (f := fas_79) c.b 79)
    · exact He.noat_ok (fact_at (f := fas_80) c.b 80)⟩
theorem vx_q_Until (X : K.In h) (G : h.Ns mainGlobals mg) (c : SaysC chk fns tss w K) : ClsOk (tb K) 21 := ⟨He.cls_ok (fact_at (f := fas_82) c.b 82), (show (flds 21).Nodup by decide +kernel), (show (flds 21).length ≤ 100 by decide +kernel), fun f hf => by
    have hf : f ∈ (["one", "other"] : List PySem.Str) := hf
    simp only [List.mem_cons, List.not_mem_nil, or_false] at hf
    rcases hf with rfl | rfl
    · exact He.noat_ok (fact_at (f := fas_83) c.b 83)
    · exact He.noat_ok (fact_at (f := fas_84) c.b 84)⟩
theorem vx_q_Since (X : K.In h) (G : h.Ns mainGlobals mg) (c : SaysC chk fns tss w K) : ClsOk (tb K) 22 := ⟨He.cls_ok (fact_at (f := fas_86) c.b 86), (show (flds 22).Nodup by decide +kernel), (show (flds 22).length ≤ 100 by decide +kernel), fun f hf => by
    have hf : f ∈ (["one", "other"] : List PySem.Str) := hf
    simp only [List.mem_cons, List.not_mem_nil, or_false] at hf
    rcases hf with rfl | rfl
    · exact He.noat_ok (fact_at (f := fas_87) c.b 87)
    · exact He.noat_ok (fact_at (f := fas_88) c.b 88)⟩
theorem vx_q_Frees (X : K.In h) (G : h.Ns mainGlobals mg) (c : SaysC chk fns tss w K) : ClsOk (tb K) 23 := ⟨He.cls_ok (fact_at (f := fas_90) c.b 90), (show (flds 23).Nodup by decide +kernel), (show (flds 23).length ≤ 100 by decide +kernel), fun f hf => by
    have hf : f ∈ (["one", "other"] : List PySem.Str) := hf
    simp only [List.mem_cons, List.not_mem_nil, or_false] at hf
    rcases hf with rfl | rfl
    · exact He.noat_ok (fact_at (f := fas_91) c.b 91)
    · exact He.noat_ok (fact_at (f := fas_92) c.b 92)⟩
theorem vx_q_Held (X : K.In h) (G : h.Ns mainGlobals mg) (c : SaysC chk fns tss w K) : ClsOk (tb K) 24 := ⟨He.cls_ok (fact_at (f := fas_94) c.b 94), (show (flds 24).Nodup by decide +kernel), (show (flds 24).length ≤ 100 by decide +kernel), fun f hf => by
    have hf : f ∈ (["one", "other"] : List PySem.Str) := hf
    simp only [List.mem_cons, List.not_mem_nil, or_false] at hf
    rcases hf with rfl | rfl
    · exact He.noat_ok (fact_at (f := fas_95) c.b 95)
    · exact He.noat_ok (fact_at (f := fas_96) c.b 96)⟩
theorem vx (X : K.In h) (G : h.Ns mainGlobals mg) (c : SaysC chk fns tss w K) : Vx w K mg where
  n_all := vx_n_all X G c
  n_bool := vx_n_bool X G c
  n_isinstance := vx_n_isinstance X G c
  n_len := vx_n_len X G c
  n_range := vx_n_range X G c
  n_str := vx_n_str X G c
  n_tuple := vx_n_tuple X G c
  c_DUALS := vx_c_DUALS X G c
  c_FIGURES := vx_c_FIGURES X G c
  c_MOST_SIGNS := vx_c_MOST_SIGNS X G c
  c_OF_ONE := vx_c_OF_ONE X G c
  c_OF_TWO := vx_c_OF_TWO X G c
  c_SMALL := vx_c_SMALL X G c
  f_kept_words := vx_f_kept_words X G c
  f_is_mark := vx_f_is_mark X G c
  f_of_one := vx_f_of_one X G c
  f_of_two := vx_f_of_two X G c
  f_is_form := vx_f_is_form X G c
  f_need_tree := vx_f_need_tree X G c
  f_built := vx_f_built X G c
  f_statement_of := vx_f_statement_of X G c
  f_soon_of := vx_f_soon_of X G c
  f_ever_of := vx_f_ever_of X G c
  f_plain_of := vx_f_plain_of X G c
  f_pushed_of := vx_f_pushed_of X G c
  f_pushed := vx_f_pushed X G c
  f_is_pushed := vx_f_is_pushed X G c
  f__law_begin := vx_f__law_begin X G c
  f__law_next := vx_f__law_next X G c
  f__law_mark_of := vx_f__law_mark_of X G c
  f__law_marks := vx_f__law_marks X G c
  f__law_leaf := vx_f__law_leaf X G c
  f__law_tree := vx_f__law_tree X G c
  f__law_spoilt := vx_f__law_spoilt X G c
  f__law_is_pushed := vx_f__law_is_pushed X G c
  f_law := vx_f_law X G c
  m_Statement_inner := vx_m_Statement_inner X G c
  m_Yes_inner := vx_m_Yes_inner X G c
  m_No_inner := vx_m_No_inner X G c
  m_Now_inner := vx_m_Now_inner X G c
  m_OfOne_inner := vx_m_OfOne_inner X G c
  m_OfTwo_inner := vx_m_OfTwo_inner X G c
  m_Not_inner := vx_m_Not_inner X G c
  m_Next_inner := vx_m_Next_inner X G c
  m_Before_inner := vx_m_Before_inner X G c
  m_Early_inner := vx_m_Early_inner X G c
  m_Soon_inner := vx_m_Soon_inner X G c
  m_Ever_inner := vx_m_Ever_inner X G c
  m_Once_inner := vx_m_Once_inner X G c
  m_Sofar_inner := vx_m_Sofar_inner X G c
  m_Again_inner := vx_m_Again_inner X G c
  m_Settles_inner := vx_m_Settles_inner X G c
  m_Both_inner := vx_m_Both_inner X G c
  m_Either_inner := vx_m_Either_inner X G c
  m_Then_inner := vx_m_Then_inner X G c
  m_Until_inner := vx_m_Until_inner X G c
  m_Since_inner := vx_m_Since_inner X G c
  m_Frees_inner := vx_m_Frees_inner X G c
  m_Held_inner := vx_m_Held_inner X G c
  m_Statement_tree := vx_m_Statement_tree X G c
  m_Yes_tree := vx_m_Yes_tree X G c
  m_No_tree := vx_m_No_tree X G c
  m_Now_tree := vx_m_Now_tree X G c
  m_OfOne_tree := vx_m_OfOne_tree X G c
  m_OfTwo_tree := vx_m_OfTwo_tree X G c
  m_Not_tree := vx_m_Not_tree X G c
  m_Next_tree := vx_m_Next_tree X G c
  m_Before_tree := vx_m_Before_tree X G c
  m_Early_tree := vx_m_Early_tree X G c
  m_Soon_tree := vx_m_Soon_tree X G c
  m_Ever_tree := vx_m_Ever_tree X G c
  m_Once_tree := vx_m_Once_tree X G c
  m_Sofar_tree := vx_m_Sofar_tree X G c
  m_Again_tree := vx_m_Again_tree X G c
  m_Settles_tree := vx_m_Settles_tree X G c
  m_Both_tree := vx_m_Both_tree X G c
  m_Either_tree := vx_m_Either_tree X G c
  m_Then_tree := vx_m_Then_tree X G c
  m_Until_tree := vx_m_Until_tree X G c
  m_Since_tree := vx_m_Since_tree X G c
  m_Frees_tree := vx_m_Frees_tree X G c
  m_Held_tree := vx_m_Held_tree X G c
  m_Statement_word := vx_m_Statement_word X G c
  m_Yes_word := vx_m_Yes_word X G c
  m_No_word := vx_m_No_word X G c
  m_Now_word := vx_m_Now_word X G c
  m_OfOne_word := vx_m_OfOne_word X G c
  m_OfTwo_word := vx_m_OfTwo_word X G c
  m_Not_word := vx_m_Not_word X G c
  m_Next_word := vx_m_Next_word X G c
  m_Before_word := vx_m_Before_word X G c
  m_Early_word := vx_m_Early_word X G c
  m_Soon_word := vx_m_Soon_word X G c
  m_Ever_word := vx_m_Ever_word X G c
  m_Once_word := vx_m_Once_word X G c
  m_Sofar_word := vx_m_Sofar_word X G c
  m_Again_word := vx_m_Again_word X G c
  m_Settles_word := vx_m_Settles_word X G c
  m_Both_word := vx_m_Both_word X G c
  m_Either_word := vx_m_Either_word X G c
  m_Then_word := vx_m_Then_word X G c
  m_Until_word := vx_m_Until_word X G c
  m_Since_word := vx_m_Since_word X G c
  m_Frees_word := vx_m_Frees_word X G c
  m_Held_word := vx_m_Held_word X G c
  k_Yes := vx_k_Yes X G c
  k_No := vx_k_No X G c
  k_Now := vx_k_Now X G c
  k_Not := vx_k_Not X G c
  k_Next := vx_k_Next X G c
  k_Before := vx_k_Before X G c
  k_Early := vx_k_Early X G c
  k_Soon := vx_k_Soon X G c
  k_Ever := vx_k_Ever X G c
  k_Once := vx_k_Once X G c
  k_Sofar := vx_k_Sofar X G c
  k_Again := vx_k_Again X G c
  k_Settles := vx_k_Settles X G c
  k_Both := vx_k_Both X G c
  k_Either := vx_k_Either X G c
  k_Then := vx_k_Then X G c
  k_Until := vx_k_Until X G c
  k_Since := vx_k_Since X G c
  k_Frees := vx_k_Frees X G c
  k_Held := vx_k_Held X G c
  q_Statement := vx_q_Statement X G c
  q_Yes := vx_q_Yes X G c
  q_No := vx_q_No X G c
  q_Now := vx_q_Now X G c
  q_OfOne := vx_q_OfOne X G c
  q_OfTwo := vx_q_OfTwo X G c
  q_Not := vx_q_Not X G c
  q_Next := vx_q_Next X G c
  q_Before := vx_q_Before X G c
  q_Early := vx_q_Early X G c
  q_Soon := vx_q_Soon X G c
  q_Ever := vx_q_Ever X G c
  q_Once := vx_q_Once X G c
  q_Sofar := vx_q_Sofar X G c
  q_Again := vx_q_Again X G c
  q_Settles := vx_q_Settles X G c
  q_Both := vx_q_Both X G c
  q_Either := vx_q_Either X G c
  q_Then := vx_q_Then X G c
  q_Until := vx_q_Until X G c
  q_Since := vx_q_Since X G c
  q_Frees := vx_q_Frees X G c
  q_Held := vx_q_Held X G c
end
end K23
open PySem PySem.W PySem.Calls PyProof.Rows
theorem K23.holds (hlaw : Fz.LawDoes K23.F_law) : PySem.Challenge.rw_everwalk_k23_pushed_or_not.Holds := by
  w_on; o_law
  refine HandSHeadRun.head_any (r := OpenLaw.row PySem.Challenge.rw_everwalk_k23_pushed_or_not) (q := view (OpenLaw.row PySem.Challenge.rw_everwalk_k23_pushed_or_not).prog [60]) (H := K23.hk) (ob := K23.obH) (M := 30000) (loose := K23.nms) (d := HandSHeadRun.topDef (OpenLaw.row PySem.Challenge.rw_everwalk_k23_pushed_or_not).prog 60) (kwd := []) K23.obH_eq
    (by kernel_rfl) (fun s => by kernel_rfl) K23.runH (by kernel_rfl) (by kernel_rfl) (by kernel_rfl) (by rfl) (by first | assumption | decide +kernel) (by decide +kernel) ⟨rfl, rfl, rfl, rfl, rfl, by decide +kernel⟩ ?hw ?hc
  case hw => w_witness2
  case hc =>
    refine Fz.walk_ofW (l := PySem.Challenge.rw_everwalk_k23_pushed_or_not) (k := 48) (x := "_law_script") rfl (by kernel_rfl) ⟨rfl, by decide, by decide⟩ ?F
    intro w mg fa h Y G hmg0
    obtain ⟨K, KX, c⟩ := Y
    have hmg : mg ("law" : PySem.Str) = some (.ref fa) := by
      have e : (HandSHeadRun.topDef (OpenLaw.row PySem.Challenge.rw_everwalk_k23_pushed_or_not).prog 60).name = ("law" : PySem.Str) := by kernel_rfl
      rw [← e]
      exact hmg0
    have V := K23.vx KX G c
    obtain ⟨f, fd, g1, g2, g3⟩ := V.f_law
    have e := hmg.symm.trans g1
    cases e
    refine ⟨K23.tb K, fd, K23.F_law, KX, fun s u => ?_, hlaw, fun base _ _ => Fz.ok_def g2 K23.sc_law (K23.does_law V fa)⟩
    obtain ⟨oc, od, kV, doc, pm, an, cdv, ct, osl, e, _, _⟩ := g2.ex
    subst e
    exact .of_eq rfl


open PySem PySem.W PyProof.Rows
set_option maxRecDepth 100000 in
set_option maxHeartbeats 8000000 in
theorem PySem.Challenge.cw_everwalk_k23_pushed_or_not_holds : PySem.Challenge.rw_everwalk_k23_pushed_or_not.Holds := by
  exact K23.holds K23.law_ok
