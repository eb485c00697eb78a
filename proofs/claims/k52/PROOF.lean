import PyProof.Rows.All
import Wide.All
import OpenK.AllK
import Wide.FinOn
import HandS.Words
import HandS.HeadHook1
import HandS.HeadHook2
import HandS.HeadHook3
import HandS.HeadEnd
import HandS.Head2
import Wide.Once
import HandS.Base
import HandS.Call
import KE.KeyNested
import HandS.List
import HandS.Dict
import HandS.Iter
import HandS.Comp
import HandS.Conv
import HandS.Walk
import KE.KDictWalk
import KE.KDictKeyed
import KE.KDictPairs
import KE.KDictCopyH
import HandS.Deep
import HandS.Text
import HandS.WordsExc
import HandS.CallSlots
import HandS.ForMost
import HandS.ForExc
import HandS.TupAny
import HandS.IsInst
import HandS.Style
import HandS.More
import HandS.StrMore
import HandS.Replace
import HandS.Defaults
import HandS.Ends
import HandS.SortKw
import HandS.Set
import HandS.Strs
import PyProof.Rows.SortShellAny
import HandS.Exc
import HandS.ExcOwn
import HandS.ExcIs
import HandS.ExcValue
import HandS.TryOnly
import PyProof.NeKinds
import PyProof.ReprRoads
import PyProof.ReprLen
import PyProof.Rows.ReprShort
import PyProof.Rows.ReprOcc
import HandS.TupMul
import KE.KRevSl
import HandS.ReplaceLit
import PyProof.ToksMono
import HandS.TupLen
import HandS.FStr
import HandS.TupSets
import HandS.SortOrd
import HandS.TupLe
import HandS.Flt
import KE.KDictSum
import PySem.Challenge.RW_everwalk_k52_folded_told
set_option Elab.async false
set_option linter.all false
set_option maxRecDepth 100000
set_option maxHeartbeats 2000000
namespace Fz
open PySem L2 PySem.Spec PyProof.Rows
abbrev AlC : Type := Bool × He.AlT
def obsC (chk : PySem.W.Frag → Bool) (fn : List He.DefD) (ts : List He.Tab) (K : PySem.W.Frag) : AlC := (chk K, He.obsT [] fn ts K)
def valC (fn : List He.DefD) (ts : List He.Tab) (w : World) : AlC := (true, He.valT fn ts w)
def SaysC (chk : PySem.W.Frag → Bool) (fn : List He.DefD) (ts : List He.Tab) (w : World) (K : PySem.W.Frag) : Prop := obsC chk fn ts K = valC fn ts w
section
variable {chk : PySem.W.Frag → Bool} {fn : List He.DefD} {ts : List He.Tab} {w : World} {K : PySem.W.Frag} {h : Heap} {mg : Str → Option Value}
theorem SaysC.b (c : SaysC chk fn ts w K) : chk K = true := congrArg (fun z : AlC => z.1) c
theorem SaysC.t (c : SaysC chk fn ts w K) : He.SaysT [] fn ts w K := congrArg (fun z : AlC => z.2) c
theorem fact_at {fs : List (PySem.W.Frag → Bool)} (hc : (fs.all fun f => f K) = true) (i : Nat) {f : PySem.W.Frag → Bool} (h : fs[i]? = some f := by rfl) : f K = true := List.all_eq_true.mp hc f (List.mem_of_getElem? h)
end
def insB (x : Str) (K : PySem.W.Frag) : Bool := He.eqO (PySem.W.findIn K (.ref (He.ga K x)) "__class__") (some (some (.builtin "object.__class__"))) && (PySem.W.mroIn K (He.ga K x) (.type "object") == some true)
def insG (K : PySem.W.Frag) : Bool := He.eqO (PySem.W.specialIn K (.builtin "object.__class__") "__get__") (some (some (.builtin "getset_descriptor.__get__"))) && (PySem.W.takesIn K (.builtin "object.__class__") == some true)
def kitC (x y : Str) (b : Bool) (K : PySem.W.Frag) : Bool := PySem.W.kitOne K (.ref (He.ga K x)) (.ref (He.ga K y)) == some b
def obsLG (as : List Addr) (chk : PySem.W.Frag → Bool) (fn : List He.DefD) (ts : List He.Tab) (g : Addr → Option Obj) : AlC := obsC chk fn ts (He.frG g as)
def hookL (as : List Addr) (chk : PySem.W.Frag → Bool) (fn : List He.DefD) (ts : List He.Tab) : PySem.W.Hook where
  α := AlC
  obs := fun s => obsLG as chk fn ts s.heap.get?
  val := fun w => valC fn ts w
  says := fun w h => ∃ K : PySem.W.Frag, K.In h ∧ SaysC chk fn ts w K
  of := fun _ _ e => ⟨_, He.frG_in, e⟩
  keeps := fun _ _ _ ⟨K, hK, c⟩ k => ⟨K, PySem.W.Frag.In.keeps hK k, c⟩
theorem obsLG_eq {as : List Addr} {chk : PySem.W.Frag → Bool} {fn : List He.DefD} {ts : List He.Tab} {g : Addr → Option Obj} {s : Shared} (h : ∀ a, g a = s.heap.get? a) : obsLG as chk fn ts g = (hookL as chk fn ts).obs s := by
  have e : g = s.heap.get? := funext h
  rw [e] <;> rfl
theorem map3 {α β γ δ : Type} {o : Option α} {a : α → β} {b : α → γ} {c : α → δ} {x : β} {y : γ} {z : δ} (h1 : o.map a = some x) (h2 : o.map b = some y) (h3 : o.map c = some z) : o.map (fun s => (a s, b s, c s)) = some (x, y, z) := by
  cases o with
  | none => cases h1
  | some s => cases h1; cases h2; cases h3; rfl
end Fz
set_option Elab.async false
set_option linter.all false
set_option maxRecDepth 100000
set_option maxHeartbeats 0
namespace K52
open PySem PySem.Spec PyProof.Rows L2 Fz
def topS (i : Nat) : Stmt := PySem.Challenge.pw_everwalk_k52_folded_told.main.body.getD i (.Pass ⟨0, 0, 0, 0⟩)
abbrev s_Machine___init__ : Stmt := inClass (topS 2) 0
abbrev s_Machine_count : Stmt := inClass (topS 2) 1
abbrev s_steps_by_state : Stmt := topS 4
abbrev s_finer : Stmt := topS 5
abbrev s_class_places : Stmt := topS 6
abbrev s_classes_of : Stmt := topS 7
abbrev s_folded : Stmt := topS 8
abbrev s__law_cell_at : Stmt := topS 10
abbrev s__law_mixed : Stmt := topS 11
abbrev s__law_marks_by : Stmt := topS 12
abbrev s__law_moment_of : Stmt := topS 13
abbrev s__law_steps_by : Stmt := topS 14
abbrev s__law_doubled : Stmt := topS 15
abbrev s__law_machine_by : Stmt := topS 16
abbrev s__law_follows : Stmt := topS 17
abbrev s__law_near : Stmt := topS 18
abbrev s__law_classes : Stmt := topS 19
abbrev s__law_between : Stmt := topS 20
abbrev s__law_so : Stmt := topS 21
abbrev s__law_right_by : Stmt := topS 22
abbrev s_law : Stmt := topS 23
def fns_0 : He.DefD := ⟨("steps_by_state", none), "steps_by_state", "steps_by_state", defArgs s_steps_by_state, defBody s_steps_by_state, defScope s_steps_by_state, [], []⟩
def fns_1 : He.DefD := ⟨("finer", none), "finer", "finer", defArgs s_finer, defBody s_finer, defScope s_finer, [], []⟩
def fns_2 : He.DefD := ⟨("class_places", none), "class_places", "class_places", defArgs s_class_places, defBody s_class_places, defScope s_class_places, [], []⟩
def fns_3 : He.DefD := ⟨("classes_of", none), "classes_of", "classes_of", defArgs s_classes_of, defBody s_classes_of, defScope s_classes_of, [], []⟩
def fns_4 : He.DefD := ⟨("folded", none), "folded", "folded", defArgs s_folded, defBody s_folded, defScope s_folded, [], []⟩
def fns_5 : He.DefD := ⟨("_law_cell_at", none), "_law_cell_at", "_law_cell_at", defArgs s__law_cell_at, defBody s__law_cell_at, defScope s__law_cell_at, [], []⟩
def fns_6 : He.DefD := ⟨("_law_mixed", none), "_law_mixed", "_law_mixed", defArgs s__law_mixed, defBody s__law_mixed, defScope s__law_mixed, [], []⟩
def fns_7 : He.DefD := ⟨("_law_marks_by", none), "_law_marks_by", "_law_marks_by", defArgs s__law_marks_by, defBody s__law_marks_by, defScope s__law_marks_by, [], []⟩
def fns_8 : He.DefD := ⟨("_law_moment_of", none), "_law_moment_of", "_law_moment_of", defArgs s__law_moment_of, defBody s__law_moment_of, defScope s__law_moment_of, [], []⟩
def fns_9 : He.DefD := ⟨("_law_steps_by", none), "_law_steps_by", "_law_steps_by", defArgs s__law_steps_by, defBody s__law_steps_by, defScope s__law_steps_by, [], []⟩
def fns_10 : He.DefD := ⟨("_law_doubled", none), "_law_doubled", "_law_doubled", defArgs s__law_doubled, defBody s__law_doubled, defScope s__law_doubled, [], []⟩
def fns_11 : He.DefD := ⟨("_law_machine_by", none), "_law_machine_by", "_law_machine_by", defArgs s__law_machine_by, defBody s__law_machine_by, defScope s__law_machine_by, [], []⟩
def fns_12 : He.DefD := ⟨("_law_follows", none), "_law_follows", "_law_follows", defArgs s__law_follows, defBody s__law_follows, defScope s__law_follows, [], []⟩
def fns_13 : He.DefD := ⟨("_law_near", none), "_law_near", "_law_near", defArgs s__law_near, defBody s__law_near, defScope s__law_near, [], []⟩
def fns_14 : He.DefD := ⟨("_law_classes", none), "_law_classes", "_law_classes", defArgs s__law_classes, defBody s__law_classes, defScope s__law_classes, [], []⟩
def fns_15 : He.DefD := ⟨("_law_between", none), "_law_between", "_law_between", defArgs s__law_between, defBody s__law_between, defScope s__law_between, [], []⟩
def fns_16 : He.DefD := ⟨("_law_so", none), "_law_so", "_law_so", defArgs s__law_so, defBody s__law_so, defScope s__law_so, [], []⟩
def fns_17 : He.DefD := ⟨("_law_right_by", none), "_law_right_by", "_law_right_by", defArgs s__law_right_by, defBody s__law_right_by, defScope s__law_right_by, [], []⟩
def fns_18 : He.DefD := ⟨("law", none), "law", "law", defArgs s_law, defBody s_law, defScope s_law, [], []⟩
def fns_19 : He.DefD := ⟨("Machine", some "count"), "count", "Machine.count", defArgs s_Machine_count, defBody s_Machine_count, defScope s_Machine_count, [], []⟩
def fns_20 : He.DefD := ⟨("Machine", some "__init__"), "__init__", "Machine.__init__", defArgs s_Machine___init__, defBody s_Machine___init__, defScope s_Machine___init__, [], []⟩
def fns0 : List He.DefD := [fns_0, fns_1, fns_2, fns_3, fns_4, fns_5, fns_6, fns_7, fns_8, fns_9, fns_10, fns_11, fns_12, fns_13, fns_14, fns_15, fns_16, fns_17, fns_18, fns_19]
def fns1 : List He.DefD := [fns_20]
def fns : List He.DefD := fns0 ++ fns1
def fas_0 : PySem.W.Frag → Bool := (fun K => (He.Fa.glo "steps_by_state").ok K)
def fas_1 : PySem.W.Frag → Bool := (fun K => (He.Fa.glo "finer").ok K)
def fas_2 : PySem.W.Frag → Bool := (fun K => (He.Fa.glo "class_places").ok K)
def fas_3 : PySem.W.Frag → Bool := (fun K => (He.Fa.glo "classes_of").ok K)
def fas_4 : PySem.W.Frag → Bool := (fun K => (He.Fa.glo "folded").ok K)
def fas_5 : PySem.W.Frag → Bool := (fun K => (He.Fa.glo "_law_cell_at").ok K)
def fas_6 : PySem.W.Frag → Bool := (fun K => (He.Fa.glo "_law_mixed").ok K)
def fas_7 : PySem.W.Frag → Bool := (fun K => (He.Fa.glo "_law_marks_by").ok K)
def fas_8 : PySem.W.Frag → Bool := (fun K => (He.Fa.glo "_law_moment_of").ok K)
def fas_9 : PySem.W.Frag → Bool := (fun K => (He.Fa.glo "_law_steps_by").ok K)
def fas_10 : PySem.W.Frag → Bool := (fun K => (He.Fa.glo "_law_doubled").ok K)
def fas_11 : PySem.W.Frag → Bool := (fun K => (He.Fa.glo "_law_machine_by").ok K)
def fas_12 : PySem.W.Frag → Bool := (fun K => (He.Fa.glo "_law_follows").ok K)
def fas_13 : PySem.W.Frag → Bool := (fun K => (He.Fa.glo "_law_near").ok K)
def fas_14 : PySem.W.Frag → Bool := (fun K => (He.Fa.glo "_law_classes").ok K)
def fas_15 : PySem.W.Frag → Bool := (fun K => (He.Fa.glo "_law_between").ok K)
def fas_16 : PySem.W.Frag → Bool := (fun K => (He.Fa.glo "_law_so").ok K)
def fas_17 : PySem.W.Frag → Bool := (fun K => (He.Fa.glo "_law_right_by").ok K)
def fas_18 : PySem.W.Frag → Bool := (fun K => (He.Fa.glo "law").ok K)
def fas_19 : PySem.W.Frag → Bool := (fun K => (He.Fa.glo "Machine").ok K)
def fas_20 : PySem.W.Frag → Bool := (fun K => (He.Fa.cls "Machine").ok K)
def fas_21 : PySem.W.Frag → Bool := (fun K => (He.Fa.noat "Machine" "names").ok K)
def fas_22 : PySem.W.Frag → Bool := (fun K => (He.Fa.noat "Machine" "bells").ok K)
def fas_23 : PySem.W.Frag → Bool := (fun K => (He.Fa.noat "Machine" "steps").ok K)
def fas_24 : PySem.W.Frag → Bool := (fun K => (He.Fa.meth "Machine" "count").ok K)
def fas_25 : PySem.W.Frag → Bool := (fun K => (He.Fa.mkr "Machine").ok K)
def fas_26 : PySem.W.Frag → Bool := insG
def fas_27 : PySem.W.Frag → Bool := insB "Machine"
def fas_28 : PySem.W.Frag → Bool := kitC "Machine" "Machine" true
def fas_29 : PySem.W.Frag → Bool := (fun K => (He.Fa.free "enumerate").ok K)
def fas_30 : PySem.W.Frag → Bool := (fun K => (He.Fa.free "isinstance").ok K)
def fas_31 : PySem.W.Frag → Bool := (fun K => (He.Fa.free "len").ok K)
def fas_32 : PySem.W.Frag → Bool := (fun K => (He.Fa.free "list").ok K)
def fas_33 : PySem.W.Frag → Bool := (fun K => (He.Fa.free "max").ok K)
def fas_34 : PySem.W.Frag → Bool := (fun K => (He.Fa.free "range").ok K)
def fas_35 : PySem.W.Frag → Bool := (fun K => (He.Fa.free "set").ok K)
def fas_36 : PySem.W.Frag → Bool := (fun K => (He.Fa.free "sorted").ok K)
def fas_37 : PySem.W.Frag → Bool := (fun K => (He.Fa.free "tuple").ok K)
def fas0 : List (PySem.W.Frag → Bool) := [fas_0, fas_1, fas_2, fas_3, fas_4, fas_5, fas_6, fas_7, fas_8, fas_9, fas_10, fas_11, fas_12, fas_13, fas_14, fas_15, fas_16, fas_17, fas_18, fas_19]
def fas1 : List (PySem.W.Frag → Bool) := [fas_20, fas_21, fas_22, fas_23, fas_24, fas_25, fas_26, fas_27, fas_28, fas_29, fas_30, fas_31, fas_32, fas_33, fas_34, fas_35, fas_36, fas_37]
def fas : List (PySem.W.Frag → Bool) := fas0 ++ fas1
def chk (K : PySem.W.Frag) : Bool := fas.all fun f => f K
def tss : List He.Tab := []
def nms0 : List PySem.Str := ["_wall", "Machine", "steps_by_state", "finer", "class_places", "classes_of", "folded", "_law_cell_at", "_law_mixed", "_law_marks_by", "_law_moment_of", "_law_steps_by", "_law_doubled", "_law_machine_by", "_law_follows", "_law_near", "_law_classes", "_law_between", "_law_so", "_law_right_by"]
def nms : List PySem.Str := nms0
abbrev Rw : PySem.W.OpenRow := PySem.W.OpenLaw.row PySem.Challenge.rw_everwalk_k52_folded_told
def asL : List Addr := [3, 50, 59, 64, 69, 74, 81, 88, 95, 102, 109, 114, 121, 128, 133, 138, 143, 150, 157, 162, 169, 49, 58, 63, 68, 73, 80, 87, 94, 101] ++ [108, 113, 120, 127, 132, 137, 142, 149, 156, 161, 168, 35, 40, 34, 39]
abbrev hk : PySem.W.Hook := hookL asL chk fns tss
def obH (s : PySem.W.SharedT) : AlC := obsLG asL chk fns tss (HandSHeadRun.getT s)
theorem obH_eq (s : PySem.W.SharedT) : obH s = hk.obs s.abs := obsLG_eq (HandSHeadRun.getT_eq s)
noncomputable abbrev endH (w : World) (os : OsState) : Option PySem.W.SharedT := HandSHeadRun.endF (HandSHeadRun.stepQ (HandSHeadRun.denQ HandSHeadRun.tabQ) Rw.prog w) 30000 Rw.prog w os
theorem runH1 (w : World) : ∀ os : OsState, (endH w os).map (fun s => HandSHeadRun.looksF Rw.prog (PySem.W.boot_heap w.params) s.abs) = some true := by
  refine PySem.W.byRow2 "special-get-raises" (P := fun w => ∀ os : OsState, (endH w os).map (fun s => HandSHeadRun.looksF Rw.prog (PySem.W.boot_heap w.params) s.abs) = some true) (fun w os => ?_) (fun w os => ?_) w
  · kernel_rfl
  · kernel_rfl
theorem runH2 (w : World) : ∀ os : OsState, (endH w os).map (fun s => HandSHeadRun.seenQ (PySem.W.view Rw.prog [23]) nms (importedModules Rw.prog.main.body) (fun s => PySem.W.xlAt (PySem.W.view Rw.prog [23]) [] s && PySem.W.recOk Rw.toRowW.records s) s.abs) = some (PySem.W.openGood (PySem.W.view Rw.prog [23]) nms) := by
  refine PySem.W.byRow2 "special-get-raises" (P := fun w => ∀ os : OsState, (endH w os).map (fun s => HandSHeadRun.seenQ (PySem.W.view Rw.prog [23]) nms (importedModules Rw.prog.main.body) (fun s => PySem.W.xlAt (PySem.W.view Rw.prog [23]) [] s && PySem.W.recOk Rw.toRowW.records s) s.abs) = some (PySem.W.openGood (PySem.W.view Rw.prog [23]) nms)) (fun w os => ?_) (fun w os => ?_) w
  · kernel_rfl
  · kernel_rfl
theorem runH3 (w : World) : ∀ os : OsState, (endH w os).map obH = some (hk.val w) := by
  refine PySem.W.byRow2 "special-get-raises" (P := fun w => ∀ os : OsState, (endH w os).map obH = some (hk.val w)) (fun w os => ?_) (fun w os => ?_) w
  · kernel_rfl
  · kernel_rfl
theorem runH (w : World) : HandSHeadRun.RunEq Rw (PySem.W.view Rw.prog [23]) hk obH 30000 nms w := fun os => Fz.map3 (runH1 w os) (runH2 w os) (runH3 w os)
end K52
set_option Elab.async false
set_option linter.all false
set_option maxRecDepth 100000
set_option maxHeartbeats 2000000
namespace Fz
open PySem L2
inductive D where
  | non | bl (b : Bool) | int (i : Int) | str (s : Str) | tup (ds : List D) | lst (ds : List D) | obj (c : Nat) (fs : List D) | dct (ks vs : List D) | ext (k : Nat) (ds : List D)
structure Tab where
  K : PySem.W.Frag
  cls : Nat → Addr
  flds : Nat → List Str
  /-- further objects that stand as they are, of values -/
  xo : Nat → Addr → List V → HO
  /-- the world (its hashes of texts) -/
  w : World
def Tu (T : Tab) (B : Hp) (a : Addr) (xs : List V) : Prop := B a = some (.tup xs) ∨ ∃ (o : Obj) (its : Array Value) (n : Nat), T.K.lookup a = some o ∧ o.cls = .type "tuple" ∧ o.data = .seq its n ∧ its.size ≤ sizeLine ∧ Vals xs its.toList
theorem Tu.sq {T : Tab} {B : Hp} {a : Addr} {xs : List V} (h : Tu T B a xs) : SqT T.K B a xs := h.elim (fun h => .inl (.inl h)) .inr
def DKey : D → Key → Prop
  | .int i, k => k = .inl i
  | .str s, k => k = .inr s
  | _, _ => False
def DKeys : List D → List Key → Prop
  | [], ks => ks = []
  | d :: ds, ks => ∃ k r, ks = k :: r ∧ DKey d k ∧ DKeys ds r
mutual
def nk : D → Option NestedKey
  | .non => some .none
  | .bl b => some (.num (if b = true then 1 else 0))
  | .int i => some (.num i)
  | .str s => some (.text s)
  | .tup ds => (nks ds).map .tup
  | _ => none
def nks : List D → Option (List NestedKey)
  | [] => some []
  | d :: ds => (nk d).bind fun k => (nks ds).map (k :: ·)
end
inductive KX where
  | v (k : Key) | t (k : NestedKey) (a : Addr)
def KX.hash (w : World) : KX → Int
  | .v k => keyH w k
  | .t k _ => k.hash w
def KX.is : KX → Value → Prop
  | .v k, u => keyIs k u = true
  | .t _ a, u => u = .ref a
def entOk (w : World) (x : KX × V) (e : DictEntry) : Prop := e.hash = x.1.hash w ∧ x.1.is e.key ∧ RelV x.2 e.val
def dG (w : World) (a : Addr) (ep : Nat) (es : List (KX × V)) : HO := .ext fun h => ∃ o e, h.get? a = some o ∧ o.ExactDict ∧ o.data = .dict e ep ∧ Paired (entOk w) es e.toList
def KX.isV : KX → Bool
  | .v _ => true
  | .t _ _ => false
def KX.isT : KX → Bool
  | .t (.tup ks) _ => decide (NestedKey.depth (.tup ks) ≤ 8)
  | _ => false
def KX.nk : KX → NestedKey
  | .v (.inl i) => .num i
  | .v (.inr x) => .text x
  | .t k _ => k
structure DGOk (a : Addr) (es : List (KX × V)) : Prop where
  len : es.length ≤ sizeLine
  sm : (a == sysModules) = false
  nd : (es.map fun e => e.1.nk).Nodup
  kd : (∀ e ∈ es, e.1.isV = true) ∨ ∀ e ∈ es, e.1.isT = true
mutual
def Rep (T : Tab) (B : Hp) : D → V → Prop
  | .non, v => v = .non
  | .bl b, v => v = .bl b
  | .int i, v => v = .int i
  | .str s, v => v = .str s ∧ PyData.strOk s = true
  | .tup ds, v => ∃ a xs, v = .ref a ∧ Tu T B a xs ∧ Reps T B ds xs
  | .lst ds, v => ∃ a xs, v = .ref a ∧ SqL T.K B a xs ∧ Reps T B ds xs
  | .obj c fs, v => ∃ a dx fvs, v = .ref a ∧ B a = some (.ins (T.cls c) dx fvs) ∧ fvs.map (·.1) = T.flds c ∧ Reps T B fs (fvs.map (·.2))
  | .dct ks vs, v => ∃ a ep es, v = .ref a ∧ B a = some (dG T.w a ep es) ∧ DGOk a es ∧ KReps T B ks (es.map (·.1)) ∧ Reps T B vs (es.map (·.2))
  | .ext k ds, v => ∃ a xs, v = .ref a ∧ B a = some (T.xo k a xs) ∧ Reps T B ds xs
def Reps (T : Tab) (B : Hp) : List D → List V → Prop
  | [], xs => xs = []
  | d :: ds, xs => ∃ v r, xs = v :: r ∧ Rep T B d v ∧ Reps T B ds r
def KReps (T : Tab) (B : Hp) : List D → List KX → Prop
  | [], xs => xs = []
  | d :: ds, xs => ∃ x r, xs = x :: r ∧ (match x with
    | .v k => DKey d k
    | .t k a => nk d = some k ∧ Rep T B d (.ref a)) ∧ KReps T B ds r
end
def keyK : D → Bool
  | .int _ => true
  | .str _ => true
  | _ => false
def DctAt (T : Tab) (B H : Hp) (a : Addr) (ks : List D) (xs : List V) : Prop := ∃ ep es, H a = some (dG T.w a ep es) ∧ DGOk a es ∧ KReps T B ks (es.map (·.1)) ∧ xs = es.map (·.2)
theorem rep_dct {T : Tab} {B : Hp} {ks vs : List D} {v : V} : Rep T B (.dct ks vs) v ↔ ∃ a xs, v = .ref a ∧ DctAt T B B a ks xs ∧ Reps T B vs xs := by
  unfold Rep
  constructor
  · rintro ⟨a, ep, es, h1, h2, h3, h4, h5⟩
    exact ⟨a, _, h1, ⟨ep, es, h2, h3, h4, rfl⟩, h5⟩
  · rintro ⟨a, xs, h1, ⟨ep, es, h2, h3, h4, rfl⟩, h5⟩
    exact ⟨a, ep, es, h1, h2, h3, h4, h5⟩
def Ex (H H' : Hp) : Prop := ∀ a o, H a = some o → H' a = some o
theorem Ex.refl (H : Hp) : Ex H H := fun _ _ h => h
theorem Ex.trans {H H1 H2 : Hp} (a : Ex H H1) (b : Ex H1 H2) : Ex H H2 := fun x o h => b x o (a x o h)
theorem Ex.free {H H' : Hp} (e : Ex H H') {l : Addr} (h : H' l = none) : H l = none := by
  cases q : H l with
  | none => rfl
  | some o => rw [e l o q] at h; cases h
theorem Ex.new {H : Hp} {p : Addr} {o : HO} (h : H p = none) : Ex H (upd H p o) := fun a u e => by
  rw [upd_ne (ne_of_none e h)]; exact e
theorem Ex.rd {H H' : Hp} {a : Addr} {u : HO} (e : Ex H H') (h : Rd H a u) : Rd H' a u := h.elim (fun h => .inl (e a _ h)) fun ⟨o, h⟩ => .inr ⟨o, e a _ h⟩
theorem Ex.sqL {K : PySem.W.Frag} {H H' : Hp} {a : Addr} {xs : List V} (e : Ex H H') (h : SqL K H a xs) : SqL K H' a xs := h.elim (fun h => .inl (e.rd h)) .inr
theorem Ex.tu {T : Tab} {H H' : Hp} {a : Addr} {xs : List V} (e : Ex H H') (h : Tu T H a xs) : Tu T H' a xs := h.elim (fun h => .inl (e a _ h)) .inr
mutual
theorem Rep.mono {T : Tab} {B B' : Hp} (e : Ex B B') : ∀ (d : D) {v : V}, Rep T B d v → Rep T B' d v
  | .non, _, h => h
  | .bl _, _, h => h
  | .int _, _, h => h
  | .str _, _, h => h
  | .tup ds, v, h => by
    unfold Rep at h ⊢
    obtain ⟨a, xs, h1, h2, h3⟩ := h
    exact ⟨a, xs, h1, e.tu h2, Reps.mono e ds h3⟩
  | .lst ds, v, h => by
    unfold Rep at h ⊢
    obtain ⟨a, xs, h1, h2, h3⟩ := h
    exact ⟨a, xs, h1, e.sqL h2, Reps.mono e ds h3⟩
  | .obj c fs, v, h => by
    unfold Rep at h ⊢
    obtain ⟨a, dx, fvs, h1, h2, h3, h4⟩ := h
    exact ⟨a, dx, fvs, h1, e a _ h2, h3, Reps.mono e fs h4⟩
  | .dct ks vs, v, h => by
    unfold Rep at h ⊢
    obtain ⟨a, ep, es, h1, h2, h3, h4, h5⟩ := h
    exact ⟨a, ep, es, h1, e a _ h2, h3, KReps.mono e ks h4, Reps.mono e vs h5⟩
  | .ext k ds, v, h => by
    unfold Rep at h ⊢
    obtain ⟨a, xs, h1, h2, h3⟩ := h
    exact ⟨a, xs, h1, e a _ h2, Reps.mono e ds h3⟩
theorem Reps.mono {T : Tab} {B B' : Hp} (e : Ex B B') : ∀ (ds : List D) {xs : List V}, Reps T B ds xs → Reps T B' ds xs
  | [], _, h => h
  | d :: ds, xs, h => by
    unfold Reps at h ⊢
    obtain ⟨v, r, h1, h2, h3⟩ := h
    exact ⟨v, r, h1, Rep.mono e d h2, Reps.mono e ds h3⟩
theorem KReps.mono {T : Tab} {B B' : Hp} (e : Ex B B') : ∀ (ds : List D) {xs : List KX}, KReps T B ds xs → KReps T B' ds xs
  | [], _, h => h
  | d :: ds, xs, h => by
    unfold KReps at h ⊢
    obtain ⟨x, r, h1, h2, h3⟩ := h
    refine ⟨x, r, h1, ?_, KReps.mono e ds h3⟩
    cases x with
    | v k => exact h2
    | t k a => exact ⟨h2.1, Rep.mono e d h2.2⟩
end
theorem Reps.length {T : Tab} {B : Hp} : ∀ {ds : List D} {xs : List V}, Reps T B ds xs → ds.length = xs.length
  | [], _, h => by unfold Reps at h; subst h; rfl
  | d :: ds, xs, h => by
    unfold Reps at h
    obtain ⟨v, r, rfl, _, h3⟩ := h
    simp [Reps.length h3]
theorem Reps.get {T : Tab} {B : Hp} : ∀ {ds : List D} {xs : List V} {i : Nat} {d : D}, Reps T B ds xs → ds[i]? = some d → ∃ v, xs[i]? = some v ∧ Rep T B d v
  | [], _, _, _, _, e => by simp at e
  | d :: ds, xs, i, d', h, e => by
    unfold Reps at h
    obtain ⟨v, r, rfl, h2, h3⟩ := h
    cases i with
    | zero => simp at e; subst e; exact ⟨v, rfl, h2⟩
    | succ i =>
      obtain ⟨u, a, b⟩ := Reps.get (i := i) h3 (by simpa using e)
      exact ⟨u, by simpa using a, b⟩
theorem Reps.append {T : Tab} {B : Hp} : ∀ {ds es : List D} {xs ys : List V}, Reps T B ds xs → Reps T B es ys → Reps T B (ds ++ es) (xs ++ ys)
  | [], _, _, _, h, g => by unfold Reps at h; subst h; exact g
  | d :: ds, es, xs, ys, h, g => by
    unfold Reps at h
    obtain ⟨v, r, rfl, h2, h3⟩ := h
    show Reps T B (d :: (ds ++ es)) (v :: (r ++ ys))
    unfold Reps
    exact ⟨v, _, rfl, h2, Reps.append h3 g⟩
theorem Reps.set {T : Tab} {B : Hp} : ∀ {ds : List D} {xs : List V} {i : Nat} {d : D} {v : V}, Reps T B ds xs → Rep T B d v → Reps T B (ds.set i d) (xs.set i v)
  | [], _, _, _, _, h, _ => by unfold Reps at h; subst h; unfold Reps; rfl
  | e :: ds, xs, i, d, v, h, g => by
    unfold Reps at h
    obtain ⟨u, r, rfl, h2, h3⟩ := h
    cases i with
    | zero => show Reps T B (d :: ds) (v :: r); unfold Reps; exact ⟨v, r, rfl, g, h3⟩
    | succ i => show Reps T B (e :: ds.set i d) (u :: r.set i v); unfold Reps; exact ⟨u, _, rfl, h2, Reps.set h3 g⟩
theorem reps_nil {T : Tab} {B : Hp} : Reps T B [] [] := by unfold Reps; rfl
theorem reps_cons {T : Tab} {B : Hp} {d : D} {ds : List D} {v : V} {xs : List V} (h : Rep T B d v) (g : Reps T B ds xs) : Reps T B (d :: ds) (v :: xs) := by unfold Reps; exact ⟨v, xs, rfl, h, g⟩
mutual
def imm : D → Bool
  | .lst _ => false
  | .obj _ _ => false
  | .dct _ _ => false
  | .ext _ _ => false
  | .tup ds => imms ds
  | _ => true
def imms : List D → Bool
  | [] => true
  | d :: ds => imm d && imms ds
end
theorem imm_rep {T : Tab} {B B' : Hp} (e : ∀ a xs, B a = some (.tup xs) → B' a = some (.tup xs)) : ∀ (d : D) {v : V}, imm d = true → Rep T B d v → Rep T B' d v := by
  intro d
  refine D.rec (motive_1 := fun d => ∀ {v : V}, imm d = true → Rep T B d v → Rep T B' d v) (motive_2 := fun ds => ∀ {xs : List V}, imms ds = true → Reps T B ds xs → Reps T B' ds xs) ?_ ?_ ?_ ?_ ?_ ?_ ?_ ?_ ?_ ?_ ?_ d
  · exact fun _ h => h
  · exact fun _ _ _ h => h
  · exact fun _ _ _ h => h
  · exact fun _ _ _ h => h
  · intro ds ih v i h
    unfold Rep at h ⊢
    unfold imm at i
    obtain ⟨a, xs, h1, h2, h3⟩ := h
    exact ⟨a, xs, h1, h2.elim (fun h => .inl (e a _ h)) .inr, ih i h3⟩
  · intro ds _ v i; simp [imm] at i
  · intro c ds _ v i; simp [imm] at i
  · intro c ds _ _ v i; simp [imm] at i
  · intro c ds _ v i; simp [imm] at i
  · exact fun _ h => h
  · intro d ds h1 h2 xs i h
    unfold Reps at h ⊢
    unfold imms at i
    obtain ⟨v, r, e1, e2, e3⟩ := h
    have i' := (Bool.and_eq_true _ _).mp i
    exact ⟨v, r, e1, h1 i'.1 e2, h2 i'.2 e3⟩
inductive R where
  | d (x : D) | ol (xs : List D) | oi (c : Nat) (fs : List D) | od (ks vs : List D)
  | nl (cs : List R) | nt (cs : List R) | ni (c : Nat) (cs : List R) | nd (ks : List D) (cs : List R)
def HeldAt (H : Hp) (a : Addr) (xs : List V) : Prop := H a = some (.lst xs) ∨ H a = some (.tup xs) ∨ (∃ C dx fs, H a = some (.ins C dx fs) ∧ xs = fs.map (·.2)) ∨
  ∃ w ep es, H a = some (dG w a ep es) ∧ xs = es.map (·.2)
def unv : Value → V
  | .none => .non
  | .bool b => .bl b
  | .int i _ => .int i
  | .str x _ => .str x
  | .bytes b _ => .byt b
  | .float b _ => .flt b
  | .ref a => .ref a
  | .type n => .ty n
  | _ => .non
theorem unv_of : ∀ {v : V} {x : Value}, RelV v x → unv x = v
  | .non, _, h => by cases h; rfl
  | .bl _, _, h => by cases h; rfl
  | .int _, _, h => by obtain ⟨t, rfl⟩ := h; rfl
  | .str _, _, h => by obtain ⟨t, rfl⟩ := h; rfl
  | .byt _, _, h => by obtain ⟨t, rfl⟩ := h; rfl
  | .flt _, _, h => by obtain ⟨t, rfl⟩ := h; rfl
  | .ref _, _, h => by cases h; rfl
  | .ty _, _, h => by cases h; rfl
theorem relV_inj {u v : V} {x : Value} (h : RelV u x) (g : RelV v x) : u = v := by rw [← unv_of h, ← unv_of g]
def valOf : V → Value
  | .non => .none
  | .bl b => .bool b
  | .int i => .int i default
  | .str x => .str x default
  | .byt b => .bytes b default
  | .flt b => .float b default
  | .ref a => .ref a
  | .ty n => .type n
theorem valOf_rel : ∀ v : V, RelV v (valOf v)
  | .non => rfl
  | .bl _ => rfl
  | .int _ => ⟨_, rfl⟩
  | .str _ => ⟨_, rfl⟩
  | .byt _ => ⟨_, rfl⟩
  | .flt _ => ⟨_, rfl⟩
  | .ref _ => rfl
  | .ty _ => rfl
def KX.val : KX → Value
  | .v (.inl i) => .int i default
  | .v (.inr x) => .str x default
  | .t _ a => .ref a
theorem KX.val_is : ∀ k : KX, k.is k.val
  | .v (.inl i) => keyIs_int i _
  | .v (.inr x) => keyIs_str x _
  | .t _ _ => rfl
theorem dG_inj {w w' : World} {a : Addr} {ep ep' : Nat} {es es' : List (KX × V)} (h : dG w a ep es = dG w' a ep' es') : es.map (·.2) = es'.map (·.2) := by
  unfold dG at h
  have h := HO.ext.inj h
  let ys : List DictEntry := es.map fun e => ⟨e.1.hash w, e.1.val, valOf e.2⟩
  let ob : Obj := { cls := .type "dict", data := .dict ys.toArray ep }
  let hp : Heap := { objs := Array.replicate (a + 1) ob }
  have hg : hp.get? a = some ob := by
    have : hp.objs[a]? = some ob := by show (Array.replicate (a + 1) ob)[a]? = some ob; simp
    unfold Heap.get?
    rw [this]
  have pr : ∀ es : List (KX × V), Paired (entOk w) es (es.map fun e => (⟨e.1.hash w, e.1.val, valOf e.2⟩ : DictEntry)) := fun es => by
    induction es with
    | nil => exact .nil
    | cons e es ih => exact .cons ⟨rfl, KX.val_is _, valOf_rel _⟩ ih
  have l := congrFun h hp
  obtain ⟨o, e, g1, _, g2, g3⟩ := l.mp ⟨ob, ys.toArray, hg, ⟨rfl, rfl, rfl⟩, rfl, pr es⟩
  rw [hg] at g1
  cases g1
  injection g2 with g2 _
  rw [← g2] at g3
  have g3 : Paired (entOk w') es' ys := g3
  have fin : ∀ {xs xs' : List (KX × V)}, Paired (entOk w') xs' (xs.map fun e => (⟨e.1.hash w, e.1.val, valOf e.2⟩ : DictEntry)) → xs.map (·.2) = xs'.map (·.2) := fun {xs} => by
    induction xs with
    | nil => intro xs' p; cases p; rfl
    | cons x xs ih =>
      intro xs' p
      cases p with
      | cons q r =>
        simp only [List.map_cons, List.cons.injEq]
        exact ⟨relV_inj (valOf_rel _) q.2.2, ih r⟩
  exact fin g3
theorem HeldAt.inj {H : Hp} {a : Addr} {xs ys : List V} (h : HeldAt H a xs) (g : HeldAt H a ys) : xs = ys := by
  rcases h with h | h | ⟨C, dx, fs, h, rfl⟩ | ⟨w, ep, es, h, rfl⟩ <;> rcases g with g | g | ⟨C', dx', fs', g, rfl⟩ | ⟨w', ep', es', g, rfl⟩ <;> rw [h] at g <;> have g := Option.some.inj g <;>
    first | (cases g; rfl) | exact dG_inj g | (unfold dG at g; cases g) | cases g
theorem HeldAt.keep {H H' : Hp} {a : Addr} {xs : List V} (h : HeldAt H a xs) (k : ∀ o, H a = some o → H' a = some o) : HeldAt H' a xs := by
  rcases h with h | h | ⟨C, dx, fs, h, e⟩ | ⟨w, ep, es, h, e⟩
  · exact .inl (k _ h)
  · exact .inr (.inl (k _ h))
  · exact .inr (.inr (.inl ⟨C, dx, fs, k _ h, e⟩))
  · exact .inr (.inr (.inr ⟨w, ep, es, k _ h, e⟩))
theorem HeldAt.some {H : Hp} {a : Addr} {xs : List V} (h : HeldAt H a xs) : ∃ o, H a = some o := by
  rcases h with h | h | ⟨C, dx, fs, h, e⟩ | ⟨w, ep, es, h, e⟩ <;> exact ⟨_, h⟩
mutual
def Ow (H : Hp) : R → V → Addr → Prop
  | .d _, _, _ => False
  | .ol _, v, b => v = .ref b
  | .oi _ _, v, b => v = .ref b
  | .od _ _, v, b => v = .ref b
  | .nl cs, v, b => v = .ref b ∨ ∃ a xs, v = .ref a ∧ HeldAt H a xs ∧ OwL H cs xs b
  | .nt cs, v, b => ∃ a xs, v = .ref a ∧ HeldAt H a xs ∧ OwL H cs xs b
  | .ni _ cs, v, b => v = .ref b ∨ ∃ a xs, v = .ref a ∧ HeldAt H a xs ∧ OwL H cs xs b
  | .nd _ cs, v, b => v = .ref b ∨ ∃ a xs, v = .ref a ∧ HeldAt H a xs ∧ OwL H cs xs b
def OwL (H : Hp) : List R → List V → Addr → Prop
  | [], _, _ => False
  | r :: rs, xs, b => ∃ y t, xs = y :: t ∧ (Ow H r y b ∨ OwL H rs t b)
end
mutual
def RelR (T : Tab) (B H : Hp) : R → V → Prop
  | .d x, v => Rep T B x v
  | .ol xs, v => ∃ a ys, v = .ref a ∧ H a = some (.lst ys) ∧ Reps T B xs ys
  | .oi c fs, v => ∃ a dx fvs, v = .ref a ∧ H a = some (.ins (T.cls c) dx fvs) ∧ fvs.map (·.1) = (T.flds c).take fs.length ∧ Reps T B fs (fvs.map (·.2))
  | .od ks vs, v => ∃ a xs, v = .ref a ∧ DctAt T B H a ks xs ∧ Reps T B vs xs
  | .nl cs, v => ∃ a ys, v = .ref a ∧ H a = some (.lst ys) ∧ RelRs T B H cs ys ∧ ¬ OwL H cs ys a
  | .nt cs, v => ∃ a ys, v = .ref a ∧ (B a = some (.tup ys) ∧ H a = some (.tup ys)) ∧ RelRs T B H cs ys
  | .ni c cs, v => ∃ a dx fvs, v = .ref a ∧ H a = some (.ins (T.cls c) dx fvs) ∧ fvs.map (·.1) = (T.flds c).take cs.length ∧ RelRs T B H cs (fvs.map (·.2)) ∧ ¬ OwL H cs (fvs.map (·.2)) a
  | .nd ks cs, v => ∃ a xs, v = .ref a ∧ DctAt T B H a ks xs ∧ RelRs T B H cs xs ∧ ¬ OwL H cs xs a
def RelRs (T : Tab) (B H : Hp) : List R → List V → Prop
  | [], ys => ys = []
  | r :: rs, ys => ∃ y t, ys = y :: t ∧ RelR T B H r y ∧ RelRs T B H rs t ∧ ∀ b, Ow H r y b → OwL H rs t b → False
end
abbrev Sl := List (Option R)
structure Sim (T : Tab) (st : Sl) (σ : St) (B F H : Hp) : Prop where
  exB : Ex B H
  exF : Ex F H
  dis : ∀ a o, F a = some o → B a = none
  tup : ∀ a xs, H a = some (.tup xs) → B a = some (.tup xs)
  len : st.length = σ.length
  rel : ∀ (i : Nat) r, st[i]? = some (some r) → ∃ v, σ[i]? = some (some v) ∧ RelR T B H r v
  own : ∀ (i : Nat) r v a, st[i]? = some (some r) → σ[i]? = some (some v) → Ow H r v a → B a = none ∧ F a = none
  sep : ∀ (i j : Nat) r q v u a, i ≠ j → st[i]? = some (some r) → σ[i]? = some (some v) → st[j]? = some (some q) → σ[j]? = some (some u) → Ow H r v a → Ow H q u a → False
theorem DctAt.held {T : Tab} {B H : Hp} {a : Addr} {ks : List D} {xs : List V} (h : DctAt T B H a ks xs) : HeldAt H a xs := by
  obtain ⟨ep, es, q1, q2, q3, q4⟩ := h
  exact .inr (.inr (.inr ⟨_, ep, es, q1, q4⟩))
theorem DctAt.keep {T : Tab} {B B' H H' : Hp} {a : Addr} {ks : List D} {xs : List V} (h : DctAt T B H a ks xs) (e : Ex B B') (k : ∀ o, H a = some o → H' a = some o) : DctAt T B' H' a ks xs := by
  obtain ⟨ep, es, q1, q2, q3, q4⟩ := h
  exact ⟨ep, es, k _ q1, q2, KReps.mono e ks q3, q4⟩
theorem DctAt.notTup {T : Tab} {B H : Hp} {a : Addr} {ks : List D} {xs : List V} (h : DctAt T B H a ks xs) (ys : List V) : H a ≠ some (.tup ys) := by
  obtain ⟨ep, es, q1, q2, q3, q4⟩ := h
  rw [q1]; unfold dG; intro z; cases z
theorem ex_of {H : Hp} {a : Addr} {o : HO} (h : H a = some o) (n : ∀ xs, o ≠ .tup xs) : (∃ o, H a = some o) ∧ ∀ xs, H a ≠ some (.tup xs) := ⟨⟨o, h⟩, fun xs z => by rw [h] at z; exact n xs (Option.some.inj z)⟩
mutual
theorem RelR.ow {T : Tab} {B H : Hp} : ∀ {r : R} {v : V} {a : Addr}, RelR T B H r v → Ow H r v a → (∃ o, H a = some o) ∧ ∀ xs, H a ≠ some (.tup xs)
  | .d x, v, a, h, o => by unfold Ow at o; exact o.elim
  | .ol xs, v, a, h, o => by unfold RelR at h; unfold Ow at o; obtain ⟨b, ys, h1, h2, _⟩ := h; rw [o] at h1; cases h1; exact ex_of h2 (fun _ z => nomatch z)
  | .oi c fs, v, a, h, o => by unfold RelR at h; unfold Ow at o; obtain ⟨b, dx, fvs, h1, h2, _⟩ := h; rw [o] at h1; cases h1; exact ex_of h2 (fun _ z => nomatch z)
  | .od ks vs, v, a, h, o => by unfold RelR at h; unfold Ow at o; obtain ⟨b, xs, h1, h2, _⟩ := h; rw [o] at h1; cases h1; exact ⟨h2.held.some, h2.notTup⟩
  | .nl cs, v, a, h, o => by
    unfold RelR at h; unfold Ow at o
    obtain ⟨b, ys, h1, h2, h3, _⟩ := h
    rcases o with o | ⟨p, xs, o1, o2, o3⟩
    · rw [o] at h1; cases h1; exact ex_of h2 (fun _ z => nomatch z)
    · rw [h1] at o1; cases o1
      cases (HeldAt.inj (.inl h2) o2)
      exact RelRs.ow h3 o3
  | .nt cs, v, a, h, o => by
    unfold RelR at h; unfold Ow at o
    obtain ⟨b, ys, h1, h2, h3⟩ := h
    obtain ⟨p, xs, o1, o2, o3⟩ := o
    rw [h1] at o1; cases o1
    cases (HeldAt.inj (.inr (.inl h2.2)) o2)
    exact RelRs.ow h3 o3
  | .ni c cs, v, a, h, o => by
    unfold RelR at h; unfold Ow at o
    obtain ⟨b, dx, fvs, h1, h2, _, h3, _⟩ := h
    rcases o with o | ⟨p, xs, o1, o2, o3⟩
    · rw [o] at h1; cases h1; exact ex_of h2 (fun _ z => nomatch z)
    · rw [h1] at o1; cases o1
      cases (HeldAt.inj (.inr (.inr (.inl ⟨_, _, _, h2, rfl⟩))) o2)
      exact RelRs.ow h3 o3
  | .nd ks cs, v, a, h, o => by
    unfold RelR at h; unfold Ow at o
    obtain ⟨b, ys, h1, h2, h3, _⟩ := h
    rcases o with o | ⟨p, xs, o1, o2, o3⟩
    · rw [o] at h1; cases h1; exact ⟨h2.held.some, h2.notTup⟩
    · rw [h1] at o1; cases o1
      cases (HeldAt.inj h2.held o2)
      exact RelRs.ow h3 o3
theorem RelRs.ow {T : Tab} {B H : Hp} : ∀ {rs : List R} {vs : List V} {a : Addr}, RelRs T B H rs vs → OwL H rs vs a → (∃ o, H a = some o) ∧ ∀ xs, H a ≠ some (.tup xs)
  | [], vs, a, h, o => by unfold OwL at o; exact o.elim
  | r :: rs, vs, a, h, o => by
    unfold RelRs at h; unfold OwL at o
    obtain ⟨y, t, h1, h2, h3, _⟩ := h
    obtain ⟨y', t', o1, o2⟩ := o
    rw [h1] at o1; cases o1
    rcases o2 with o2 | o2
    · exact RelR.ow h2 o2
    · exact RelRs.ow h3 o2
end
def Tk (H H' : Hp) : Prop := ∀ a xs, H a = some (.tup xs) → H' a = some (.tup xs)
theorem Ex.tk {H H' : Hp} (e : Ex H H') : Tk H H' := fun a xs h => e a _ h
theorem Tk.refl (H : Hp) : Tk H H := fun _ _ h => h
mutual
theorem Ow.back {T : Tab} {B H H' : Hp} (tk : Tk H H') : ∀ {r : R} {v : V} {a : Addr}, RelR T B H r v → (∀ p o, Ow H r v p → H p = some o → H' p = some o) → Ow H' r v a → Ow H r v a
  | .d x, v, a, h, k, o => by unfold Ow at o ⊢; exact o
  | .ol xs, v, a, h, k, o => by unfold Ow at o ⊢; exact o
  | .oi c fs, v, a, h, k, o => by unfold Ow at o ⊢; exact o
  | .od ks vs, v, a, h, k, o => by unfold Ow at o ⊢; exact o
  | .nl cs, v, a, h, k, o => by
    unfold RelR at h; unfold Ow at o ⊢
    obtain ⟨b, ys, h1, h2, h3, _⟩ := h
    rcases o with o | ⟨p, xs, o1, o2, o3⟩
    · exact .inl o
    · rw [h1] at o1; cases o1
      have q := k b _ (by unfold Ow; exact .inl h1) h2
      cases (HeldAt.inj (.inl q) o2)
      exact .inr ⟨b, ys, h1, .inl h2, OwL.back tk h3 (fun p o z => k p o (by unfold Ow; exact .inr ⟨b, ys, h1, .inl h2, z⟩)) o3⟩
  | .nt cs, v, a, h, k, o => by
    unfold RelR at h; unfold Ow at o ⊢
    obtain ⟨b, ys, h1, h2, h3⟩ := h
    obtain ⟨p, xs, o1, o2, o3⟩ := o
    rw [h1] at o1; cases o1
    cases (HeldAt.inj (.inr (.inl (tk b _ h2.2))) o2)
    exact ⟨b, ys, h1, .inr (.inl h2.2), OwL.back tk h3 (fun p o z => k p o (by unfold Ow; exact ⟨b, ys, h1, .inr (.inl h2.2), z⟩)) o3⟩
  | .ni c cs, v, a, h, k, o => by
    unfold RelR at h; unfold Ow at o ⊢
    obtain ⟨b, dx, fvs, h1, h2, _, h3, _⟩ := h
    rcases o with o | ⟨p, xs, o1, o2, o3⟩
    · exact .inl o
    · rw [h1] at o1; cases o1
      have q := k b _ (by unfold Ow; exact .inl h1) h2
      cases (HeldAt.inj (.inr (.inr (.inl ⟨_, _, _, q, rfl⟩))) o2)
      exact .inr ⟨b, _, h1, .inr (.inr (.inl ⟨_, _, _, h2, rfl⟩)), OwL.back tk h3 (fun p o z => k p o (by unfold Ow; exact .inr ⟨b, _, h1, .inr (.inr (.inl ⟨_, _, _, h2, rfl⟩)), z⟩)) o3⟩
  | .nd ks cs, v, a, h, k, o => by
    unfold RelR at h; unfold Ow at o ⊢
    obtain ⟨b, ys, h1, h2, h3, _⟩ := h
    rcases o with o | ⟨p, xs, o1, o2, o3⟩
    · exact .inl o
    · rw [h1] at o1; cases o1
      have q := h2.held.keep fun o z => k b o (by unfold Ow; exact .inl h1) z
      cases (HeldAt.inj q o2)
      exact .inr ⟨b, ys, h1, h2.held, OwL.back tk h3 (fun p o z => k p o (by unfold Ow; exact .inr ⟨b, ys, h1, h2.held, z⟩)) o3⟩
theorem OwL.back {T : Tab} {B H H' : Hp} (tk : Tk H H') : ∀ {rs : List R} {vs : List V} {a : Addr}, RelRs T B H rs vs → (∀ p o, OwL H rs vs p → H p = some o → H' p = some o) → OwL H' rs vs a → OwL H rs vs a
  | [], vs, a, h, k, o => by unfold OwL at o ⊢; exact o
  | r :: rs, vs, a, h, k, o => by
    unfold RelRs at h; unfold OwL at o ⊢
    obtain ⟨y, t, h1, h2, h3, _⟩ := h
    obtain ⟨y', t', o1, o2⟩ := o
    rw [h1] at o1; cases o1
    refine ⟨y, t, h1, ?_⟩
    rcases o2 with o2 | o2
    · exact .inl (Ow.back tk h2 (fun p o z => k p o (by unfold OwL; exact ⟨y, t, h1, .inl z⟩)) o2)
    · exact .inr (OwL.back tk h3 (fun p o z => k p o (by unfold OwL; exact ⟨y, t, h1, .inr z⟩)) o2)
end
mutual
theorem RelR.keep {T : Tab} {B B' H H' : Hp} (e : Ex B B') (tk : Tk H H') : ∀ {r : R} {v : V}, RelR T B H r v → (∀ p o, Ow H r v p → H p = some o → H' p = some o) → RelR T B' H' r v
  | .d x, v, h, k => by unfold RelR at h ⊢; exact Rep.mono e x h
  | .ol xs, v, h, k => by unfold RelR at h ⊢; obtain ⟨b, ys, h1, h2, h3⟩ := h; exact ⟨b, ys, h1, k b _ (by unfold Ow; exact h1) h2, Reps.mono e _ h3⟩
  | .oi c fs, v, h, k => by unfold RelR at h ⊢; obtain ⟨b, dx, fvs, h1, h2, h3, h4⟩ := h; exact ⟨b, dx, fvs, h1, k b _ (by unfold Ow; exact h1) h2, h3, Reps.mono e _ h4⟩
  | .od ks vs, v, h, k => by unfold RelR at h ⊢; obtain ⟨b, xs, h1, h2, h3⟩ := h; exact ⟨b, xs, h1, h2.keep e fun o z => k b o (by unfold Ow; exact h1) z, Reps.mono e _ h3⟩
  | .nl cs, v, h, k => by
    unfold RelR at h ⊢
    obtain ⟨b, ys, h1, h2, h3, h4⟩ := h
    have ko : ∀ p o, OwL H cs ys p → H p = some o → H' p = some o := fun p o z => k p o (by unfold Ow; exact .inr ⟨b, ys, h1, .inl h2, z⟩)
    exact ⟨b, ys, h1, k b _ (by unfold Ow; exact .inl h1) h2, RelRs.keep e tk h3 ko, fun z => h4 (OwL.back tk h3 ko z)⟩
  | .nt cs, v, h, k => by
    unfold RelR at h ⊢
    obtain ⟨b, ys, h1, h2, h3⟩ := h
    exact ⟨b, ys, h1, ⟨e b _ h2.1, tk b _ h2.2⟩, RelRs.keep e tk h3 fun p o z => k p o (by unfold Ow; exact ⟨b, ys, h1, .inr (.inl h2.2), z⟩)⟩
  | .ni c cs, v, h, k => by
    unfold RelR at h ⊢
    obtain ⟨b, dx, fvs, h1, h2, h5, h3, h4⟩ := h
    have ko : ∀ p o, OwL H cs (fvs.map (·.2)) p → H p = some o → H' p = some o := fun p o z => k p o (by unfold Ow; exact .inr ⟨b, _, h1, .inr (.inr (.inl ⟨_, _, _, h2, rfl⟩)), z⟩)
    exact ⟨b, dx, fvs, h1, k b _ (by unfold Ow; exact .inl h1) h2, h5, RelRs.keep e tk h3 ko, fun z => h4 (OwL.back tk h3 ko z)⟩
  | .nd ks cs, v, h, k => by
    unfold RelR at h ⊢
    obtain ⟨b, ys, h1, h2, h3, h4⟩ := h
    have ko : ∀ p o, OwL H cs ys p → H p = some o → H' p = some o := fun p o z => k p o (by unfold Ow; exact .inr ⟨b, ys, h1, h2.held, z⟩)
    exact ⟨b, ys, h1, h2.keep e fun o z => k b o (by unfold Ow; exact .inl h1) z, RelRs.keep e tk h3 ko, fun z => h4 (OwL.back tk h3 ko z)⟩
theorem RelRs.keep {T : Tab} {B B' H H' : Hp} (e : Ex B B') (tk : Tk H H') : ∀ {rs : List R} {vs : List V}, RelRs T B H rs vs → (∀ p o, OwL H rs vs p → H p = some o → H' p = some o) → RelRs T B' H' rs vs
  | [], vs, h, k => by unfold RelRs at h ⊢; exact h
  | r :: rs, vs, h, k => by
    unfold RelRs at h ⊢
    obtain ⟨y, t, h1, h2, h3, h4⟩ := h
    have k1 : ∀ p o, Ow H r y p → H p = some o → H' p = some o := fun p o z => k p o (by unfold OwL; exact ⟨y, t, h1, .inl z⟩)
    have k2 : ∀ p o, OwL H rs t p → H p = some o → H' p = some o := fun p o z => k p o (by unfold OwL; exact ⟨y, t, h1, .inr z⟩)
    exact ⟨y, t, h1, RelR.keep e tk h2 k1, RelRs.keep e tk h3 k2, fun b z1 z2 => h4 b (Ow.back tk h2 k1 z1) (OwL.back tk h3 k2 z2)⟩
end
structure Ext (B H B' H' : Hp) : Prop where
  b : Ex B B'
  h : Ex H H'
  bh : Ex B' H'
  new : ∀ a o, B' a = some o → B a = some o ∨ H a = none
  tup : ∀ a xs, H' a = some (.tup xs) → H a = some (.tup xs) ∨ B' a = some (.tup xs)
theorem Ext.refl {B H : Hp} (e : Ex B H) : Ext B H B H := ⟨.refl _, .refl _, e, fun _ _ h => .inl h, fun _ _ h => .inl h⟩
theorem Sim.ext {T : Tab} {st : Sl} {σ : St} {B F H B' H' : Hp} (S : Sim T st σ B F H) (e : Ext B H B' H') : Sim T st σ B' F H' := by
  have back : ∀ (i : Nat) r v a, st[i]? = some (some r) → σ[i]? = some (some v) → Ow H' r v a → Ow H r v a := fun i r v a h1 h2 o => by
    obtain ⟨v', h4, h5⟩ := S.rel i r h1
    rw [h2] at h4; cases h4
    exact Ow.back e.h.tk h5 (fun p o _ q => e.h p o q) o
  exact {
    exB := e.bh
    exF := S.exF.trans e.h
    dis := fun a o h => by
      cases q : B' a with
      | none => rfl
      | some u =>
        rcases e.new a u q with z | z
        · rw [S.dis a o h] at z; cases z
        · rw [S.exF a o h] at z; cases z
    tup := fun a xs h => by
      rcases e.tup a xs h with z | z
      · exact e.b a _ (S.tup a xs z)
      · exact z
    len := S.len
    rel := fun i r h => by
      obtain ⟨v, h1, h2⟩ := S.rel i r h
      exact ⟨v, h1, h2.keep e.b e.h.tk fun a o _ z => e.h a o z⟩
    own := fun i r v a h1 h2 h3 => by
      have h3 := back i r v a h1 h2 h3
      obtain ⟨z1, z2⟩ := S.own i r v a h1 h2 h3
      refine ⟨?_, z2⟩
      obtain ⟨v', h4, h5⟩ := S.rel i r h1
      rw [h2] at h4; cases h4
      obtain ⟨⟨o, h6⟩, _⟩ := h5.ow h3
      cases q : B' a with
      | none => rfl
      | some u =>
        rcases e.new a u q with z | z
        · rw [z1] at z; cases z
        · rw [h6] at z; cases z
    sep := fun i j r q v u a n h1 h2 h3 h4 h5 h6 => S.sep i j r q v u a n h1 h2 h3 h4 (back i r v a h1 h2 h5) (back j q u a h3 h4 h6) }
theorem Ext.newT {B H : Hp} {p : Addr} {o : HO} (e : Ex B H) (h : H p = none) : Ext B H (upd B p o) (upd H p o) := by
  refine ⟨.new (e.free h), .new h, fun a u q => ?_, fun a u q => ?_, fun a xs q => ?_⟩
  · by_cases z : a = p
    · subst z; rw [upd_same] at q ⊢; exact q
    · rw [upd_ne z] at q ⊢; exact e a u q
  · by_cases z : a = p
    · subst z; exact .inr h
    · rw [upd_ne z] at q; exact .inl q
  · by_cases z : a = p
    · subst z; rw [upd_same] at q ⊢; exact .inr q
    · rw [upd_ne z] at q; exact .inl q
end Fz
set_option Elab.async false
set_option linter.all false
set_option maxRecDepth 100000
set_option maxHeartbeats 2000000
namespace Fz
open PySem L2
inductive Oc (α : Type) where
  | v (a : α) | x (c : Nat)
abbrev DN := { d : Option Addr // d = none }
abbrev M (α : Type) := Sl → Option (Oc α × Sl)
def ret {α : Type} (a : α) : M α := fun st => some (.v a, st)
def bnd {α β : Type} (m : M α) (k : α → M β) : M β := fun st => match m st with
  | none => none
  | some (.x c, s) => some (.x c, s)
  | some (.v a, s) => k a s
def opt {α : Type} (o : Option α) : M α := fun st => match o with
  | none => none
  | some a => some (.v a, st)
variable (T : Tab)
section
variable (E : XK)
def Okx {α : Type} (o : Oc α) (st : Sl) (σ : St) (B F : Hp) (Q : α → Hp → Hp → Prop) : Prop := match o with
  | .v a => ∀ B' H', Ex B B' → Sim T st σ B' F H' → Q a B' H'
  | .x c => ∀ (d : DN) B' H', Ex B B' → Sim T st σ B' F H' → E (.ref (T.cls c)) d.1 H'
def Okr (o : Oc R) (st : Sl) (σ : St) (B F : Hp) (Q : V → Hp → Hp → Prop) : Prop := match o with
  | .v r => ∀ v B' H', Ex B B' → Sim T (some r :: st) (some v :: σ) B' F H' → Q v B' H'
  | .x c => ∀ (d : DN) B' H', Ex B B' → Sim T st σ B' F H' → E (.ref (T.cls c)) d.1 H'
end
variable (E : L2.St → XK)
def SemE (te : TE) (f : M D) : Prop := ∀ st σ B F H, Sim T st σ B F H → ∀ o s, f st = some (o, s) → ∀ Q : VK, Okx T (E σ) o s σ B F (fun x B' H' => ∀ v, Rep T B' x v → Q v H') → te σ H Q
def SemT (tt : TT) (f : M Bool) : Prop := ∀ st σ B F H, Sim T st σ B F H → ∀ o s, f st = some (o, s) → ∀ Q : Bool → Hp → Prop, Okx T (E σ) o s σ B F (fun b _ H' => Q b H') → tt σ H Q
def SemA (ta : TA) (f : M (List D)) : Prop := ∀ st σ B F H, Sim T st σ B F H → ∀ o s, f st = some (o, s) → ∀ Q : List V → Hp → Prop, Okx T (E σ) o s σ B F (fun xs B' H' => ∀ vs, Reps T B' xs vs → Q vs H') → ta σ H Q
def SemR (te : TE) (f : M R) : Prop := ∀ st σ B F H, Sim T st σ B F H → ∀ o s, f st = some (o, s) → ∀ Q : VK, Okr T (E σ) o s σ B F (fun v _ H' => Q v H') → te σ H Q
section
variable {T : Tab} {E : XK} {st : Sl} {σ : St} {B F H B' H' : Hp}
theorem Sim.push (S : Sim T st σ B F H) {x : D} {v : V} (r : Rep T B x v) : Sim T (some (.d x) :: st) (some v :: σ) B F H where
  exB := S.exB
  exF := S.exF
  dis := S.dis
  tup := S.tup
  len := by simp [S.len]
  rel := fun i q h => by
    cases i with
    | zero => simp at h; subst h; exact ⟨v, rfl, r⟩
    | succ i => obtain ⟨u, a, b⟩ := S.rel i q (by simpa using h); exact ⟨u, by simpa using a, b⟩
  own := fun i q u a h1 h2 h3 => by
    cases i with
    | zero => simp at h1; subst h1; exact h3.elim
    | succ i => exact S.own i q u a (by simpa using h1) (by simpa using h2) h3
  sep := fun i j q p u w a n h1 h2 h3 h4 h5 h6 => by
    cases i with
    | zero => simp at h1; subst h1; exact h5.elim
    | succ i =>
      cases j with
      | zero => simp at h3; subst h3; exact h6.elim
      | succ j => exact S.sep i j q p u w a (by omega) (by simpa using h1) (by simpa using h2) (by simpa using h3) (by simpa using h4) h5 h6
theorem Sim.pop {s : Option R} {v : Option V} (S : Sim T (s :: st) (v :: σ) B F H) : Sim T st σ B F H where
  exB := S.exB
  exF := S.exF
  dis := S.dis
  tup := S.tup
  len := by have := S.len; simpa using this
  rel := fun i q h => by obtain ⟨u, a, b⟩ := S.rel (i + 1) q (by simpa using h); exact ⟨u, by simpa using a, b⟩
  own := fun i q u a h1 h2 h3 => S.own (i + 1) q u a (by simpa using h1) (by simpa using h2) h3
  sep := fun i j q p u w a n h1 h2 h3 h4 h5 h6 => S.sep (i + 1) (j + 1) q p u w a (by omega) (by simpa using h1) (by simpa using h2) (by simpa using h3) (by simpa using h4) h5 h6
theorem Sim.top {r : R} {v : V} (S : Sim T (some r :: st) (some v :: σ) B F H) : RelR T B H r v := by
  obtain ⟨u, a, b⟩ := S.rel 0 r rfl
  cases a; exact b
theorem relR_od {B H : Hp} {p : Addr} {ks vs : List D} {xs : List V} (h : DctAt T B H p ks xs) (r : Reps T B vs xs) : RelR T B H (.od ks vs) (.ref p) := by
  unfold RelR; exact ⟨p, _, rfl, h, r⟩
theorem Sim.forget (S : Sim T st σ B F H) (i : Nat) : Sim T (st.set i none) σ B F H where
  exB := S.exB
  exF := S.exF
  dis := S.dis
  tup := S.tup
  len := by simp [S.len]
  rel := fun j q h => by
    rw [List.getElem?_set] at h
    split at h
    · split at h <;> simp at h
    · exact S.rel j q h
  own := fun j q u a h1 h2 h3 => by
    rw [List.getElem?_set] at h1
    split at h1
    · split at h1 <;> simp at h1
    · exact S.own j q u a h1 h2 h3
  sep := fun j k q p u w a n h1 h2 h3 h4 h5 h6 => by
    rw [List.getElem?_set] at h1 h3
    split at h1
    · split at h1 <;> simp at h1
    · split at h3
      · split at h3 <;> simp at h3
      · exact S.sep j k q p u w a n h1 h2 h3 h4 h5 h6
theorem Sim.store {r : R} {v : V} (S : Sim T (some r :: st) (some v :: σ) B F H) (i : Nat) : Sim T (st.set i (some r)) (σ.set i (some v)) B F H := by
  have S' := S.pop
  have ln := S'.len
  refine ⟨S.exB, S.exF, S.dis, S.tup, by simp [ln], fun j q h => ?_, fun j q u a h1 h2 h3 => ?_, fun j k q p u w a n h1 h2 h3 h4 h5 h6 => ?_⟩
  · rw [List.getElem?_set] at h
    by_cases e : i = j
    · subst e
      rw [if_pos rfl] at h
      split at h
      · cases h
        refine ⟨v, ?_, S.top⟩
        rw [List.getElem?_set_self (by omega)]
      · cases h
    · rw [if_neg e] at h
      obtain ⟨u, a, b⟩ := S'.rel j q h
      exact ⟨u, by rw [List.getElem?_set_ne e]; exact a, b⟩
  · rw [List.getElem?_set] at h1 h2
    by_cases e : i = j
    · subst e
      rw [if_pos rfl] at h1 h2
      split at h1
      · cases h1
        rw [if_pos (by omega)] at h2
        cases h2
        exact S.own 0 r v a rfl rfl h3
      · cases h1
    · rw [if_neg e] at h1 h2
      exact S'.own j q u a h1 h2 h3
  · rw [List.getElem?_set] at h1 h2 h3 h4
    by_cases e : i = j
    · subst e
      rw [if_pos rfl] at h1 h2
      rw [if_neg n] at h3 h4
      split at h1
      · cases h1
        rw [if_pos (by omega)] at h2
        cases h2
        exact S.sep 0 (k + 1) r p v w a (by omega) rfl rfl (by simpa using h3) (by simpa using h4) h5 h6
      · cases h1
    · rw [if_neg e] at h1 h2
      by_cases e' : i = k
      · subst e'
        rw [if_pos rfl] at h3 h4
        split at h3
        · cases h3
          rw [if_pos (by omega)] at h4
          cases h4
          exact S.sep (j + 1) 0 q r u v a (by omega) (by simpa using h1) (by simpa using h2) rfl rfl h5 h6
        · cases h3
      · rw [if_neg e'] at h3 h4
        exact S'.sep j k q p u w a n h1 h2 h3 h4 h5 h6
mutual
def vw : R → D
  | .d x => x
  | .ol xs => .lst xs
  | .oi c fs => .obj c fs
  | .od ks vs => .dct ks vs
  | .nl cs => .lst (vwL cs)
  | .nt cs => .tup (vwL cs)
  | .ni c cs => .obj c (vwL cs)
  | .nd ks cs => .dct ks (vwL cs)
def vwL : List R → List D
  | [] => []
  | r :: rs => vw r :: vwL rs
end
mutual
def whole (T : Tab) : R → Prop
  | .oi c fs => fs.length = (T.flds c).length
  | .nl cs => wholeL T cs
  | .nt cs => wholeL T cs
  | .ni c cs => cs.length = (T.flds c).length ∧ wholeL T cs
  | .nd _ cs => wholeL T cs
  | _ => True
def wholeL (T : Tab) : List R → Prop
  | [] => True
  | r :: rs => whole T r ∧ wholeL T rs
end
noncomputable def addS (B H : Hp) (S : Addr → Prop) : Hp := fun b => by classical exact if S b then H b else B b
theorem addS_in {B H : Hp} {S : Addr → Prop} {b : Addr} (h : S b) : addS B H S b = H b := by unfold addS; exact if_pos h
theorem addS_out {B H : Hp} {S : Addr → Prop} {b : Addr} (h : ¬ S b) : addS B H S b = B b := by unfold addS; exact if_neg h
theorem addS_ex {B H : Hp} {S : Addr → Prop} (hb : ∀ a, S a → B a = none) : Ex B (addS B H S) := fun b o h => by
  by_cases q : S b
  · rw [hb b q] at h; cases h
  · rw [addS_out q]; exact h
theorem Ow.self {r : R} {v : V} {b : Addr} (h : v = .ref b) (n : (∀ x, r ≠ .d x) ∧ ∀ cs, r ≠ .nt cs) : Ow H r v b := by
  cases r <;> unfold Ow <;> first | exact h | exact .inl h | exact (n.1 _ rfl).elim | exact (n.2 _ rfl).elim
mutual
theorem repR {S : Addr → Prop} (e : Ex B (addS B H S)) : ∀ {r : R} {v : V}, RelR T B H r v → (∀ b, Ow H r v b → S b) → whole T r → Rep T (addS B H S) (vw r) v
  | .d x, v, h, k, w => by unfold RelR at h; exact Rep.mono e x h
  | .ol xs, v, h, k, w => by
    unfold RelR at h; obtain ⟨b, ys, h1, h2, h3⟩ := h
    unfold vw; unfold Rep
    exact ⟨b, ys, h1, .inl (.inl (by rw [addS_in (k b (by unfold Ow; exact h1))]; exact h2)), Reps.mono e _ h3⟩
  | .oi c fs, v, h, k, w => by
    unfold RelR at h; obtain ⟨b, dx, fvs, h1, h2, h3, h4⟩ := h
    unfold vw; unfold Rep
    unfold whole at w
    exact ⟨b, dx, fvs, h1, by rw [addS_in (k b (by unfold Ow; exact h1))]; exact h2, by rw [h3, w, List.take_length], Reps.mono e _ h4⟩
  | .od ks vs, v, h, k, w => by
    unfold RelR at h; obtain ⟨b, xs, h1, h2, h4⟩ := h
    unfold vw; rw [rep_dct]
    exact ⟨b, xs, h1, h2.keep e fun o z => by rw [addS_in (k b (by unfold Ow; exact h1))]; exact z, Reps.mono e _ h4⟩
  | .nl cs, v, h, k, w => by
    unfold RelR at h; obtain ⟨b, ys, h1, h2, h3, _⟩ := h
    unfold vw; unfold Rep
    unfold whole at w
    exact ⟨b, ys, h1, .inl (.inl (by rw [addS_in (k b (by unfold Ow; exact .inl h1))]; exact h2)), repRs e h3 (fun p z => k p (by unfold Ow; exact .inr ⟨b, ys, h1, .inl h2, z⟩)) w⟩
  | .nt cs, v, h, k, w => by
    unfold RelR at h; obtain ⟨b, ys, h1, h2, h3⟩ := h
    unfold vw; unfold Rep
    unfold whole at w
    exact ⟨b, ys, h1, .inl (e b _ h2.1), repRs e h3 (fun p z => k p (by unfold Ow; exact ⟨b, ys, h1, .inr (.inl h2.2), z⟩)) w⟩
  | .ni c cs, v, h, k, w => by
    unfold RelR at h; obtain ⟨b, dx, fvs, h1, h2, h5, h3, _⟩ := h
    unfold vw; unfold Rep
    unfold whole at w
    exact ⟨b, dx, fvs, h1, by rw [addS_in (k b (by unfold Ow; exact .inl h1))]; exact h2, by rw [h5, w.1, List.take_length], repRs e h3 (fun p z => k p (by unfold Ow; exact .inr ⟨b, _, h1, .inr (.inr (.inl ⟨_, _, _, h2, rfl⟩)), z⟩)) w.2⟩
  | .nd ks cs, v, h, k, w => by
    unfold RelR at h; obtain ⟨b, xs, h1, h2, h3, _⟩ := h
    unfold vw; rw [rep_dct]
    unfold whole at w
    exact ⟨b, xs, h1, h2.keep e fun o z => by rw [addS_in (k b (by unfold Ow; exact .inl h1))]; exact z, repRs e h3 (fun p z => k p (by unfold Ow; exact .inr ⟨b, xs, h1, h2.held, z⟩)) w⟩
theorem repRs {S : Addr → Prop} (e : Ex B (addS B H S)) : ∀ {rs : List R} {vs : List V}, RelRs T B H rs vs → (∀ b, OwL H rs vs b → S b) → wholeL T rs → Reps T (addS B H S) (vwL rs) vs
  | [], vs, h, k, w => by unfold RelRs at h; unfold vwL; unfold Reps; exact h
  | r :: rs, vs, h, k, w => by
    unfold RelRs at h; obtain ⟨y, t, h1, h2, h3, _⟩ := h
    unfold vwL; unfold Reps
    unfold wholeL at w
    exact ⟨y, t, h1, repR e h2 (fun b z => k b (by unfold OwL; exact ⟨y, t, h1, .inl z⟩)) w.1, repRs e h3 (fun b z => k b (by unfold OwL; exact ⟨y, t, h1, .inr z⟩)) w.2⟩
end
theorem relR_vw {r : R} {v : V} (h : RelR T B H r v) (w : whole T r) (e : Ex B (addS B H (Ow H r v))) : Rep T (addS B H (Ow H r v)) (vw r) v := repR e h (fun _ z => z) w
theorem Sim.freeze (S : Sim T st σ B F H) {i : Nat} {r : R} (h : st[i]? = some (some r)) (w : whole T r) :
    ∃ B', Ex B B' ∧ Sim T (st.set i (some (.d (vw r)))) σ B' F H ∧ ∀ v, σ[i]? = some (some v) → Rep T B' (vw r) v := by
  obtain ⟨v, hv, rel⟩ := S.rel i r h
  have e : Ex B (addS B H (Ow H r v)) := addS_ex fun a o => (S.own i r v a h hv o).1
  have rp := relR_vw rel w e
  refine ⟨addS B H (Ow H r v), e, ⟨fun b o q => ?_, S.exF, fun b o q => ?_, fun b xs q => ?_, by simp [S.len], fun j q hj => ?_, fun j q u b h1 h2 h3 => ?_, fun j k q p u w' b n h1 h2 h3 h4 h5 h6 => ?_⟩, fun v' hv' => ?_⟩
  · by_cases z : Ow H r v b
    · rw [addS_in z] at q; exact q
    · rw [addS_out z] at q; exact S.exB b o q
  · by_cases z : Ow H r v b
    · rw [(S.own i r v b h hv z).2] at q; cases q
    · rw [addS_out z]; exact S.dis b o q
  · exact e b _ (S.tup b xs q)
  · rw [List.getElem?_set] at hj
    by_cases z : i = j
    · subst z
      rw [if_pos rfl] at hj
      split at hj
      · cases hj; exact ⟨v, hv, by unfold RelR; exact rp⟩
      · cases hj
    · rw [if_neg z] at hj
      obtain ⟨u, h1, h2⟩ := S.rel j q hj
      exact ⟨u, h1, h2.keep e (Tk.refl H) fun _ _ _ q => q⟩
  · rw [List.getElem?_set] at h1
    by_cases z : i = j
    · subst z
      rw [if_pos rfl] at h1
      split at h1
      · cases h1; exact h3.elim
      · cases h1
    · rw [if_neg z] at h1
      obtain ⟨y1, y2⟩ := S.own j q u b h1 h2 h3
      refine ⟨?_, y2⟩
      by_cases y : Ow H r v b
      · exact (S.sep i j r q v u b z h hv h1 h2 y h3).elim
      · rw [addS_out y]; exact y1
  · rw [List.getElem?_set] at h1 h3
    by_cases z : i = j
    · subst z
      rw [if_pos rfl] at h1
      split at h1
      · cases h1; exact h5.elim
      · cases h1
    · rw [if_neg z] at h1
      by_cases z' : i = k
      · subst z'
        rw [if_pos rfl] at h3
        split at h3
        · cases h3; exact h6.elim
        · cases h3
      · rw [if_neg z'] at h3
        exact S.sep j k q p u w' b n h1 h2 h3 h4 h5 h6
  · rw [hv] at hv'; cases hv'; exact rp
theorem Sim.freezeTop {r : R} {v : V} (S : Sim T (some r :: st) (some v :: σ) B F H) (w : whole T r) : ∃ B', Ex B B' ∧ Sim T st σ B' F H ∧ Rep T B' (vw r) v := by
  obtain ⟨B', e, S', h⟩ := S.freeze (i := 0) rfl w
  exact ⟨B', e, Sim.pop (show Sim T (some (.d (vw r)) :: st) (some v :: σ) B' F H from S'), h v rfl⟩
theorem Sim.alloc (S : Sim T st σ B F H) {p : Addr} {o : HO} {r : R} (hp : H p = none) (nt : ∀ xs, o ≠ .tup xs) (hr : RelR T B (upd H p o) r (.ref p)) (ho : ∀ a, Ow (upd H p o) r (.ref p) a → a = p := by intro a h; exact (V.ref.inj h).symm) : Sim T (some r :: st) (some (.ref p) :: σ) B F (upd H p o) := by
  have back : ∀ (i : Nat) q v a, st[i]? = some (some q) → σ[i]? = some (some v) → Ow (upd H p o) q v a → Ow H q v a := fun i q v a h1 h2 z => by
    obtain ⟨v', h4, h5⟩ := S.rel i q h1
    rw [h2] at h4; cases h4
    exact Ow.back (Ex.new hp).tk h5 (fun b u _ e => (Ex.new hp) b u e) z
  have no : ∀ (k : Nat) y x, st[k]? = some (some y) → σ[k]? = some (some x) → Ow H y x p → False := fun k y x g1 g2 g3 => by
    obtain ⟨u', a', b'⟩ := S.rel k y g1
    rw [g2] at a'; cases a'
    obtain ⟨⟨o', h'⟩, _⟩ := b'.ow g3
    rw [hp] at h'; cases h'
  refine ⟨S.exB.trans (.new hp), S.exF.trans (.new hp), S.dis, fun a xs q => ?_, by simp [S.len], fun i q h => ?_, fun i q u a h1 h2 h3 => ?_, fun i j q t u w a n h1 h2 h3 h4 h5 h6 => ?_⟩
  · by_cases z : a = p
    · subst z; rw [upd_same] at q; cases q; exact (nt xs rfl).elim
    · rw [upd_ne z] at q; exact S.tup a xs q
  · cases i with
    | zero => simp at h; subst h; exact ⟨_, rfl, hr⟩
    | succ i =>
      obtain ⟨u, a, b⟩ := S.rel i q (by simpa using h)
      exact ⟨u, by simpa using a, b.keep (.refl B) (Ex.new hp).tk fun a o _ z => (Ex.new hp) a o z⟩
  · cases i with
    | zero =>
      simp at h1 h2; subst h1; subst h2
      have e := ho a h3
      subst e
      exact ⟨S.exB.free hp, S.exF.free hp⟩
    | succ i =>
      have h1 : st[i]? = some (some q) := by simpa using h1
      have h2 : σ[i]? = some (some u) := by simpa using h2
      exact S.own i q u a h1 h2 (back i q u a h1 h2 h3)
  · cases i with
    | zero =>
      simp at h1 h2; subst h1; subst h2
      have e := ho a h5
      subst e
      cases j with
      | zero => exact n rfl
      | succ j =>
        have h3 : st[j]? = some (some t) := by simpa using h3
        have h4 : σ[j]? = some (some w) := by simpa using h4
        exact no j t w h3 h4 (back j t w _ h3 h4 h6)
    | succ i =>
      have h1 : st[i]? = some (some q) := by simpa using h1
      have h2 : σ[i]? = some (some u) := by simpa using h2
      cases j with
      | zero =>
        simp at h3 h4; subst h3; subst h4
        have e := ho a h6
        subst e
        exact no i q u h1 h2 (back i q u _ h1 h2 h5)
      | succ j =>
        have h3 : st[j]? = some (some t) := by simpa using h3
        have h4 : σ[j]? = some (some w) := by simpa using h4
        exact S.sep i j q t u w a (by omega) h1 h2 h3 h4 (back i q u a h1 h2 h5) (back j t w a h3 h4 h6)
theorem Sim.change2 {q : R} {u : V} (S : Sim T (some q :: st) (some u :: σ) B F H) {i : Nat} {r r' : R} {v : V} {a : Addr} {o : HO} (h : st[i]? = some (some r)) (hv : σ[i]? = some (some v)) (ho : Ow H r v a) (nt : ∀ xs, o ≠ .tup xs)
    (hr : RelR T B (upd H a o) r' v) (hb : ∀ b, Ow (upd H a o) r' v b → Ow H r v b ∨ Ow H q u b) : Sim T (st.set i (some r')) σ B F (upd H a o) := by
  have S' := S.pop
  obtain ⟨ba, fa⟩ := S'.own i r v a h hv ho
  obtain ⟨vr, hvr, relr⟩ := S'.rel i r h
  rw [hv] at hvr; cases hvr
  have tk : Tk H (upd H a o) := fun b xs z => by
    rw [upd_ne (by intro e; subst e; exact (relr.ow ho).2 xs z)]; exact z
  have other : ∀ j q u, i ≠ j → st[j]? = some (some q) → σ[j]? = some (some u) → ∀ b, Ow H q u b → b ≠ a := fun j q u n g1 g2 b g3 e => by
    subst e; exact S'.sep i j r q v u b n h hv g1 g2 ho g3
  have back : ∀ j q u, i ≠ j → st[j]? = some (some q) → σ[j]? = some (some u) → ∀ b, Ow (upd H a o) q u b → Ow H q u b := fun j q u n g1 g2 b g3 => by
    obtain ⟨v', h4, h5⟩ := S'.rel j q g1
    rw [g2] at h4; cases h4
    exact Ow.back tk h5 (fun p w g4 g5 => by rw [upd_ne (other j q u n g1 g2 p g4)]; exact g5) g3
  have ln := S'.len
  have two : ∀ j p w b, i ≠ j → st[j]? = some (some p) → σ[j]? = some (some w) → Ow (upd H a o) r' v b → Ow H p w b → False := fun j p w b n g1 g2 g3 g4 => by
    rcases hb b g3 with z | z
    · exact S'.sep i j r p v w b n h hv g1 g2 z g4
    · exact S.sep 0 (j + 1) q p u w b (by omega) rfl rfl (by simpa using g1) (by simpa using g2) z g4
  refine ⟨fun b u q => ?_, fun b u q => ?_, S'.dis, fun b xs q => ?_, by simp [ln], fun j q hj => ?_, fun j p w b h1 h2 h3 => ?_, fun j k q p u w b n h1 h2 h3 h4 h5 h6 => ?_⟩
  · rw [upd_ne (by intro e; subst e; rw [ba] at q; cases q)]; exact S'.exB b u q
  · rw [upd_ne (by intro e; subst e; rw [fa] at q; cases q)]; exact S'.exF b u q
  · by_cases z : b = a
    · subst z; rw [upd_same] at q; cases q; exact (nt xs rfl).elim
    · rw [upd_ne z] at q; exact S'.tup b xs q
  · rw [List.getElem?_set] at hj
    by_cases z : i = j
    · subst z
      rw [if_pos rfl] at hj
      split at hj
      · cases hj; exact ⟨v, hv, hr⟩
      · cases hj
    · rw [if_neg z] at hj
      obtain ⟨u, h1, h2⟩ := S'.rel j q hj
      exact ⟨u, h1, h2.keep (.refl B) tk fun b ob g1 g2 => by rw [upd_ne (other j q u z hj h1 b g1)]; exact g2⟩
  · rw [List.getElem?_set] at h1
    by_cases z : i = j
    · subst z
      rw [if_pos rfl] at h1
      split at h1
      · cases h1
        rw [hv] at h2; cases h2
        rcases hb b h3 with z | z
        · exact S'.own i r v b h hv z
        · exact S.own 0 q u b rfl rfl z
      · cases h1
    · rw [if_neg z] at h1
      exact S'.own j p w b h1 h2 (back j p w z h1 h2 b h3)
  · rw [List.getElem?_set] at h1 h3
    by_cases z : i = j
    · subst z
      rw [if_pos rfl] at h1
      rw [if_neg n] at h3
      split at h1
      · cases h1
        rw [hv] at h2; cases h2
        exact two k p w b n h3 h4 h5 (back k p w n h3 h4 b h6)
      · cases h1
    · rw [if_neg z] at h1
      by_cases z' : i = k
      · subst z'
        rw [if_pos rfl] at h3
        split at h3
        · cases h3
          rw [hv] at h4; cases h4
          exact two j q u b z h1 h2 h6 (back j q u z h1 h2 b h5)
        · cases h3
      · rw [if_neg z'] at h3
        exact S'.sep j k q p u w b n h1 h2 h3 h4 (back j q u z h1 h2 b h5) (back k p w z' h3 h4 b h6)
theorem Sim.change (S : Sim T st σ B F H) {i : Nat} {r r' : R} {v : V} {a : Addr} {o : HO} (h : st[i]? = some (some r)) (hv : σ[i]? = some (some v)) (ho : Ow H r v a) (nt : ∀ xs, o ≠ .tup xs)
    (hr : RelR T B (upd H a o) r' v) (hb : ∀ b, Ow (upd H a o) r' v b → Ow H r v b := by intro b h; exact h) : Sim T (st.set i (some r')) σ B F (upd H a o) :=
  Sim.change2 (q := .d .non) (u := .non) (S.push (show Rep T B .non .non by unfold Rep; rfl)) h hv ho nt hr fun b z => .inl (hb b z)
end
end Fz
set_option Elab.async false
set_option linter.all false
set_option maxRecDepth 100000
set_option maxHeartbeats 2000000
namespace Fz
open PySem L2 PySem.Spec PyProof.Rows
def ofK (kvs : List (Key × V)) : List (KX × V) := kvs.map fun kv => (.v kv.1, kv.2)
def ofX (xs : List (NestedKey × Addr × V)) : List (KX × V) := xs.map fun x => (.t x.1 x.2.1, x.2.2)
theorem ofK_all : ∀ {es : List (KX × V)}, (∀ e ∈ es, e.1.isV = true) → ∃ kvs, es = ofK kvs
  | [], _ => ⟨[], rfl⟩
  | (.v k, y) :: es, h => by
    obtain ⟨kvs, e⟩ := ofK_all fun e he => h e (List.mem_cons_of_mem _ he)
    exact ⟨(k, y) :: kvs, by rw [e]; rfl⟩
  | (.t k a, y) :: es, h => nomatch h _ List.mem_cons_self
theorem ofX_all : ∀ {es : List (KX × V)}, (∀ e ∈ es, e.1.isT = true) → ∃ xs, es = ofX xs
  | [], _ => ⟨[], rfl⟩
  | (.t k a, y) :: es, h => by
    obtain ⟨xs, e⟩ := ofX_all fun e he => h e (List.mem_cons_of_mem _ he)
    exact ⟨(k, a, y) :: xs, by rw [e]; rfl⟩
  | (.v k, y) :: es, h => nomatch h _ List.mem_cons_self
def XV (xs : List (NestedKey × Addr × V)) (ys : List (NestedKey × Addr × Value)) : Prop := Paired (fun p q => p.1 = q.1 ∧ p.2.1 = q.2.1 ∧ RelV p.2.2 q.2.2) xs ys
theorem XV.keys {xs : List (NestedKey × Addr × V)} {ys : List (NestedKey × Addr × Value)} (r : XV xs ys) : ys.map (·.1) = xs.map (·.1) := by
  induction r with
  | nil => rfl
  | cons q _ ih => simp [ih, q.1]
theorem XV.get {xs : List (NestedKey × Addr × V)} {ys : List (NestedKey × Addr × Value)} (r : XV xs ys) : ∀ {i : Nat} {y : NestedKey × Addr × Value}, ys[i]? = some y → ∃ x, xs[i]? = some x ∧ x.1 = y.1 ∧ x.2.1 = y.2.1 ∧ RelV x.2.2 y.2.2 := by
  induction r with
  | nil => intro i y hi; simp at hi
  | @cons p q xs ys r _ ih =>
    intro i y hi
    cases i with
    | zero => simp at hi; subst hi; exact ⟨p, rfl, r⟩
    | succ i => simpa using ih (i := i) (by simpa using hi)
theorem nkK_inj {a b : Key} (h : (KX.v a).nk = (KX.v b).nk) : a = b := by
  cases a <;> cases b <;> simp only [KX.nk] at h <;> cases h <;> rfl
section
variable {P : Program} {w : World} {H : Hp} {h : Heap} {a : Addr} {ep : Nat} {es : List (KX × V)}
theorem dg_raw (ok : HOk P w H h) (e : H a = some (dG w a ep es)) : ∃ en, h.DictRaw a en ep ∧ Paired (entOk w) es en.toList := by
  obtain ⟨⟨o, en, h1, h2, h3, h4⟩, _⟩ := (show ObjOk P w H h a (dG w a ep es) from ok a _ e)
  exact ⟨en, ⟨o, h1, h2, h3⟩, h4⟩
theorem dgV (ok : HOk P w H h) (e : H a = some (dG w a ep es)) (k : DGOk a es) (hv : ∀ e ∈ es, e.1.isV = true) : ∃ kvs vs, es = ofK kvs ∧ KV kvs vs ∧ h.DictOf (mixKind P w) a vs := by
  obtain ⟨en, ⟨o, h1, h2, h3⟩, h4⟩ := dg_raw ok e
  obtain ⟨kvs, rfl⟩ := ofK_all hv
  have go : ∀ {kvs : List (Key × V)} {l : List DictEntry}, Paired (entOk w) (ofK kvs) l → ∃ vs, KV kvs vs ∧ Pairs (mixKind P w) l vs ∧ ∀ x ∈ l, ∃ q, (mixKind P w).is q x.key = true ∧ x.hash = (mixKind P w).hash q := fun {kvs} => by
    induction kvs with
    | nil => intro l p; cases p; exact ⟨[], .nil, .nil, fun x hx => by simp at hx⟩
    | cons kv kvs ih =>
      intro l p
      cases p with
      | @cons _ en _ l q r =>
        obtain ⟨vs, z1, z2, z3⟩ := ih r
        obtain ⟨q1, q2, q3⟩ := q
        refine ⟨(kv.1, en.val) :: vs, .cons ⟨rfl, q3⟩ z1, .cons q2 rfl z2, fun x hx => ?_⟩
        rcases List.mem_cons.mp hx with rfl | hx
        · exact ⟨kv.1, q2, q1⟩
        · exact z3 x hx
  obtain ⟨vs, z1, z2, z3⟩ := go h4
  refine ⟨kvs, vs, rfl, z1, o, en, ep, h1, h2, h3, fun x hx => z3 x (Array.mem_toList_iff.mpr hx), z2, ?_⟩
  rw [← z1.keys]
  have := k.nd
  unfold ofK at this
  rw [List.map_map] at this
  rw [List.nodup_iff_pairwise_ne, List.pairwise_map] at this ⊢
  exact this.imp fun {a b} n e => n (show (KX.v a.1).nk = (KX.v b.1).nk by rw [e])
theorem dgK_obj {H' : Hp} {kvs : List (Key × V)} {vs : List (Key × Value)} (r : KV kvs vs) (dd : h.DictOf (mixKind P w) a vs) : ∃ ep, ObjOk P w H' h a (dG w a ep (ofK kvs)) := by
  obtain ⟨o, en, ep, h1, h2, h3, h4, h5, h6⟩ := dd
  have go : ∀ {kvs : List (Key × V)} {vs : List (Key × Value)} {l : List DictEntry}, KV kvs vs → Pairs (mixKind P w) l vs → (∀ x ∈ l, ∃ q, (mixKind P w).is q x.key = true ∧ x.hash = (mixKind P w).hash q) → Paired (entOk w) (ofK kvs) l := fun {kvs vs l} r p => by
    induction p generalizing kvs with
    | nil => intro _; cases r; exact .nil
    | @cons en kv l vs p1 p2 p3 ih =>
      intro hk
      cases r with
      | @cons x _ kvs _ q r =>
        refine .cons ⟨?_, ?_, ?_⟩ (ih r fun x hx => hk x (List.mem_cons_of_mem _ hx))
        · obtain ⟨c, c1, c2⟩ := hk en List.mem_cons_self
          have := (mixKind P w).inj _ _ _ c1 p1
          rw [c2, this, ← q.1]; rfl
        · show keyIs x.1 en.key = true
          rw [q.1]; exact p1
        · show RelV x.2 en.val
          rw [p2]; exact q.2
  exact ⟨ep, ⟨o, en, h1, h2, h3, go r h5 fun x hx => h4 x (Array.mem_toList_iff.mp hx)⟩, ⟨o, h1⟩, fun h1' h2' ⟨o', e', g1, g2⟩ st => ⟨o', e', st _ g1, g2⟩⟩
theorem dgX_obj {H' : Hp} {xs : List (NestedKey × Addr × V)} {ys : List (NestedKey × Addr × Value)} (r : XV xs ys) (dd : h.DictOfH (nestedKind P w) a ys) : ∃ ep, ObjOk P w H' h a (dG w a ep (ofX xs)) := by
  obtain ⟨o, en, ep, h1, h2, h3, h4, h5, h6⟩ := dd
  have go : ∀ {xs : List (NestedKey × Addr × V)} {ys : List (NestedKey × Addr × Value)}, XV xs ys → Paired (entOk w) (ofX xs) (ys.map (entryOfKey (nestedKind P w))) := fun {xs ys} r => by
    induction r with
    | nil => exact .nil
    | @cons x y xs ys q _ ih =>
      obtain ⟨q1, q2, q3⟩ := q
      refine .cons ⟨?_, ?_, q3⟩ ih
      · show y.1.hash w = x.1.hash w; rw [q1]
      · show Value.ref y.2.1 = Value.ref x.2.1; rw [q2]
  exact ⟨ep, ⟨o, en, h1, h2, h3, by rw [h4]; exact go r⟩, ⟨o, h1⟩, fun h1' h2' ⟨o', e', g1, g2⟩ st => ⟨o', e', st _ g1, g2⟩⟩
mutual
theorem nested_of {T : Tab} (ok : HOk P w H h) (kx : T.K.In h) : ∀ (d : D) {v : V} {u : Value} {k : NestedKey}, Rep T H d v → RelV v u → nk d = some k → NestedIs h k u
  | .non, v, u, k, r, rv, e => by unfold Rep at r; subst r; cases e; cases rv; exact .none
  | .bl b, v, u, k, r, rv, e => by unfold Rep at r; subst r; cases e; cases rv; exact .bool rfl
  | .int i, v, u, k, r, rv, e => by unfold Rep at r; subst r; cases e; obtain ⟨t, rfl⟩ := rv; exact .int i t
  | .str s, v, u, k, r, rv, e => by unfold Rep at r; obtain ⟨rfl, _⟩ := r; cases e; obtain ⟨t, rfl⟩ := rv; exact .text s t
  | .tup ds, v, u, k, r, rv, e => by
    unfold Rep at r
    obtain ⟨b, xs, rfl, ht, hr⟩ := r
    cases rv
    unfold nk at e
    obtain ⟨ks, e1, rfl⟩ := Option.map_eq_some_iff.mp e
    rcases ht with ht | ⟨o, its, n, h1, h2, h3, _, h5⟩
    · obtain ⟨_, its, rv, o, h1, h2, n, h3⟩ := (show ObjOk P w H h b (.tup xs) from ok b _ ht)
      exact .tup h1 h2 h3 (nesteds_of ok kx ds hr (by simpa using rv) e1)
    · exact .tup (kx b o h1) h2 h3 (nesteds_of ok kx ds hr h5 e1)
  | .lst ds, v, u, k, r, rv, e => by simp [nk] at e
  | .obj _ _, v, u, k, r, rv, e => by simp [nk] at e
  | .dct _ _, v, u, k, r, rv, e => by simp [nk] at e
  | .ext _ _, v, u, k, r, rv, e => by simp [nk] at e
theorem nesteds_of {T : Tab} (ok : HOk P w H h) (kx : T.K.In h) : ∀ (ds : List D) {vs : List V} {us : List Value} {ks : List NestedKey}, Reps T H ds vs → Vals vs us → nks ds = some ks → NestedAll h ks us
  | [], vs, us, ks, r, rv, e => by unfold Reps at r; subst r; cases rv; cases e; exact .nil
  | d :: ds, vs, us, ks, r, rv, e => by
    unfold Reps at r
    obtain ⟨v, q, rfl, r1, r2⟩ := r
    cases rv with
    | cons h1 h2 =>
      unfold nks at e
      obtain ⟨k, e1, e2⟩ := Option.bind_eq_some_iff.mp e
      obtain ⟨l, e3, rfl⟩ := Option.map_eq_some_iff.mp e2
      exact .cons (nested_of ok kx d r1 h1 e1) (nesteds_of ok kx ds r2 h2 e3)
end
theorem KReps.get {T : Tab} : ∀ {ks : List D} {xs : List KX} {i : Nat} {x : KX}, KReps T H ks xs → xs[i]? = some x → ∃ d, ks[i]? = some d ∧ nk d = some x.nk ∧ (match x with
    | .v k => DKey d k
    | .t k a => nk d = some k ∧ Rep T H d (.ref a))
  | [], xs, i, x, h, e => by unfold KReps at h; subst h; simp at e
  | d :: ds, xs, i, x, h, e => by
    unfold KReps at h
    obtain ⟨y, r, rfl, h1, h2⟩ := h
    cases i with
    | zero =>
      simp at e; subst e
      refine ⟨d, rfl, ?_, h1⟩
      cases y with
      | v k =>
        have h1 : DKey d k := h1
        cases d <;> first | exact h1.elim | (cases (show k = _ from h1); rfl)
      | t k a => exact h1.1
    | succ i => exact KReps.get (i := i) h2 (by simpa using e)
theorem KReps.length {T : Tab} : ∀ {ks : List D} {xs : List KX}, KReps T H ks xs → ks.length = xs.length
  | [], xs, h => by unfold KReps at h; subst h; rfl
  | d :: ds, xs, h => by unfold KReps at h; obtain ⟨y, r, rfl, _, h2⟩ := h; simp [KReps.length h2]
theorem dgT {T : Tab} {ks : List D} (ok : HOk P w H h) (kx : T.K.In h) (e : H a = some (dG w a ep es)) (k : DGOk a es) (hk : KReps T H ks (es.map (·.1))) (hv : ∀ e ∈ es, e.1.isT = true) : ∃ xs ys, es = ofX xs ∧ XV xs ys ∧ h.DictOfH (nestedKind P w) a ys := by
  obtain ⟨en, ⟨o, h1, h2, h3⟩, h4⟩ := dg_raw ok e
  obtain ⟨xs, rfl⟩ := ofX_all hv
  have go : ∀ {xs : List (NestedKey × Addr × V)} {l : List DictEntry}, Paired (entOk w) (ofX xs) l → ∃ ys, XV xs ys ∧ l = ys.map (entryOfKey (nestedKind P w)) := fun {xs} => by
    induction xs with
    | nil => intro l p; cases p; exact ⟨[], .nil, rfl⟩
    | cons x xs ih =>
      intro l p
      cases p with
      | @cons _ en _ l q r =>
        obtain ⟨ys, z1, z2⟩ := ih r
        obtain ⟨q1, q2, q3⟩ := q
        refine ⟨(x.1, x.2.1, en.val) :: ys, .cons ⟨rfl, rfl, q3⟩ z1, ?_⟩
        rw [List.map_cons, ← z2]
        refine congrArg (· :: l) ?_
        obtain ⟨eh, ek, ev⟩ := en
        have q1 : eh = x.1.hash w := q1
        have q2 : ek = .ref x.2.1 := q2
        subst q1 q2
        rfl
  obtain ⟨ys, z1, z2⟩ := go h4
  have keys := XV.keys z1
  refine ⟨xs, ys, rfl, z1, o, en, ep, h1, h2, h3, z2, fun y hy => ?_, ?_⟩
  · obtain ⟨i, hi⟩ := List.mem_iff_getElem?.mp hy
    obtain ⟨x, hx, e1, e2, _⟩ := XV.get z1 hi
    obtain ⟨d, g1, g2, g3⟩ := hk.get (i := i) (x := .t x.1 x.2.1) (by rw [List.getElem?_map]; show Option.map _ ((ofX xs)[i]?) = _; unfold ofX; rw [List.getElem?_map, hx]; rfl)
    have tp := hv (.t x.1 x.2.1, x.2.2) (List.mem_of_getElem? (i := i) (by unfold ofX; rw [List.getElem?_map, hx]; rfl))
    refine ⟨?_, ?_⟩
    · rw [← e1, ← e2]; exact nested_of ok kx d g3.2 rfl g3.1
    · rw [← e1]
      have tp : KX.isT (.t x.1 x.2.1) = true := tp
      cases hx1 : x.1 <;> rw [hx1] at tp <;> first | exact of_decide_eq_true tp | cases tp
  · rw [keys]
    have := k.nd
    unfold ofX at this
    rw [List.map_map] at this
    exact this
end
end Fz
set_option Elab.async false
set_option linter.all false
set_option maxRecDepth 100000
set_option maxHeartbeats 2000000
namespace Fz
open PySem L2 PySem.Spec PyProof.Rows
def tupK (d : D) : Bool := match nk d with
  | some (.tup ks) => decide (NestedKey.depth (.tup ks) ≤ 8)
  | _ => false
def dkOk (ks : List D) (d : D) : Bool := (keyK d && ks.all keyK) || (tupK d && ks.all tupK)
def kpos (ks : List D) (d : D) : Option Nat := ks.findIdx? fun x => decide (nk x = nk d)
theorem find_map {α β : Type} (p : α → Bool) (f : α → β) : ∀ l : List α, (l.find? p).map f = (l.findIdx? p).bind fun j => (l.map f)[j]?
  | [] => rfl
  | x :: l => by
    rw [List.find?_cons, List.findIdx?_cons]
    cases h : p x with
    | true => simp
    | false =>
      simp only [Bool.false_eq_true, if_false]
      rw [find_map p f l]
      cases List.findIdx? p l <;> simp
section
variable {P : Program} {w : World} {T : Tab} {H : Hp} {h : Heap} {a : Addr} {ep : Nat} {es : List (KX × V)} {ks : List D}
theorem kpos_eq {d : D} {k : NestedKey} (hd : nk d = some k) : ∀ {ks : List D} {xs : List KX}, KReps T H ks xs → kpos ks d = (xs.map KX.nk).findIdx? fun x => decide (x = k)
  | [], xs, h => by unfold KReps at h; subst h; rfl
  | x :: ks, xs, h => by
    have g : ∀ y, xs[0]? = some y → _ := fun y e => KReps.get h e
    unfold KReps at h
    obtain ⟨y, r, rfl, _, h2⟩ := h
    obtain ⟨x', e, e1, _⟩ := g y rfl
    cases e
    unfold kpos
    rw [List.findIdx?_cons, List.map_cons, List.findIdx?_cons, e1, hd]
    have ih := kpos_eq hd h2
    unfold kpos at ih
    rw [hd] at ih
    rw [ih]
    simp
theorem keyK_of {d : D} {k : Key} (h : DKey d k) : nk d = some (KX.v k).nk := by
  cases d <;> first | exact h.elim | (cases (show k = _ from h); rfl)
theorem key_of_rep {d : D} {y : V} (hk : keyK d = true) (r : Rep T H d y) : ∃ k, DKey d k ∧ y = kV k := by
  cases d with
  | int i => unfold Rep at r; exact ⟨.inl i, rfl, r⟩
  | str s => unfold Rep at r; exact ⟨.inr s, rfl, r.1⟩
  | _ => cases hk
theorem tup_of_rep {d : D} {y : V} (hk : tupK d = true) (r : Rep T H d y) : ∃ k b, nk d = some k ∧ y = .ref b ∧ KX.isT (.t k b) = true := by
  cases d with
  | tup ds =>
    unfold Rep at r
    obtain ⟨b, xs, rfl, _⟩ := r
    unfold tupK at hk
    split at hk
    · rename_i ks e; exact ⟨_, b, e, rfl, hk⟩
    · cases hk
  | non => cases hk
  | bl _ => cases hk
  | int _ => cases hk
  | str _ => cases hk
  | lst _ => simp [tupK, nk] at hk
  | obj _ _ => simp [tupK, nk] at hk
  | dct _ _ => simp [tupK, nk] at hk
  | ext _ _ => simp [tupK, nk] at hk
theorem allV : ∀ {ks : List D} {es : List (KX × V)}, KReps T H ks (es.map (·.1)) → ks.all keyK = true → ∀ e ∈ es, e.1.isV = true := fun {ks es} h k e he => by
  obtain ⟨i, hi⟩ := List.mem_iff_getElem?.mp he
  obtain ⟨d, g1, g2, g3⟩ := h.get (i := i) (x := e.1) (by rw [List.getElem?_map, hi]; rfl)
  have kd := List.all_eq_true.mp k d (List.mem_of_getElem? g1)
  cases hx : e.1 with
  | v k => rfl
  | t k b =>
    rw [hx] at g3
    have g3 := g3.2
    cases d with
    | int i => unfold Rep at g3; cases g3
    | str i => unfold Rep at g3; cases g3.1
    | _ => cases kd
theorem allT : ∀ {ks : List D} {es : List (KX × V)}, KReps T H ks (es.map (·.1)) → ks.all tupK = true → ∀ e ∈ es, e.1.isT = true := fun {ks es} h k e he => by
  obtain ⟨i, hi⟩ := List.mem_iff_getElem?.mp he
  obtain ⟨d, g1, g2, g3⟩ := h.get (i := i) (x := e.1) (by rw [List.getElem?_map, hi]; rfl)
  have kd := List.all_eq_true.mp k d (List.mem_of_getElem? g1)
  cases hx : e.1 with
  | v q =>
    rw [hx] at g3
    have g3 : DKey d q := g3
    cases d <;> first | exact g3.elim | cases kd
  | t q b =>
    rw [hx] at g3
    unfold tupK at kd
    rw [g3.1] at kd
    split at kd
    · rename_i e; cases e; exact kd
    · cases kd
theorem valV_kpos {kvs : List (Key × V)} {d : D} {k : Key} (h : KReps T H ks ((ofK kvs).map (·.1))) (hd : DKey d k) : valV kvs k = (kpos ks d).bind fun j => (kvs.map (·.2))[j]? := by
  unfold valV
  rw [find_map, kpos_eq (keyK_of hd) h]
  congr 1
  unfold ofK
  rw [List.map_map, List.map_map, List.findIdx?_map]
  congr 1
  funext kv
  show decide (kv.1 = k) = decide ((KX.v kv.1).nk = (KX.v k).nk)
  by_cases e : kv.1 = k
  · rw [e, decide_eq_true rfl, decide_eq_true rfl]
  · rw [decide_eq_false e, decide_eq_false fun z => e (nkK_inj z)]
theorem atKey_kpos {xs : List (NestedKey × Addr × V)} {ys : List (NestedKey × Addr × Value)} {d : D} {k : NestedKey} (h : KReps T H ks ((ofX xs).map (·.1))) (r : XV xs ys) (hd : nk d = some k) : atKey ys k = (kpos ks d).bind fun j => (ys.map (·.2))[j]? := by
  unfold atKey
  rw [find_map, kpos_eq hd h]
  congr 1
  rw [show ((ofX xs).map (·.1)).map KX.nk = ys.map (·.1) by rw [XV.keys r]; unfold ofX; rw [List.map_map, List.map_map]; rfl, List.findIdx?_map]
  rfl
theorem XV.at {xs : List (NestedKey × Addr × V)} {ys : List (NestedKey × Addr × Value)} (r : XV xs ys) : ∀ {j : Nat} {v : V}, (xs.map (·.2.2))[j]? = some v → ∃ p, (ys.map (·.2))[j]? = some p ∧ RelV v p.2 := by
  induction r with
  | nil => intro j v hi; simp at hi
  | @cons p q xs ys r _ ih =>
    intro j v hi
    cases j with
    | zero => simp at hi; subst hi; exact ⟨q.2, rfl, r.2.2⟩
    | succ j => simpa using ih (j := j) (by simpa using hi)
theorem XV.length {xs : List (NestedKey × Addr × V)} {ys : List (NestedKey × Addr × Value)} (r : XV xs ys) : xs.length = ys.length := Paired.length r
theorem kpos_lt {d : D} {j : Nat} (h : kpos ks d = some j) : j < ks.length := by
  unfold kpos at h
  exact (List.findIdx?_eq_some_iff_getElem.mp h).1
end
section
variable {X : Cx} {T : Tab} {pins : List (Addr × Obj)} {σ : L2.St} {H : Hp} {s : Shared} {a : Addr} {ks : List D} {xs : List V} {d : D} {y v : V} {u : Value} {A : Around} {E : Value → Shared → Prop}
theorem g_kind (I : Inv X pins σ H s) (hK : X.K = T.K) (hw : X.w = T.w) (c : DctAt T H H a ks xs) (hd : dkOk ks d = true) (ry : Rep T H d y) (ru : RelV y u) :
    (∃ kvs vs k, xs = kvs.map (·.2) ∧ KReps T H ks ((ofK kvs).map (·.1)) ∧ KV kvs vs ∧ s.heap.DictOf (mixKind X.prog X.w) a vs ∧ DKey d k ∧ y = kV k) ∨
    ∃ es ys k b, xs = es.map (·.2.2) ∧ KReps T H ks ((ofX es).map (·.1)) ∧ XV es ys ∧ s.heap.DictOfH (nestedKind X.prog X.w) a ys ∧ nk d = some k ∧ y = .ref b ∧ u = .ref b ∧ (nestedKind X.prog X.w).is s.heap k b := by
  obtain ⟨ep, es, h1, h2, h3, rfl⟩ := c
  rw [← hw] at h1
  unfold dkOk at hd
  rcases (Bool.or_eq_true _ _).mp hd with hd | hd
  · have hd := (Bool.and_eq_true _ _).mp hd
    obtain ⟨kvs, vs, rfl, r, dd⟩ := dgV I.hok h1 h2 (allV h3 hd.2)
    obtain ⟨k, k1, k2⟩ := key_of_rep hd.1 ry
    exact .inl ⟨kvs, vs, k, by unfold ofK; rw [List.map_map]; rfl, h3, r, dd, k1, k2⟩
  · have hd := (Bool.and_eq_true _ _).mp hd
    obtain ⟨xs, ys, rfl, r, dd⟩ := dgT I.hok (by rw [← hK]; exact I.kIn) h1 h2 h3 (allT h3 hd.2)
    obtain ⟨k, b, k1, rfl, k3⟩ := tup_of_rep hd.1 ry
    cases (show u = Value.ref b from ru)
    refine .inr ⟨xs, ys, k, b, by unfold ofX; rw [List.map_map]; rfl, h3, r, dd, k1, rfl, rfl, nested_of I.hok (by rw [← hK]; exact I.kIn) d ry rfl k1, ?_⟩
    cases k <;> first | exact of_decide_eq_true k3 | cases k3
theorem g_get {j : Nat} {Q : Value → Shared → Prop} (hu : A.units + 9 < cLine) (I : Inv X pins σ H s) (hK : X.K = T.K) (hw : X.w = T.w) (c : DctAt T H H a ks xs) (hd : dkOk ks d = true) (ry : Rep T H d y) (ru : RelV y u)
    (hp : kpos ks d = some j) (hv : xs[j]? = some v) (h : ∀ w' s', Inv X pins σ H s' → RelV v w' → Q w' s') : wpAny (model X.prog X.w) A (getItem (.ref a) u) Q E s := by
  rcases g_kind I hK hw c hd ry ru with ⟨kvs, vs, k, rfl, kr, r, dd, dk, rfl⟩ | ⟨es, ys, k, b, rfl, kr, r, dd, dk, rfl, rfl, hi⟩
  · have l := valV_kpos kr dk
    rw [hp, Option.bind_some, hv] at l
    obtain ⟨w', hw', rw'⟩ := RelO.some_of (v := v) (o := valueAt vs k) (by rw [← l]; exact r.val k)
    exact wpAny_getItem_of (kV_is ru) dd.mapOf hw' (h w' _ (I.tok _) rw')
  · have l := atKey_kpos kr r dk
    obtain ⟨p, hp1, hp2⟩ := XV.at r hv
    rw [hp, Option.bind_some, hp1] at l
    exact wpAny_getItem_heap (show A.units + 1 + 8 < cLine by omega) hi dd l (h _ _ (I.tok _) hp2)
end
end Fz
set_option Elab.async false
set_option linter.all false
set_option maxRecDepth 100000
set_option maxHeartbeats 2000000
namespace Fz
open PySem L2 PySem.Spec PyProof.Rows
def dputK (ks : List D) (d : D) : List D := match kpos ks d with
  | some _ => ks
  | none => ks ++ [d]
def dputV {α : Type} (ks : List D) (xs : List α) (d : D) (v : α) : List α := match kpos ks d with
  | some j => xs.set j v
  | none => xs ++ [v]
def dputE (es : List (KX × V)) (x : KX) (v : V) : List (KX × V) := match es.findIdx? (fun e => decide (e.1.nk = x.nk)) with
  | some j => es.modify j fun e => (e.1, v)
  | none => es ++ [(x, v)]
theorem mapIf {α β : Type} [DecidableEq β] (key : α → β) (k : β) (f : α → α) : ∀ l : List α, (l.map key).Nodup → l.map (fun x => if key x = k then f x else x) = ((l.findIdx? (fun x => decide (key x = k))).elim l fun j => l.modify j f)
  | [], _ => rfl
  | x :: l, n => by
    rw [List.map_cons, List.nodup_cons] at n
    rw [List.map_cons, List.findIdx?_cons]
    by_cases e : key x = k
    · rw [if_pos e, decide_eq_true e, if_pos rfl]
      show f x :: _ = f x :: l
      refine congrArg (f x :: ·) ?_
      have : ∀ l : List α, k ∉ l.map key → l.map (fun x => if key x = k then f x else x) = l := fun l => by
        induction l with
        | nil => intro _; rfl
        | cons y l ih =>
          intro h
          simp only [List.map_cons, List.mem_cons, not_or] at h
          rw [List.map_cons, if_neg (fun z => h.1 z.symm), ih h.2]
      exact this l (e ▸ n.1)
    · rw [if_neg e, decide_eq_false e]
      simp only [Bool.false_eq_true, if_false]
      rw [mapIf key k f l n.2]
      cases l.findIdx? (fun x => decide (key x = k)) <;> rfl
theorem any_findIdx {α : Type} (p : α → Bool) : ∀ l : List α, l.any p = (l.findIdx? p).isSome
  | [] => rfl
  | x :: l => by
    rw [List.any_cons, List.findIdx?_cons]
    cases h : p x with
    | true => rfl
    | false => rw [any_findIdx p l]; simp only [Bool.false_or, Bool.false_eq_true, if_false, Option.isSome_map]
theorem ofK_put {kvs : List (Key × V)} {k : Key} {v : V} (n : ((ofK kvs).map fun e => e.1.nk).Nodup) : ofK (putK kvs k v) = dputE (ofK kvs) (.v k) v := by
  have n' : (kvs.map (·.1)).Nodup := by
    unfold ofK at n
    rw [List.map_map] at n
    rw [List.nodup_iff_pairwise_ne, List.pairwise_map] at n ⊢
    exact n.imp fun {a b} h e => h (show (KX.v a.1).nk = (KX.v b.1).nk by rw [e])
  unfold dputE
  have fe : (ofK kvs).findIdx? (fun e => decide (e.1.nk = (KX.v k).nk)) = kvs.findIdx? fun kv => decide (kv.1 = k) := by
    unfold ofK
    rw [List.findIdx?_map]
    congr 1
    funext kv
    show decide ((KX.v kv.1).nk = (KX.v k).nk) = decide (kv.1 = k)
    by_cases e : kv.1 = k
    · rw [e, decide_eq_true rfl, decide_eq_true rfl]
    · rw [decide_eq_false e, decide_eq_false fun z => e (nkK_inj z)]
  rw [fe]
  unfold putK
  rw [any_findIdx]
  have m := mapIf (fun kv : Key × V => kv.1) k (fun kv => (kv.1, v)) kvs n'
  cases q : kvs.findIdx? fun kv => decide (kv.1 = k) with
  | none => rw [if_neg (by simp)]; unfold ofK; rw [List.map_append]; rfl
  | some j =>
    rw [q] at m
    rw [if_pos (by rfl), m]
    show ofK (kvs.modify j fun kv => (kv.1, v)) = (ofK kvs).modify j fun e => (e.1, v)
    clear m q fe n n'
    induction kvs generalizing j with
    | nil => cases j <;> rfl
    | cons x kvs ih =>
      cases j with
      | zero => rfl
      | succ j =>
        show _ :: _ = _ :: _
        exact congrArg _ (ih j)
theorem ofX_put {es : List (NestedKey × Addr × V)} {ys : List (NestedKey × Addr × Value)} {k : NestedKey} {b : Addr} {v : V} {r : Value} (x : XV es ys) (n : ((ofX es).map fun e => e.1.nk).Nodup) (rv : RelV v r) : ∃ es', XV es' (storedH ys k b r) ∧ ofX es' = dputE (ofX es) (.t k b) v := by
  have n' : (ys.map (·.1)).Nodup := by
    rw [XV.keys x]
    unfold ofX at n
    rw [List.map_map] at n
    exact n
  have fe : (ofX es).findIdx? (fun e => decide (e.1.nk = (KX.t k b).nk)) = ys.findIdx? fun y => decide (y.1 = k) := by
    have h1 : (ofX es).findIdx? (fun e => decide (e.1.nk = (KX.t k b).nk)) = (es.map (·.1)).findIdx? fun y => decide (y = k) := by
      unfold ofX; rw [List.findIdx?_map, List.findIdx?_map]; rfl
    have h2 : ys.findIdx? (fun y => decide (y.1 = k)) = (ys.map (·.1)).findIdx? fun y => decide (y = k) := by rw [List.findIdx?_map]; rfl
    rw [h1, h2, XV.keys x]
  have at_ : (atKey ys k).isSome = (ys.findIdx? fun y => decide (y.1 = k)).isSome := by
    unfold atKey
    rw [Option.isSome_map, ← any_findIdx, Bool.eq_iff_iff, List.find?_isSome, List.any_eq_true]
  unfold dputE storedH
  rw [fe]
  cases q : ys.findIdx? fun y => decide (y.1 = k) with
  | none =>
    rw [q] at at_
    rw [if_neg (by rw [at_]; simp)]
    have ap : ∀ {es ys}, XV es ys → XV (es ++ [(k, b, v)]) (ys ++ [(k, b, r)]) := fun {es ys} x => Paired.snoc x ⟨rfl, rfl, rv⟩
    exact ⟨es ++ [(k, b, v)], ap x, by unfold ofX; rw [List.map_append]; rfl⟩
  | some j =>
    rw [q] at at_
    rw [if_pos (by rw [at_]; rfl)]
    have m := mapIf (fun y : NestedKey × Addr × Value => y.1) k (fun y => (y.1, y.2.1, r)) ys n'
    rw [q] at m
    have e : ys.map (putAt k r) = ys.modify j fun y => (y.1, y.2.1, r) := m
    rw [e]
    refine ⟨es.modify j fun y => (y.1, y.2.1, v), ?_, ?_⟩
    · clear m e q at_ fe n' n
      induction x generalizing j with
      | nil => cases j <;> exact .nil
      | cons h t ih =>
        cases j with
        | zero => exact .cons ⟨h.1, h.2.1, rv⟩ t
        | succ j => exact .cons h (ih j)
    · clear m e q at_ fe n' n x
      induction es generalizing j with
      | nil => cases j <;> rfl
      | cons z es ih =>
        cases j with
        | zero => rfl
        | succ j => exact congrArg (_ :: ·) (ih j)
section
variable {T : Tab} {B H : Hp} {a : Addr} {ks : List D} {es : List (KX × V)} {d : D} {x : KX} {v : V}
theorem modify_fst {j : Nat} {β : Type} (f : KX → β) : ∀ (es : List (KX × V)) (j : Nat), (es.modify j fun e => (e.1, v)).map (fun e => f e.1) = es.map fun e => f e.1
  | [], j => by cases j <;> rfl
  | e :: es, 0 => rfl
  | e :: es, j + 1 => congrArg (_ :: ·) (modify_fst (j := j) f es j)
theorem modify_snd : ∀ (es : List (KX × V)) (j : Nat), (es.modify j fun e => (e.1, v)).map (·.2) = (es.map (·.2)).set j v
  | [], j => by cases j <;> rfl
  | e :: es, 0 => rfl
  | e :: es, j + 1 => congrArg (_ :: ·) (modify_snd es j)
def KeyAt (T : Tab) (B : Hp) (d : D) : KX → Prop
  | .v k => DKey d k
  | .t k a => nk d = some k ∧ Rep T B d (.ref a)
theorem KReps.snoc (r : KeyAt T B d x) : ∀ {ks : List D} {xs : List KX}, KReps T B ks xs → KReps T B (ks ++ [d]) (xs ++ [x])
  | [], xs, h => by unfold KReps at h; subst h; show KReps T B [d] [x]; unfold KReps; exact ⟨x, [], rfl, (by cases x <;> exact r), by unfold KReps; rfl⟩
  | k :: ks, xs, h => by
    unfold KReps at h
    obtain ⟨y, q, rfl, h1, h2⟩ := h
    show KReps T B (k :: (ks ++ [d])) (y :: (q ++ [x]))
    unfold KReps
    exact ⟨y, _, rfl, h1, KReps.snoc r h2⟩
theorem kpos_es (h : KReps T B ks (es.map (·.1))) (hd : nk d = some x.nk) : kpos ks d = es.findIdx? fun e => decide (e.1.nk = x.nk) := by
  rw [kpos_eq hd h, List.map_map, List.findIdx?_map]; rfl
theorem dput_at (ok : DGOk a es) (h : KReps T B ks (es.map (·.1))) (r : KeyAt T B d x) (hk : (x.isV = true ∧ ∀ e ∈ es, e.1.isV = true) ∨ (x.isT = true ∧ ∀ e ∈ es, e.1.isT = true)) (hl : es.length < sizeLine) :
    DGOk a (dputE es x v) ∧ KReps T B (dputK ks d) ((dputE es x v).map (·.1)) ∧ dputV ks (es.map (·.2)) d v = (dputE es x v).map (·.2) := by
  have hd : nk d = some x.nk := by cases x with
    | v k => exact keyK_of r
    | t k a => exact r.1
  unfold dputK dputV dputE
  rw [kpos_es h hd]
  cases q : es.findIdx? fun e => decide (e.1.nk = x.nk) with
  | some j =>
    refine ⟨⟨by rw [List.length_modify]; exact ok.len, ok.sm, ?_, ?_⟩, ?_, (modify_snd es j).symm⟩
    · rw [modify_fst (j := j) (fun e => e.nk)]; exact ok.nd
    · have mem : ∀ {p : KX → Bool}, (∀ e ∈ es, p e.1 = true) → ∀ e ∈ es.modify j (fun e => (e.1, v)), p e.1 = true := fun {p} g e he => by
        have : (es.modify j fun e => (e.1, v)).all (fun e => p e.1) = true := by
          have m := modify_fst (v := v) (j := j) p es j
          have := congrArg (List.all · id) m
          rw [List.all_map, List.all_map] at this
          rw [show (fun e : KX × V => p e.1) = (id ∘ fun e => p e.1) from rfl, this]
          exact List.all_eq_true.mpr g
        exact List.all_eq_true.mp this e he
      exact ok.kd.imp (fun g => mem g) fun g => mem g
    · rw [modify_fst (j := j) (fun e => e)]; exact h
  | none =>
    refine ⟨⟨by simp; omega, ok.sm, ?_, ?_⟩, ?_, by rw [List.map_append]; rfl⟩
    · rw [List.map_append, List.nodup_append]
      refine ⟨ok.nd, by simp, fun y hy z hz => ?_⟩
      obtain ⟨e, he, rfl⟩ := List.mem_map.mp hy
      have hz : z = x.nk := by simpa using hz
      subst hz
      have := List.findIdx?_eq_none_iff.mp q e he
      exact of_decide_eq_false this
    · rcases hk with ⟨h1, h2⟩ | ⟨h1, h2⟩
      · exact .inl fun e he => (List.mem_append.mp he).elim (h2 e) (fun z => by rw [List.mem_singleton.mp z]; exact h1)
      · exact .inr fun e he => (List.mem_append.mp he).elim (h2 e) (fun z => by rw [List.mem_singleton.mp z]; exact h1)
    · rw [List.map_append]; exact KReps.snoc (x := x) r h
end
section
variable {X : Cx} {T : Tab} {pins : List (Addr × Obj)} {σ : L2.St} {B H : Hp} {s : Shared} {a : Addr} {ks : List D} {xs : List V} {d : D} {y v : V} {u r : Value} {A : Around} {E : Value → Shared → Prop}
theorem mut_dg {w : World} {a : Addr} {ep : Nat} {es : List (KX × V)} : Mut (some (dG w a ep es)) := True.intro
theorem dg_notTup {w : World} {a : Addr} {ep : Nat} {es : List (KX × V)} : ∀ zs, dG w a ep es ≠ .tup zs := fun zs z => by unfold dG at z; cases z
theorem kreps_key {es : List (KX × V)} (hd : dkOk ks d = true) (h : KReps T H ks (es.map (·.1))) (ry : Rep T H d y) :
    (∃ k, DKey d k ∧ y = kV k ∧ ∀ e ∈ es, e.1.isV = true) ∨ ∃ k b, nk d = some k ∧ y = .ref b ∧ KX.isT (.t k b) = true ∧ ∀ e ∈ es, e.1.isT = true := by
  unfold dkOk at hd
  rcases (Bool.or_eq_true _ _).mp hd with hd | hd
  · have hd := (Bool.and_eq_true _ _).mp hd
    obtain ⟨k, k1, k2⟩ := key_of_rep hd.1 ry
    exact .inl ⟨k, k1, k2, allV h hd.2⟩
  · have hd := (Bool.and_eq_true _ _).mp hd
    obtain ⟨k, b, k1, k2, k3⟩ := tup_of_rep hd.1 ry
    exact .inr ⟨k, b, k1, k2, k3, allT h hd.2⟩
theorem g_set {Q : Unit → Shared → Prop} (hu : A.units + 9 < cLine) (I : Inv X pins σ H s) (hK : X.K = T.K) (hw : X.w = T.w) (e : Ex B H) (c : DctAt T B H a ks xs) (hd : dkOk ks d = true) (ry : Rep T B d y) (ru : RelV y u) (rv : RelV v r) (hl : xs.length < sizeLine)
    (h : ∀ o s', (∀ zs, o ≠ .tup zs) → DctAt T B (upd H a o) a (dputK ks d) (dputV ks xs d v) → Inv X pins σ (upd H a o) s' → Q () s') : wpAny (model X.prog X.w) A (setItem (.ref a) u r) Q E s := by
  obtain ⟨ep, es, h1, h2, h3, rfl⟩ := c
  have hl' : es.length < sizeLine := by simpa using hl
  have h1' := h1
  rw [← hw] at h1'
  rcases kreps_key hd h3 ry with ⟨k, k1, rfl, k3⟩ | ⟨k, b, k1, rfl, k2, k3⟩
  · obtain ⟨kvs, vs, rfl, rr, dd⟩ := dgV I.hok h1' h2 k3
    have hz : vs.length ≤ sizeLine := by rw [← rr.length]; exact Nat.le_of_lt (by simpa [ofK] using hl')
    refine wpAny_setItem_pairs (hsz := hz) (kV_is ru) dd fun h' dd' hs => ?_
    obtain ⟨ep', ob⟩ := dgK_obj (H' := upd H a (dG X.w a ep (ofK kvs))) (rr.put k rv) dd'
    obtain ⟨z1, z2, z3⟩ := dput_at (v := v) h2 h3 (x := .v k) k1 (.inl ⟨rfl, k3⟩) hl'
    rw [← ofK_put h2.nd] at z1 z2 z3
    have he : ∃ q, h'.get? a = some q := let ⟨q, _, _, hq, _⟩ := dd'; ⟨q, hq⟩
    refine h (dG X.w a ep' (ofK (putK kvs k v))) _ dg_notTup ⟨ep', _, by rw [upd_same, hw], z1, z2, z3⟩ (d_write I (by rw [h1]; exact mut_dg) hs he ?_)
    obtain ⟨ob1, ob2⟩ := ob
    exact ⟨ob1, ob2⟩
  · obtain ⟨es, ys, rfl, rr, dd⟩ := dgT I.hok (by rw [← hK]; exact I.kIn) h1' h2 (KReps.mono e _ h3) k3
    cases (show u = Value.ref b from ru)
    have hz : ys.length ≤ sizeLine := by rw [← XV.length rr]; exact Nat.le_of_lt (by simpa [ofX] using hl')
    have hi : (nestedKind X.prog X.w).is s.heap k b := by
      refine ⟨nested_of I.hok (by rw [← hK]; exact I.kIn) d (Rep.mono e d ry) rfl k1, ?_⟩
      cases k <;> first | exact of_decide_eq_true k2 | cases k2
    refine wpAny_setItem_heap (hsz := hz) (show A.units + 1 + 8 < cLine by omega) hi dd fun h' dd' hs => ?_
    obtain ⟨es', x1, x2⟩ := ofX_put (k := k) (b := b) rr h2.nd rv
    obtain ⟨ep', ob⟩ := dgX_obj (H' := upd H a (dG X.w a ep (ofX es))) x1 dd'
    obtain ⟨z1, z2, z3⟩ := dput_at (v := v) h2 h3 (x := .t k b) ⟨k1, ry⟩ (.inr ⟨k2, k3⟩) hl'
    rw [← x2] at z1 z2 z3
    have he : ∃ q, h'.get? a = some q := let ⟨q, _, _, hq, _⟩ := dd'; ⟨q, hq⟩
    refine h (dG X.w a ep' (ofX es')) _ dg_notTup ⟨ep', _, by rw [upd_same, hw], z1, z2, z3⟩ (d_write I (by rw [h1]; exact mut_dg) hs he ?_)
    obtain ⟨ob1, ob2⟩ := ob
    exact ⟨ob1, ob2⟩
theorem g_setd {Q : Value → Shared → Prop} (hu : A.units + 9 < cLine) (I : Inv X pins σ H s) (hK : X.K = T.K) (hw : X.w = T.w) (e : Ex B H) (c : DctAt T B H a ks xs) (hd : dkOk ks d = true) (ry : Rep T B d y) (ru : RelV y u) (rv : RelV v r) (hl : xs.length < sizeLine)
    (h1 : ∀ j w w' s', kpos ks d = some j → xs[j]? = some w → RelV w w' → Inv X pins σ H s' → Q w' s')
    (h2 : kpos ks d = none → ∀ o s', (∀ zs, o ≠ .tup zs) → DctAt T B (upd H a o) a (dputK ks d) (dputV ks xs d v) → Inv X pins σ (upd H a o) s' → Q r s') : wpAny (model X.prog X.w) A (call (.builtin "dict.setdefault") [.ref a, u, r]) Q E s := by
  have hlen : ks.length = xs.length := by obtain ⟨_, es, _, _, h3, rfl⟩ := c; rw [h3.length]; simp
  obtain ⟨ep, es, g1, g2, h3, rfl⟩ := c
  have hl' : es.length < sizeLine := by simpa using hl
  have h1' := g1
  rw [← hw] at h1'
  rcases kreps_key hd h3 ry with ⟨k, k1, rfl, k3⟩ | ⟨k, b, k1, rfl, k2, k3⟩
  · obtain ⟨kvs, vs, rfl, rr, dd⟩ := dgV I.hok h1' g2 k3
    have hz : vs.length ≤ sizeLine := by rw [← rr.length]; exact Nat.le_of_lt (by simpa [ofK] using hl')
    have sn : (ofK kvs).map (·.2) = kvs.map (·.2) := by unfold ofK; rw [List.map_map]; rfl
    have l := valV_kpos h3 k1
    have rl := rr.val k
    have hk : kvs.length = ((ofK kvs).map (·.2)).length := by simp [ofK]
    refine call_meetsIn F.slot_dict_setdefault dd.typeIs F.entry_dict_setdefault (F.args_dict_setdefault_3 _ _ _) (kt_meets_setdefault (mixKind X.prog X.w) a (kV_is ru) g2.sm r) ⟨vs, dd, hz, fun w hw' => ?_, fun hn h' dd' hs => ?_⟩
    · rw [hw'] at rl
      cases q : kpos ks d with
      | none => rw [l, q] at rl; exact (show False from rl).elim
      | some j =>
        rw [l, q, Option.bind_some] at rl
        cases q1 : (kvs.map (·.2))[j]? with
        | none => rw [q1] at rl; exact (show False from rl).elim
        | some v0 => rw [q1] at rl; exact h1 j v0 w _ q (by rw [sn]; exact q1) rl (I.tok _)
    · rw [hn] at rl
      cases q : kpos ks d with
      | some j =>
        have := kpos_lt q
        rw [l, q, Option.bind_some, List.getElem?_eq_getElem (by simp; omega)] at rl
        exact (show False from rl).elim
      | none =>
        obtain ⟨ep', ob⟩ := dgK_obj (H' := upd H a (dG X.w a ep (ofK kvs))) (rr.put k rv) dd'
        obtain ⟨z1, z2, z3⟩ := dput_at (v := v) g2 h3 (x := .v k) k1 (.inl ⟨rfl, k3⟩) hl'
        rw [← ofK_put g2.nd] at z1 z2 z3
        have he : ∃ q, h'.get? a = some q := let ⟨q, _, _, hq, _⟩ := dd'; ⟨q, hq⟩
        refine h2 q (dG X.w a ep' (ofK (putK kvs k v))) _ dg_notTup ⟨ep', _, by rw [upd_same, hw], z1, z2, z3⟩ (d_write I (by rw [g1]; exact mut_dg) hs he ?_)
        obtain ⟨ob1, ob2⟩ := ob
        exact ⟨ob1, ob2⟩
  · obtain ⟨es, ys, rfl, rr, dd⟩ := dgT I.hok (by rw [← hK]; exact I.kIn) h1' g2 (KReps.mono e _ h3) k3
    cases (show u = Value.ref b from ru)
    have hz : ys.length ≤ sizeLine := by rw [← XV.length rr]; exact Nat.le_of_lt (by simpa [ofX] using hl')
    have sn : (ofX es).map (·.2) = es.map (·.2.2) := by unfold ofX; rw [List.map_map]; rfl
    have hk : ys.length = ((ofX es).map (·.2)).length := by simp [ofX, XV.length rr]
    have hi : (nestedKind X.prog X.w).is s.heap k b := by
      refine ⟨nested_of I.hok (by rw [← hK]; exact I.kIn) d (Rep.mono e d ry) rfl k1, ?_⟩
      cases k <;> first | exact of_decide_eq_true k2 | cases k2
    have l := atKey_kpos h3 rr k1
    refine call_setdefault_heap (hsz := hz) (show A.units + 1 + 8 < cLine by omega) hi g2.sm dd (fun p hp => ?_) fun hn h' dd' hs => ?_
    · cases q : kpos ks d with
      | none => rw [l, q] at hp; cases hp
      | some j =>
        have hj := kpos_lt q
        rw [l, q, Option.bind_some] at hp
        have hj' : j < (es.map (·.2.2)).length := by rw [← sn]; omega
        obtain ⟨p', e1, e2⟩ := XV.at rr (List.getElem?_eq_getElem hj')
        rw [hp] at e1; cases e1
        exact h1 j _ _ _ q (by rw [sn]; exact List.getElem?_eq_getElem hj') e2 (I.tok _)
    · cases q : kpos ks d with
      | some j =>
        have := kpos_lt q
        rw [l, q, Option.bind_some, List.getElem?_eq_getElem (by simp; omega)] at hn
        cases hn
      | none =>
        obtain ⟨es', x1, x2⟩ := ofX_put (k := k) (b := b) rr g2.nd rv
        obtain ⟨ep', ob⟩ := dgX_obj (H' := upd H a (dG X.w a ep (ofX es))) x1 dd'
        obtain ⟨z1, z2, z3⟩ := dput_at (v := v) g2 h3 (x := .t k b) ⟨k1, ry⟩ (.inr ⟨k2, k3⟩) hl'
        rw [← x2] at z1 z2 z3
        have he : ∃ q, h'.get? a = some q := let ⟨q, _, _, hq, _⟩ := dd'; ⟨q, hq⟩
        refine h2 q (dG X.w a ep' (ofX es')) _ dg_notTup ⟨ep', _, by rw [upd_same, hw], z1, z2, z3⟩ (d_write I (by rw [g1]; exact mut_dg) hs he ?_)
        obtain ⟨ob1, ob2⟩ := ob
        exact ⟨ob1, ob2⟩
end
end Fz
set_option Elab.async false
set_option linter.all false
set_option maxRecDepth 100000
set_option maxHeartbeats 2000000
namespace Fz
open PySem L2 PySem.Spec PyProof.Rows
def KX.vv : KX → V
  | .v k => kV k
  | .t _ a => .ref a
theorem KX.rel : ∀ {k : KX} {u : Value}, k.is u → RelV k.vv u
  | .v k, u, h => relV_key h
  | .t _ a, u, h => h
section
variable {P : Program} {w : World} {K : PySem.W.Frag} {tg : Expr} {d : Addr} {ep : Nat} {es : List (KX × V)}
theorem ent_len {en : Array DictEntry} (h : Paired (entOk w) es en.toList) : es.length = en.size := by rw [Paired.length h]; simp
end
section
variable {X : Cx} {tg e : Expr} {td : TE} {apos cpos : Pos}
theorem Inv.toG {pins : List (Addr × Obj)} {σ : L2.St} {H : Hp} {s : Shared} {a : Addr} {kvs : List (Key × V)} (I : Inv X pins σ H s) (h : H a = some (.dK kvs)) : ∃ ep, DGOk a (ofK kvs) ∧ Inv X pins σ (upd H a (dG X.w a ep (ofK kvs))) s := by
  obtain ⟨z, hs, vs, r, dd⟩ := dk_of I.hok h
  obtain ⟨ep, ob⟩ := dgK_obj (H' := upd H a (.dK kvs)) r dd
  have he : ∃ q, s.heap.get? a = some q := let ⟨q, _, _, hq, _⟩ := dd; ⟨q, hq⟩
  have nd : (kvs.map (·.1)).Nodup := by obtain ⟨_, _, _, _, _, _, _, _, n⟩ := dd; rw [r.keys]; exact n
  refine ⟨ep, ⟨by simpa [ofK] using z, hs, ?_, .inl fun e he => ?_⟩, I.write (x := a) (e := a) (t' := s.toks) (h' := s.heap) (by rw [h]; exact True.intro) (.inl rfl) (fun b v _ q => q) he ?_⟩
  · unfold ofK
    rw [List.map_map]
    rw [List.nodup_iff_pairwise_ne, List.pairwise_map] at nd ⊢
    exact nd.imp fun {a b} n e => n (nkK_inj e)
  · unfold ofK at he
    obtain ⟨kv, _, rfl⟩ := List.mem_map.mp he
    rfl
  · obtain ⟨ob1, ob2⟩ := ob
    exact ⟨ob1, ob2⟩
def tToG (w : World) (t : TE) : TE := fun σ H Q => t σ H fun v H' => ∃ a kvs, v = .ref a ∧ H' a = some (.dK kvs) ∧ ∀ ep, DGOk a (ofK kvs) → Q v (upd H' a (dG w a ep (ofK kvs)))
theorem pe_toG (he : PE X e td) : PE X e (tToG X.w td) := by
  refine ⟨fun pins s σ H Q I h => ?_⟩
  refine thn (he.run pins s σ H _ I h) fun u s1 ⟨x, H1, I1, rx, a, kvs, ex, hd, q⟩ => ?_
  obtain ⟨ep, ok, I2⟩ := Inv.toG I1 hd
  exact ⟨x, _, I2, rx, q ep ok⟩
end
end Fz
set_option Elab.async false
set_option linter.all false
set_option maxRecDepth 100000
set_option maxHeartbeats 2000000
namespace Fz
open PySem L2
theorem bnd_some {α β : Type} {m : M α} {k : α → M β} {st : Sl} {o : Oc β} {s : Sl} (h : bnd m k st = some (o, s)) :
    (∃ c, m st = some (.x c, s) ∧ o = .x c) ∨ ∃ a s1, m st = some (.v a, s1) ∧ k a s1 = some (o, s) := by
  unfold bnd at h
  split at h
  · cases h
  · rename_i c s' e; cases h; exact .inl ⟨c, e, rfl⟩
  · rename_i a s' e; exact .inr ⟨a, s', e, h⟩
theorem opt_some {α : Type} {q : Option α} {st : Sl} {o : Oc α} {s : Sl} (h : opt q st = some (o, s)) : ∃ a, q = some a ∧ o = .v a ∧ s = st := by
  unfold opt at h
  split at h
  · cases h
  · cases h; exact ⟨_, rfl, rfl, rfl⟩
section
variable {T : Tab} {E : XK} {st : Sl} {σ : St} {B F H B' H' : Hp}
theorem Okx.weak {α : Type} {o : Oc α} {s : Sl} {Q Q' : α → Hp → Hp → Prop} (h : Okx T E o s σ B F Q) (e : Ex B B') (k : ∀ a B1 H1, Ex B' B1 → Sim T s σ B1 F H1 → Q a B1 H1 → Q' a B1 H1) : Okx T E o s σ B' F Q' := by
  cases o with
  | v a => exact fun B1 H1 e1 S => k a B1 H1 e1 S (h B1 H1 (e.trans e1) S)
  | x c => exact fun d B1 H1 e1 S => h d B1 H1 (e.trans e1) S
theorem okx_bnd {α β : Type} {m : M α} {k : α → M β} {o : Oc β} {s : Sl} (h : bnd m k st = some (o, s)) {Q : β → Hp → Hp → Prop} (hQ : Okx T E o s σ B F Q) {R : α → Hp → Hp → Prop} {P : Prop}
    (run : ∀ o1 s1, m st = some (o1, s1) → Okx T E o1 s1 σ B F R → P)
    (next : ∀ a s1 B1 H1, m st = some (.v a, s1) → k a s1 = some (o, s) → Ex B B1 → Sim T s1 σ B1 F H1 → Okx T E o s σ B1 F Q → R a B1 H1) : P := by
  rcases bnd_some h with ⟨c, e1, rfl⟩ | ⟨a, s1, e1, e2⟩
  · exact run _ _ e1 fun d B1 H1 e S => hQ d B1 H1 e S
  · exact run _ _ e1 fun B1 H1 e S => next a s1 B1 H1 e1 e2 e S (hQ.weak e fun _ _ _ _ _ q => q)
end
def Prim2 (T : Tab) (r : R2) (g : D → D → Option D) : Prop := ∀ x y z vx vy B H (Q : VK), Ex B H → Rep T B x vx → Rep T B y vy → g x y = some z → (∀ v B' H', Ext B H B' H' → Rep T B' z v → Q v H') → r vx vy H Q
def PrimN (T : Tab) (r : List V → Hp → VK → Prop) (g : List D → Option D) : Prop := ∀ xs z vs B H (Q : VK), Ex B H → Reps T B xs vs → g xs = some z → (∀ v B' H', Ext B H B' H' → Rep T B' z v → Q v H') → r vs H Q
def PrimL (T : Tab) (r : List V → Hp → VK → Prop) (g : List D → Option (List D)) : Prop := ∀ xs zs vs B H (Q : VK), Ex B H → Reps T B xs vs → g xs = some zs →
  (∀ p ys B1 H1, Ext B H B1 H1 → H1 p = none → Reps T B1 zs ys → Q (.ref p) (upd H1 p (.lst ys))) → r vs H Q
def eUn (g : D → Option D) (fa : M D) : M D := bnd fa fun x => opt (g x)
def eBin (g : D → D → Option D) (fa fb : M D) : M D := bnd fa fun x => bnd fb fun y => opt (g x y)
def eCons (fa : M D) (fr : M (List D)) : M (List D) := bnd fa fun x => bnd fr fun xs => ret (x :: xs)
def eNil : M (List D) := ret []
def eOp (g : List D → Option D) (fa : M (List D)) : M D := bnd fa fun xs => opt (g xs)
def eTup (fa : M (List D)) : M D := bnd fa fun xs => opt (if xs.length ≤ sizeLine then some (.tup xs) else none)
def rD (fa : M D) : M R := bnd fa fun x => ret (.d x)
def rOp (g : List D → Option (List D)) (fa : M (List D)) : M R := bnd fa fun xs => opt ((g xs).map .ol)
def rLst (fa : M (List D)) : M R := bnd fa fun xs => opt (if xs.length ≤ sizeLine then some (.ol xs) else none)
mutual
def wholeB (n : Nat → Nat) : R → Bool
  | .oi c fs => fs.length == n c
  | .nl cs => wholeBL n cs
  | .nt cs => wholeBL n cs
  | .ni c cs => cs.length == n c && wholeBL n cs
  | .nd _ cs => wholeBL n cs
  | _ => true
def wholeBL (n : Nat → Nat) : List R → Bool
  | [] => true
  | r :: rs => wholeB n r && wholeBL n rs
end
def eFz (n : Nat → Nat) (fr : M R) : M D := bnd fr fun r => opt (if wholeB n r then some (vw r) else none)
section
variable {T : Tab} {E : L2.St → XK} {ta tb te : TE} {fa fb : M D}
theorem semE_op {r : R2} {g : D → D → Option D} (hr : Prim2 T r g) (ha : SemE T E ta fa) (hb : SemE T E tb fb) : SemE T E (tOp r ta tb) (eBin g fa fb) := by
  intro st σ B F H S o s h Q hQ
  refine okx_bnd h hQ (fun o1 s1 e1 q => ha st σ B F H S o1 s1 e1 _ q) fun a s1 B1 H1 _ h2 e1 S1 hQ1 v hv => ?_
  refine okx_bnd h2 hQ1 (fun o1 s2 e2 q => hb s1 σ B1 F H1 S1 o1 s2 e2 _ q) fun b s2 B2 H2 _ h3 e2 S2 hQ2 u hu => ?_
  obtain ⟨z, hz, rfl, rfl⟩ := opt_some h3
  exact hr a b z v u B2 H2 Q S2.exB (Rep.mono e2 a hv) hu hz fun u B3 H3 e3 hu => hQ2 B3 H3 e3.b (S2.ext e3) u hu
theorem semA_nil : SemA T E tNil eNil := by
  intro st σ B F H S o s h Q hQ
  have e : eNil st = some (.v [], st) := rfl
  rw [e] at h; cases h
  exact hQ B H (.refl B) S [] reps_nil
theorem semA_cons {t : TA} {fr : M (List D)} (ha : SemE T E ta fa) (hr : SemA T E t fr) : SemA T E (tCons ta t) (eCons fa fr) := by
  intro st σ B F H S o s h Q hQ
  refine okx_bnd h hQ (fun o1 s1 e1 q => ha st σ B F H S o1 s1 e1 _ q) fun a s1 B1 H1 _ h2 e1 S1 hQ1 v hv => ?_
  refine okx_bnd h2 hQ1 (fun o1 s2 e2 q => hr s1 σ B1 F H1 S1 o1 s2 e2 _ q) fun b s2 B2 H2 _ h3 e2 S2 hQ2 us hus => ?_
  cases h3
  exact hQ2 B2 H2 (.refl _) S2 (v :: us) (reps_cons (Rep.mono e2 a hv) hus)
theorem semE_callN {r : List V → Hp → VK → Prop} {g : List D → Option D} {t : TA} {f : M (List D)} (hr : PrimN T r g) (ha : SemA T E t f) : SemE T E (tCB r t) (eOp g f) := by
  intro st σ B F H S o s h Q hQ
  refine okx_bnd h hQ (fun o1 s1 e1 q => ha st σ B F H S o1 s1 e1 _ q) fun a s1 B1 H1 _ h2 e1 S1 hQ1 v hv => ?_
  obtain ⟨z, hz, rfl, rfl⟩ := opt_some h2
  exact hr a z v B1 H1 Q S1.exB hv hz fun u B2 H2 e2 hu => hQ1 B2 H2 e2.b (S1.ext e2) u hu
theorem relR_ol {B H : Hp} {p : Addr} {ys : List V} {xs : List D} (h : H p = some (.lst ys)) (r : Reps T B xs ys) : RelR T B H (.ol xs) (.ref p) := ⟨p, ys, rfl, h, r⟩
theorem semR_callL {r : List V → Hp → VK → Prop} {g : List D → Option (List D)} {t : TA} {f : M (List D)} (hr : PrimL T r g) (ha : SemA T E t f) : SemR T E (tCB r t) (rOp g f) := by
  intro st σ B F H S o s h Q hQ
  rcases bnd_some h with ⟨c, e1, rfl⟩ | ⟨a, s1, e1, e2⟩
  · exact ha st σ B F H S _ _ e1 _ hQ
  · obtain ⟨z, hz, rfl, rfl⟩ := opt_some e2
    cases hg : g a with
    | none => rw [hg] at hz; cases hz
    | some zs =>
      rw [hg] at hz; cases hz
      refine ha st σ B F H S _ _ e1 _ fun B1 H1 x1 S1 vs hvs => ?_
      refine hr a zs vs B1 H1 Q S1.exB hvs hg fun p ys B2 H2 x2 hp hy => ?_
      have S2 := S1.ext x2
      exact hQ _ B2 _ (x1.trans x2.b) (S2.alloc hp (fun _ z => nomatch z) (relR_ol upd_same hy))
theorem rep_tup {B : Hp} {p : Addr} {xs : List D} {vs : List V} (h : B p = some (.tup vs)) (r : Reps T B xs vs) : Rep T B (.tup xs) (.ref p) := by
  unfold Rep; exact ⟨p, vs, rfl, .inl h, r⟩
theorem semE_tup {t : TA} {f : M (List D)} (ha : SemA T E t f) : SemE T E (tTup t) (eTup f) := by
  intro st σ B F H S o s h Q hQ
  refine okx_bnd h hQ (fun o1 s1 e1 q => ha st σ B F H S o1 s1 e1 _ q) fun a s1 B1 H1 _ h2 e1 S1 hQ1 v hv => ?_
  obtain ⟨z, hz, rfl, rfl⟩ := opt_some h2
  split at hz
  · rename_i hl
    cases hz
    refine ⟨by rw [← hv.length]; exact hl, fun p hp => ?_⟩
    have x := Ext.newT (o := .tup v) S1.exB hp
    exact hQ1 _ _ x.b (S1.ext x) _ (rep_tup upd_same (Reps.mono x.b _ hv))
  · cases hz
theorem semR_lst {t : TA} {f : M (List D)} (ha : SemA T E t f) : SemR T E (tLst t) (rLst f) := by
  intro st σ B F H S o s h Q hQ
  rcases bnd_some h with ⟨c, e1, rfl⟩ | ⟨a, s1, e1, e2⟩
  · exact ha st σ B F H S _ _ e1 _ hQ
  · obtain ⟨z, hz, rfl, rfl⟩ := opt_some e2
    split at hz
    · rename_i hl
      cases hz
      refine ha st σ B F H S _ _ e1 _ fun B1 H1 x1 S1 vs hvs => ?_
      exact ⟨by rw [← hvs.length]; exact hl, fun p hp => hQ _ B1 _ x1 (S1.alloc hp (fun _ z => nomatch z) (relR_ol upd_same hvs))⟩
    · cases hz
theorem semR_d (ha : SemE T E ta fa) : SemR T E ta (rD fa) := by
  intro st σ B F H S o s h Q hQ
  rcases bnd_some h with ⟨c, e1, rfl⟩ | ⟨a, s1, e1, e2⟩
  · exact ha st σ B F H S _ _ e1 _ hQ
  · cases e2
    exact ha st σ B F H S _ _ e1 _ fun B1 H1 x1 S1 v hv => hQ v B1 H1 x1 (S1.push hv)
mutual
theorem whole_of : ∀ {r : R}, wholeB (fun c => (T.flds c).length) r = true → whole T r
  | .d _, _ => by unfold whole; trivial
  | .ol _, _ => by unfold whole; trivial
  | .od _ _, _ => by unfold whole; trivial
  | .oi c fs, h => by unfold whole; unfold wholeB at h; exact beq_iff_eq.mp h
  | .nl cs, h => by unfold whole; unfold wholeB at h; exact wholeL_of h
  | .nt cs, h => by unfold whole; unfold wholeB at h; exact wholeL_of h
  | .nd _ cs, h => by unfold whole; unfold wholeB at h; exact wholeL_of h
  | .ni c cs, h => by
    unfold whole; unfold wholeB at h
    have h := (Bool.and_eq_true _ _).mp h
    exact ⟨beq_iff_eq.mp h.1, wholeL_of h.2⟩
theorem wholeL_of : ∀ {rs : List R}, wholeBL (fun c => (T.flds c).length) rs = true → wholeL T rs
  | [], _ => by unfold wholeL; trivial
  | r :: rs, h => by
    unfold wholeL; unfold wholeBL at h
    have h := (Bool.and_eq_true _ _).mp h
    exact ⟨whole_of h.1, wholeL_of h.2⟩
end
theorem semE_fz {fr : M R} (ha : SemR T E ta fr) : SemE T E ta (eFz (fun c => (T.flds c).length) fr) := by
  intro st σ B F H S o s h Q hQ
  rcases bnd_some h with ⟨c, e1, rfl⟩ | ⟨a, s1, e1, e2⟩
  · exact ha st σ B F H S _ _ e1 _ hQ
  · obtain ⟨z, hz, rfl, rfl⟩ := opt_some e2
    split at hz
    · rename_i hw
      cases hz
      refine ha st σ B F H S _ _ e1 _ fun v B1 H1 x1 S1 => ?_
      obtain ⟨B2, x2, S2, hv⟩ := S1.freezeTop (whole_of hw)
      exact hQ B2 H1 (x1.trans x2) S2 v hv
    · cases hz
def eVar (i : Nat) : M D := fun st => match st[i]? with
  | some (some (.d x)) => some (.v x, st)
  | some (some (.ol xs)) => some (.v (.lst xs), st.set i (some (.d (.lst xs))))
  | some (some (.od ks vs)) => some (.v (.dct ks vs), st.set i (some (.d (.dct ks vs))))
  | _ => none
theorem semE_var {i : Nat} : SemE T E (tVar i) (eVar i) := by
  intro st σ B F H S o s h Q hQ
  unfold eVar at h
  split at h
  · rename_i x hi
    cases h
    obtain ⟨v, hv, r⟩ := S.rel i _ hi
    exact ⟨v, hv, hQ B H (.refl B) S v r⟩
  · rename_i x hi
    cases h
    obtain ⟨v, hv, r⟩ := S.rel i _ hi
    obtain ⟨B1, e1, S1, hr⟩ := S.freeze hi trivial
    exact ⟨v, hv, hQ B1 H e1 S1 v (hr v hv)⟩
  · rename_i ks vs hi
    cases h
    obtain ⟨v, hv, r⟩ := S.rel i _ hi
    obtain ⟨B1, e1, S1, hr⟩ := S.freeze hi trivial
    exact ⟨v, hv, hQ B1 H e1 S1 v (hr v hv)⟩
  · cases h
theorem semE_c {x : D} {v : V} (hr : ∀ B, Rep T B x v) : SemE T E (tC v) (ret x) := by
  intro st σ B F H S o s h Q hQ
  cases h
  exact hQ B H (.refl B) S v (hr B)
end
def vwN (n : Nat → Nat) (st : Sl) : Sl := st.map fun s => match s with
  | some r => if wholeB n r then some (.d (vw r)) else none
  | none => none
section
variable {T : Tab} {E : L2.St → XK} {st : Sl} {σ : St} {B F H B' H' : Hp}
theorem addS_all {B H : Hp} : addS B H (fun _ => True) = H := by funext b; exact addS_in trivial
theorem relR_full (S : Sim T st σ B F H) {r : R} {v : V} (h : RelR T B H r v) (w : whole T r) : Rep T H (vw r) v := by
  have := repR (S := fun _ => True) (by rw [addS_all]; exact S.exB) h (fun _ _ => trivial) w
  rwa [addS_all] at this
theorem Sim.full (S : Sim T st σ B F H) : Sim T (vwN (fun c => (T.flds c).length) st) σ H (fun _ => none) H := by
  have inv : ∀ {i : Nat} {r : R}, (vwN (fun c => (T.flds c).length) st)[i]? = some (some r) → ∃ q, st[i]? = some (some q) ∧ whole T q ∧ r = .d (vw q) := fun {i r} h => by
    unfold vwN at h
    rw [List.getElem?_map] at h
    cases e : st[i]? with
    | none => rw [e] at h; cases h
    | some s =>
      rw [e] at h
      cases s with
      | none => cases h
      | some q =>
        by_cases hw : wholeB (fun c => (T.flds c).length) q = true
        · simp only [Option.map_some, hw, if_true] at h
          cases h
          exact ⟨q, rfl, whole_of hw, rfl⟩
        · simp only [Option.map_some, hw, if_false] at h
          cases h
  refine ⟨Ex.refl H, fun _ _ h => (nomatch h), fun _ _ h => (nomatch h), fun _ _ h => h, by unfold vwN; rw [List.length_map]; exact S.len, fun i r h => ?_, fun i r v a h1 h2 h3 => ?_, fun i j r q v u a n h1 h2 h3 h4 h5 h6 => ?_⟩
  · obtain ⟨q, h1, w, rfl⟩ := inv h
    obtain ⟨v, hv, rel⟩ := S.rel i q h1
    exact ⟨v, hv, relR_full S rel w⟩
  · obtain ⟨q, _, _, rfl⟩ := inv h1
    exact h3.elim
  · obtain ⟨q', _, _, rfl⟩ := inv h1
    exact h5.elim
open Classical in
/-- the frozen part with all tuples -/
noncomputable def tups (B H : Hp) : Hp := fun a => if (∃ xs, H a = some (.tup xs)) then H a else B a
theorem Sim.back (S : Sim T st σ B F H) (e : Ex H H') : Ex B (tups B H') ∧ Sim T st σ (tups B H') F H' ∧ ∀ a xs, H' a = some (.tup xs) → tups B H' a = some (.tup xs) := by
  have bk : ∀ (i : Nat) r v a, st[i]? = some (some r) → σ[i]? = some (some v) → Ow H' r v a → Ow H r v a := fun i r v a h1 h2 o => by
    obtain ⟨v', h4, h5⟩ := S.rel i r h1
    rw [h2] at h4; cases h4
    exact Ow.back e.tk h5 (fun p o _ q => e p o q) o
  have e1 : Ex B (tups B H') := fun a o h => by
    unfold tups
    split
    · exact e a o (S.exB a o h)
    · exact h
  have tp : ∀ a xs, H' a = some (.tup xs) → tups B H' a = some (.tup xs) := fun a xs h => by
    unfold tups
    rw [if_pos ⟨xs, h⟩]; exact h
  refine ⟨e1, ⟨fun a o h => ?_, S.exF.trans e, fun a o h => ?_, tp, S.len, fun i r h => ?_, fun i r v a h1 h2 h3 => ?_, fun i j r q v u a n h1 h2 h3 h4 h5 h6 => S.sep i j r q v u a n h1 h2 h3 h4 (bk i r v a h1 h2 h5) (bk j q u a h3 h4 h6)⟩, tp⟩
  · unfold tups at h
    split at h
    · exact h
    · exact e a o (S.exB a o h)
  · unfold tups
    split
    · rename_i z
      obtain ⟨xs, z⟩ := z
      have q := e a o (S.exF a o h)
      rw [z] at q
      cases q
      have := S.tup a xs (S.exF a _ h)
      rw [S.dis a _ h] at this; cases this
    · exact S.dis a o h
  · obtain ⟨v, h1, h2⟩ := S.rel i r h
    exact ⟨v, h1, h2.keep e1 e.tk fun a o _ z => e a o z⟩
  · have h3 := bk i r v a h1 h2 h3
    obtain ⟨z1, z2⟩ := S.own i r v a h1 h2 h3
    refine ⟨?_, z2⟩
    obtain ⟨v', h4, h5⟩ := S.rel i r h1
    rw [h2] at h4; cases h4
    obtain ⟨⟨o, h6⟩, nt⟩ := h5.ow h3
    unfold tups
    split
    · rename_i z
      obtain ⟨xs, z⟩ := z
      rw [e a o h6] at z
      cases z
      exact (nt xs h6).elim
    · exact z1
def eFull (n : Nat → Nat) (f : M D) : M D := fun st => match f (vwN n st) with
  | some (.v x, _) => if imm x then some (.v x, st) else none
  | some (.x c, _) => some (.x c, st)
  | none => none
theorem semE_all {te : TE} {f : M D} (h : SemE T E te f) : SemE T E te (eFull (fun c => (T.flds c).length) f) := by
  intro st σ B F H S o s hf Q hQ
  unfold eFull at hf
  split at hf
  · rename_i x s1 e1
    split at hf
    · rename_i hi
      cases hf
      refine h _ σ H _ H S.full _ _ e1 Q fun B1 H1 x1 S1 v hv => ?_
      obtain ⟨b1, b2, b3⟩ := S.back (x1.trans S1.exB)
      exact hQ _ H1 b1 b2 v (imm_rep (fun a xs z => b3 a xs (S1.exB a _ z)) x hi hv)
    · cases hf
  · rename_i c s1 e1
    cases hf
    refine h _ σ H _ H S.full _ _ e1 Q fun d B1 H1 x1 S1 => ?_
    obtain ⟨b1, b2, b3⟩ := S.back (x1.trans S1.exB)
    exact hQ d _ H1 b1 b2
  · cases hf
theorem imms_rep {T : Tab} {B B' : Hp} (e : ∀ a xs, B a = some (.tup xs) → B' a = some (.tup xs)) : ∀ (ds : List D) {xs : List V}, imms ds = true → Reps T B ds xs → Reps T B' ds xs
  | [], _, _, h => h
  | d :: ds, xs, i, h => by
    unfold Reps at h
    unfold imms at i
    obtain ⟨v, r, e1, e2, e3⟩ := h
    have i' := (Bool.and_eq_true _ _).mp i
    unfold Reps
    exact ⟨v, r, e1, imm_rep e d i'.1 e2, imms_rep e ds i'.2 e3⟩
def rFull (n : Nat → Nat) (f : M R) : M R := fun st => match f (vwN n st) with
  | some (.v (.ol xs), _) => if imms xs then some (.v (.ol xs), st) else none
  | some (.v (.d x), _) => if imm x then some (.v (.d x), st) else none
  | some (.x c, _) => some (.x c, st)
  | _ => none
end
end Fz
set_option Elab.async false
set_option linter.all false
set_option maxRecDepth 100000
set_option maxHeartbeats 2000000
namespace Fz
open PySem L2
inductive Fl where
  | nx | rt (r : R) | bk | ct | x (c : Nat)
abbrev MS := Sl → Option (Fl × Sl)
def Kp (kp : Nat → Bool) (σ σ' : St) : Prop := ∀ i, kp i = true → σ'[i]? = σ[i]?
theorem Kp.refl (kp : Nat → Bool) (σ : St) : Kp kp σ σ := fun _ _ => rfl
theorem Kp.trans {kp : Nat → Bool} {a b c : St} (h : Kp kp a b) (g : Kp kp b c) : Kp kp a c := fun i e => (g i e).trans (h i e)
theorem Kp.set {kp : Nat → Bool} {σ : St} {i : Nat} {v : Option V} (h : kp i = false) : Kp kp σ (σ.set i v) := fun j e => by
  rw [List.getElem?_set_ne]
  rintro rfl
  rw [h] at e; cases e
def OkS (T : Tab) (E : L2.St → XK) (kp : Nat → Bool) (fl : Fl) (st : Sl) (σ : St) (B F : Hp) (D : Ends) : Prop := match fl with
  | .nx => ∀ σ' B' H', Ex B B' → Kp kp σ σ' → Sim T st σ' B' F H' → D.nx σ' H'
  | .bk => ∀ σ' B' H', Ex B B' → Kp kp σ σ' → Sim T st σ' B' F H' → D.bk σ' H'
  | .ct => ∀ σ' B' H', Ex B B' → Kp kp σ σ' → Sim T st σ' B' F H' → D.ct σ' H'
  | .rt r => ∀ v σ' B' H', Ex B B' → Kp kp σ σ' → Sim T (some r :: st) (some v :: σ') B' F H' → D.rt v H'
  | .x c => ∀ (d : DN) σ' B' H', Ex B B' → Kp kp σ σ' → Sim T st σ' B' F H' → E σ' (.ref (T.cls c)) d.1 H'
def SemS (T : Tab) (E : L2.St → XK) (kp : Nat → Bool) (ts : TS) (f : MS) : Prop := ∀ st σ B F H, Sim T st σ B F H → ∀ fl s, f st = some (fl, s) → ∀ D : Ends, OkS T E kp fl s σ B F D → ts D σ H
def SemG (T : Tab) (kp : Nat → Bool) (g : TG) (gf : D → Sl → Option Sl) : Prop := ∀ st σ B F H, Sim T st σ B F H → ∀ d v s, Rep T B d v → gf d st = some s → ∀ Q : St → Hp → Prop, (∀ σ', Kp kp σ σ' → Sim T s σ' B F H → Q σ' H) → g v σ H Q
def SemGs (T : Tab) (kp : Nat → Bool) (g : TGs) (gf : List D → Sl → Option Sl) : Prop := ∀ st σ B F H, Sim T st σ B F H → ∀ ds vs s, Reps T B ds vs → gf ds st = some s → ∀ Q : St → Hp → Prop, (∀ σ', Kp kp σ σ' → Sim T s σ' B F H → Q σ' H) → g vs σ H Q
structure Steps (T : Tab) (J : It) (ds : List D) (B : Hp) : Prop where
  go : ∀ i H, i < ds.length → Ex B H → J.go i H
  stop : ∀ H, Ex B H → J.stop ds.length H
  yld : ∀ i d H x H' B1, ds[i]? = some d → Ex B B1 → Ex B1 H → J.yld i H x H' → ∃ B2, Ext B1 H B2 H' ∧ Rep T B2 d x
def SemI (T : Tab) (E : L2.St → XK) (wi : TI) (f : M (List D)) : Prop := ∀ st σ B F H, Sim T st σ B F H → ∀ o s, f st = some (o, s) → ∀ R : It → Hp → Prop, Okx T (E σ) o s σ B F (fun ds B' H' => ∀ J, Steps T J ds B' → R J H') → wi σ H R
def gN (i : Nat) : D → Sl → Option Sl := fun d st => some (st.set i (some (.d d)))
def gsN : List D → Sl → Option Sl := fun ds st => match ds with
  | [] => some st
  | _ => none
def gsC (f : D → Sl → Option Sl) (g : List D → Sl → Option Sl) : List D → Sl → Option Sl := fun ds st => match ds with
  | d :: r => (f d st).bind (g r)
  | [] => none
def gT (n : Nat) (g : List D → Sl → Option Sl) : D → Sl → Option Sl := fun d st => match d with
  | .tup ds => if ds.length = n then g ds st else none
  | _ => none
section
variable {T : Tab} {E : L2.St → XK} {kp : Nat → Bool} {st : Sl} {σ σ' : St} {B F H B' H' : Hp}
theorem OkS.weak {fl : Fl} {s : Sl} {D D' : Ends} (h : OkS T E kp fl s σ B F D) (e : Ex B B') (k : Kp kp σ σ') (hn : fl = .nx → ∀ a b, D.nx a b → D'.nx a b) (hb : fl = .bk → ∀ a b, D.bk a b → D'.bk a b) (hc : fl = .ct → ∀ a b, D.ct a b → D'.ct a b) (hr : ∀ a b, D.rt a b → D'.rt a b) : OkS T E kp fl s σ' B' F D' := by
  cases fl with
  | nx => exact fun σ1 B1 H1 e1 k1 S => hn rfl _ _ (h σ1 B1 H1 (e.trans e1) (k.trans k1) S)
  | bk => exact fun σ1 B1 H1 e1 k1 S => hb rfl _ _ (h σ1 B1 H1 (e.trans e1) (k.trans k1) S)
  | ct => exact fun σ1 B1 H1 e1 k1 S => hc rfl _ _ (h σ1 B1 H1 (e.trans e1) (k.trans k1) S)
  | rt r => exact fun v σ1 B1 H1 e1 k1 S => hr _ _ (h v σ1 B1 H1 (e.trans e1) (k.trans k1) S)
  | x c => exact fun d σ1 B1 H1 e1 k1 S => h d σ1 B1 H1 (e.trans e1) (k.trans k1) S
theorem OkS.same {fl : Fl} {s : Sl} {D : Ends} (h : OkS T E kp fl s σ B F D) (e : Ex B B') (k : Kp kp σ σ') : OkS T E kp fl s σ' B' F D :=
  h.weak e k (fun _ _ _ z => z) (fun _ _ _ z => z) (fun _ _ _ z => z) fun _ _ z => z
theorem semG_name {i : Nat} (hk : kp i = false) : SemG T kp (gName i) (gN i) := by
  intro st σ B F H S d v s r h Q q
  cases h
  exact q _ (Kp.set hk) (Sim.store (S.push r) i)
theorem semGs_nil : SemGs T kp gNil gsN := by
  intro st σ B F H S ds vs s r h Q q
  cases ds with
  | nil =>
    unfold Reps at r
    cases h
    exact ⟨r, q _ (Kp.refl _ _) S⟩
  | cons d ds => cases h
theorem semGs_cons {g : TG} {gs : TGs} {f : D → Sl → Option Sl} {fs : List D → Sl → Option Sl} (h1 : SemG T kp g f) (h2 : SemGs T kp gs fs) : SemGs T kp (gCons g gs) (gsC f fs) := by
  intro st σ B F H S ds vs s r h Q q
  cases ds with
  | nil => cases h
  | cons d ds =>
    unfold Reps at r
    obtain ⟨v, r', rfl, rd, rr⟩ := r
    have h : (f d st).bind (fs ds) = some s := h
    cases e : f d st with
    | none => rw [e] at h; cases h
    | some s1 =>
      rw [e] at h
      exact ⟨v, r', rfl, h1 st σ B F H S d v s1 rd e _ fun σ1 k1 S1 => h2 s1 σ1 B F H S1 ds r' s rr h _ fun σ2 k2 S2 => q σ2 (k1.trans k2) S2⟩
theorem semG_tup {n : Nat} {gs : TGs} {fs : List D → Sl → Option Sl} (h1 : SemGs T kp gs fs) : SemG T kp (gTup T.K n gs) (gT n fs) := by
  intro st σ B F H S d v s r h Q q
  unfold gT at h
  split at h
  · rename_i ds
    split at h
    · rename_i hl
      unfold Rep at r
      obtain ⟨a, xs, rfl, ht, hr⟩ := r
      exact ⟨a, xs, rfl, (S.exB.tu ht).sq, by rw [← hr.length]; exact hl, h1 st σ B F H S ds xs s hr h Q q⟩
    · cases h
  · cases h
def sNext : MS := fun st => some (.nx, st)
def sSeq (f g : MS) : MS := fun st => match f st with
  | some (.nx, s) => g s
  | r => r
theorem semS_next : SemS T E kp tNext sNext := by
  intro st σ B F H S fl s h D hD
  cases h
  exact hD σ B H (Ex.refl _) (Kp.refl _ _) S
theorem semS_seq {t u : TS} {f g : MS} (h1 : SemS T E kp t f) (h2 : SemS T E kp u g) : SemS T E kp (tSeq t u) (sSeq f g) := by
  intro st σ B F H S fl s h D hD
  unfold sSeq at h
  split at h
  · rename_i s1 e
    exact h1 st σ B F H S _ _ e _ fun σ1 B1 H1 e1 k1 S1 => h2 s1 σ1 B1 F H1 S1 fl s h D (hD.same e1 k1)
  · rename_i r hn
    refine h1 st σ B F H S fl s h _ (hD.weak (Ex.refl _) (Kp.refl _ _) (fun e => ?_) (fun _ _ _ z => z) (fun _ _ _ z => z) fun _ _ z => z)
    subst e
    exact (hn s h).elim
def sSet (i : Nat) (m : M R) : MS := fun st => match m st with
  | some (.v r, s) => some (.nx, s.set i (some r))
  | some (.x c, s) => some (.x c, s)
  | none => none
theorem semS_set {te : TE} {m : M R} {i : Nat} (hk : kp i = false) (h : SemR T E te m) : SemS T E kp (tAsg te (gName i)) (sSet i m) := by
  intro st σ B F H S fl s hf D hD
  unfold sSet at hf
  split at hf
  · rename_i r s1 e
    cases hf
    exact h st σ B F H S _ _ e _ fun v B1 H1 e1 S1 => hD _ B1 H1 e1 (Kp.set hk) (S1.store i)
  · rename_i c s1 e
    cases hf
    exact h st σ B F H S _ _ e _ fun d B1 H1 e1 S1 => hD d σ B1 H1 e1 (Kp.refl _ _) S1
  · cases hf
def sAsg (m : M D) (g : D → Sl → Option Sl) : MS := fun st => match m st with
  | some (.v r, s) => (g r s).map fun s => (.nx, s)
  | some (.x c, s) => some (.x c, s)
  | none => none
theorem semS_asg {te : TE} {m : M D} {g : TG} {gf : D → Sl → Option Sl} (h : SemE T E te m) (hg : SemG T kp g gf) : SemS T E kp (tAsg te g) (sAsg m gf) := by
  intro st σ B F H S fl s hf D hD
  unfold sAsg at hf
  split at hf
  · rename_i r s1 e
    cases q : gf r s1 with
    | none => rw [q] at hf; cases hf
    | some s2 =>
      rw [q] at hf; cases hf
      exact h st σ B F H S _ _ e _ fun B1 H1 e1 S1 v hv => hg s1 σ B1 F H1 S1 r v _ hv q _ fun σ2 k2 S2 => hD σ2 B1 H1 e1 k2 S2
  · rename_i c s1 e
    cases hf
    exact h st σ B F H S _ _ e _ fun d B1 H1 e1 S1 => hD d σ B1 H1 e1 (Kp.refl _ _) S1
  · cases hf
def sIf (c : M Bool) (f g : MS) : MS := fun st => match c st with
  | some (.v b, s) => if b = true then f s else g s
  | some (.x c, s) => some (.x c, s)
  | none => none
theorem semS_if {tc : TT} {c : M Bool} {t u : TS} {f g : MS} (hc : SemT T E tc c) (h1 : SemS T E kp t f) (h2 : SemS T E kp u g) : SemS T E kp (tIfS tc t u) (sIf c f g) := by
  intro st σ B F H S fl s hf D hD
  unfold sIf at hf
  split at hf
  · rename_i b s1 e
    refine hc st σ B F H S _ _ e _ fun B1 H1 e1 S1 => ?_
    cases b with
    | true => exact h1 s1 σ B1 F H1 S1 fl s hf D (hD.same e1 (Kp.refl _ _))
    | false => exact h2 s1 σ B1 F H1 S1 fl s hf D (hD.same e1 (Kp.refl _ _))
  · rename_i c s1 e
    cases hf
    exact hc st σ B F H S _ _ e _ fun d B1 H1 e1 S1 => hD d σ B1 H1 e1 (Kp.refl _ _) S1
  · cases hf
def sRet (m : M R) : MS := fun st => match m st with
  | some (.v r, s) => some (.rt r, s)
  | some (.x c, s) => some (.x c, s)
  | none => none
theorem semS_ret {te : TE} {m : M R} (h : SemR T E te m) : SemS T E kp (tRet te) (sRet m) := by
  intro st σ B F H S fl s hf D hD
  unfold sRet at hf
  split at hf
  · rename_i r s1 e
    cases hf
    exact h st σ B F H S _ _ e _ fun v B1 H1 e1 S1 => hD v σ B1 H1 e1 (Kp.refl _ _) S1
  · rename_i c s1 e
    cases hf
    exact h st σ B F H S _ _ e _ fun d B1 H1 e1 S1 => hD d σ B1 H1 e1 (Kp.refl _ _) S1
  · cases hf
def sRetN : MS := fun st => some (.rt (.d .non), st)
def sBrk : MS := fun st => some (.bk, st)
def sCt : MS := fun st => some (.ct, st)
def sDrop (m : M R) : MS := fun st => match m st with
  | some (.v _, s) => some (.nx, s)
  | some (.x c, s) => some (.x c, s)
  | none => none
theorem semS_drop {te : TE} {m : M R} (h : SemR T E te m) : SemS T E kp (tDrop te) (sDrop m) := by
  intro st σ B F H S fl s hf D hD
  unfold sDrop at hf
  split at hf
  · rename_i r s1 e
    cases hf
    exact h st σ B F H S _ _ e _ fun v B1 H1 e1 S1 => hD σ B1 H1 e1 (Kp.refl _ _) S1.pop
  · rename_i c s1 e
    cases hf
    exact h st σ B F H S _ _ e _ fun d B1 H1 e1 S1 => hD d σ B1 H1 e1 (Kp.refl _ _) S1
  · cases hf
def rMv (i : Nat) : M R := fun st => match st[i]? with
  | some (some r) => some (.v r, st.set i none)
  | _ => none
theorem semR_mv {i : Nat} : SemR T E (tVar i) (rMv i) := by
  intro st σ B F H S o s h Q hQ
  unfold rMv at h
  split at h
  · rename_i r hi
    cases h
    obtain ⟨v, hv, rel⟩ := S.rel i r hi
    refine ⟨v, hv, hQ v B H (Ex.refl _) ?_⟩
    have Sf := S.forget i
    refine ⟨S.exB, S.exF, S.dis, S.tup, by simp [S.len], fun j q e => ?_, fun j q u a h1 h2 h3 => ?_, fun j k q p u w a n h1 h2 h3 h4 h5 h6 => ?_⟩
    · cases j with
      | zero => simp at e; subst e; exact ⟨v, rfl, rel⟩
      | succ j => obtain ⟨u, a, b⟩ := Sf.rel j q (by simpa using e); exact ⟨u, by simpa using a, b⟩
    · cases j with
      | zero => simp at h1 h2; subst h1; subst h2; exact S.own i r v a hi hv h3
      | succ j => exact Sf.own j q u a (by simpa using h1) (by simpa using h2) h3
    · have ne : ∀ {j : Nat} {q : R}, (st.set i none)[j]? = some (some q) → i ≠ j ∧ st[j]? = some (some q) := fun {j q} e => by
        rw [List.getElem?_set] at e
        split at e
        · split at e <;> cases e
        · rename_i z; exact ⟨z, e⟩
      cases j with
      | zero =>
        simp at h1 h2; subst h1; subst h2
        cases k with
        | zero => exact n rfl
        | succ k =>
          obtain ⟨z, h3⟩ := ne (j := k) (by simpa using h3)
          exact S.sep i k r p v w a z hi hv h3 (by simpa using h4) h5 h6
      | succ j =>
        obtain ⟨z, h1⟩ := ne (j := j) (by simpa using h1)
        cases k with
        | zero => simp at h3 h4; subst h3; subst h4; exact S.sep i j r q v u a z hi hv h1 (by simpa using h2) h6 h5
        | succ k =>
          obtain ⟨z', h3⟩ := ne (j := k) (by simpa using h3)
          exact S.sep j k q p u w a (by omega) h1 (by simpa using h2) h3 (by simpa using h4) h5 h6
  · cases h
def forL (g : D → Sl → Option Sl) (body : MS) : List D → MS
  | [], s => some (.nx, s)
  | d :: ds, s => match g d s with
    | none => none
    | some s1 => match body s1 with
      | some (.nx, s2) => forL g body ds s2
      | some (.ct, s2) => forL g body ds s2
      | some (.bk, s2) => some (.nx, s2)
      | r => r
def sFor (it : M (List D)) (g : D → Sl → Option Sl) (body : MS) : MS := fun st => match it st with
  | some (.v ds, s) => forL g body ds s
  | some (.x c, s) => some (.x c, s)
  | none => none
theorem semS_for {wi : TI} {g : TG} {tb : TS} {it : M (List D)} {gf : D → Sl → Option Sl} {body : MS} (hi : SemI T E wi it) (hg : SemG T kp g gf) (hb : SemS T E kp tb body) : SemS T E kp (tFor wi g tb) (sFor it gf body) := by
  intro st σ B F H S fl s hf D hD
  unfold sFor at hf
  split at hf
  · rename_i ds s1 e
    refine hi st σ B F H S _ _ e _ fun B1 H1 e1 S1 J hJ => ?_
    refine ⟨fun i m σ2 H2 => i ≤ ds.length ∧ m = ds.length - i ∧ ∃ s2 B2, Ex B1 B2 ∧ Kp kp σ σ2 ∧ Sim T s2 σ2 B2 F H2 ∧ forL gf body (ds.drop i) s2 = some (fl, s), ⟨ds.length, Nat.zero_le _, by omega, s1, B1, Ex.refl _, Kp.refl _ _, S1, hf⟩, ?_⟩
    rintro i m σ2 H2 ⟨hle, rfl, s2, B2, e2, k2, S2, h2⟩
    by_cases hlt : i < ds.length
    · refine .inr ⟨hJ.go i H2 hlt (e2.trans S2.exB), ?_⟩
      rw [List.drop_eq_getElem_cons hlt] at h2
      have hget : ds[i]? = some ds[i] := List.getElem?_eq_getElem hlt
      generalize ds[i] = d at h2 hget
      unfold forL at h2
      split at h2
      · cases h2
      · rename_i s3 eg
        refine ⟨fun σ' H' => ∃ m', m' < ds.length - i ∧ (i + 1 ≤ ds.length ∧ m' = ds.length - (i + 1) ∧ ∃ s2 B2, Ex B1 B2 ∧ Kp kp σ σ' ∧ Sim T s2 σ' B2 F H' ∧ forL gf body (ds.drop (i + 1)) s2 = some (fl, s)), fun σ' H' z => z, fun x H3 hy => ?_⟩
        obtain ⟨B3, x3, hx⟩ := hJ.yld i d H2 x H3 B2 hget e2 S2.exB hy
        have S3 := S2.ext x3
        refine hg s2 σ2 B3 F H3 S3 d x s3 hx eg _ fun σ4 k4 S4 => ?_
        have k24 := k2.trans k4
        have e23 := e2.trans x3.b
        split at h2
        · rename_i s5 eb
          refine hb s3 σ4 B3 F H3 S4 _ _ eb _ fun σ5 B5 H5 e5 k5 S5 => ?_
          exact ⟨_, by omega, hlt, rfl, s5, B5, e23.trans e5, k24.trans k5, S5, h2⟩
        · rename_i s5 eb
          refine hb s3 σ4 B3 F H3 S4 _ _ eb _ fun σ5 B5 H5 e5 k5 S5 => ?_
          exact ⟨_, by omega, hlt, rfl, s5, B5, e23.trans e5, k24.trans k5, S5, h2⟩
        · rename_i s5 eb
          cases h2
          refine hb s3 σ4 B3 F H3 S4 _ _ eb _ fun σ5 B5 H5 e5 k5 S5 => ?_
          exact hD σ5 B5 H5 (e1.trans (e23.trans e5)) (k24.trans k5) S5
        · rename_i q n1 n2 n3
          refine hb s3 σ4 B3 F H3 S4 fl s h2 _ ?_
          cases fl with
          | nx => exact (n1 _ h2).elim
          | ct => exact (n2 _ h2).elim
          | bk => exact (n3 _ h2).elim
          | rt r => exact fun v σ5 B5 H5 e5 k5 S5 => hD v σ5 B5 H5 (e1.trans (e23.trans e5)) (k24.trans k5) S5
          | x c => exact fun v σ5 B5 H5 e5 k5 S5 => hD v σ5 B5 H5 (e1.trans (e23.trans e5)) (k24.trans k5) S5
    · have ei : i = ds.length := by omega
      subst ei
      refine .inl ⟨hJ.stop H2 (e2.trans S2.exB), ?_⟩
      rw [List.drop_length] at h2
      cases h2
      exact hD σ2 B2 H2 (e1.trans e2) k2 S2
  · rename_i c s1 e
    cases hf
    exact hi st σ B F H S _ _ e _ fun d B1 H1 e1 S1 => hD d σ B1 H1 e1 (Kp.refl _ _) S1
  · cases hf
def whileL (c : M Bool) (body : MS) : Nat → MS
  | 0, _ => none
  | n + 1, s => match c s with
    | some (.v true, s1) => (match body s1 with
      | some (.nx, s2) => whileL c body n s2
      | some (.ct, s2) => whileL c body n s2
      | some (.bk, s2) => some (.nx, s2)
      | r => r)
    | some (.v false, s1) => some (.nx, s1)
    | some (.x k, s1) => some (.x k, s1)
    | none => none
theorem semS_while {tc : TT} {tb : TS} {c : M Bool} {body : MS} (hc : SemT T E tc c) (hb : SemS T E kp tb body) (n : Nat) : SemS T E kp (tWhile tc tb) (whileL c body n) := by
  intro st σ B F H S fl s hf D hD
  refine ⟨fun m σ2 H2 => ∃ s2 B2, Ex B B2 ∧ Kp kp σ σ2 ∧ Sim T s2 σ2 B2 F H2 ∧ whileL c body m s2 = some (fl, s), ⟨n, st, B, Ex.refl _, Kp.refl _ _, S, hf⟩, ?_⟩
  rintro m σ2 H2 ⟨s2, B2, e2, k2, S2, h2⟩
  cases m with
  | zero => cases h2
  | succ m =>
    unfold whileL at h2
    split at h2
    · rename_i s3 e
      refine hc s2 σ2 B2 F H2 S2 _ _ e _ fun B3 H3 e3 S3 => ?_
      show if true = true then _ else _
      rw [if_pos rfl]
      refine ⟨fun σ' H' => ∃ m', m' < m + 1 ∧ ∃ s2 B2, Ex B B2 ∧ Kp kp σ σ' ∧ Sim T s2 σ' B2 F H' ∧ whileL c body m' s2 = some (fl, s), fun σ' H' z => z, ?_⟩
      split at h2
      · rename_i s5 eb
        refine hb s3 σ2 B3 F H3 S3 _ _ eb _ fun σ5 B5 H5 e5 k5 S5 => ?_
        exact ⟨m, by omega, s5, B5, e2.trans (e3.trans e5), k2.trans k5, S5, h2⟩
      · rename_i s5 eb
        refine hb s3 σ2 B3 F H3 S3 _ _ eb _ fun σ5 B5 H5 e5 k5 S5 => ?_
        exact ⟨m, by omega, s5, B5, e2.trans (e3.trans e5), k2.trans k5, S5, h2⟩
      · rename_i s5 eb
        cases h2
        refine hb s3 σ2 B3 F H3 S3 _ _ eb _ fun σ5 B5 H5 e5 k5 S5 => ?_
        exact hD σ5 B5 H5 (e2.trans (e3.trans e5)) (k2.trans k5) S5
      · rename_i q n1 n2 n3
        refine hb s3 σ2 B3 F H3 S3 fl s h2 _ ?_
        cases fl with
        | nx => exact (n1 _ h2).elim
        | ct => exact (n2 _ h2).elim
        | bk => exact (n3 _ h2).elim
        | rt r => exact fun v σ5 B5 H5 e5 k5 S5 => hD v σ5 B5 H5 (e2.trans (e3.trans e5)) (k2.trans k5) S5
        | x c => exact fun v σ5 B5 H5 e5 k5 S5 => hD v σ5 B5 H5 (e2.trans (e3.trans e5)) (k2.trans k5) S5
    · rename_i s3 e
      cases h2
      refine hc s2 σ2 B2 F H2 S2 _ _ e _ fun B3 H3 e3 S3 => ?_
      show if false = true then _ else _
      rw [if_neg Bool.false_ne_true]
      exact hD σ2 B3 H3 (e2.trans e3) k2 S3
    · rename_i k s3 e
      cases h2
      exact hc s2 σ2 B2 F H2 S2 _ _ e _ fun d B3 H3 e3 S3 => hD d σ2 B3 H3 (e2.trans e3) k2 S3
    · cases h2
end
end Fz
set_option Elab.async false
set_option linter.all false
set_option maxRecDepth 100000
set_option maxHeartbeats 2000000
namespace Fz
open PySem L2 PySem.Spec PyProof.Rows
structure Room (k : Nat) (A : Around) : Prop where
  hd : A.handled = none
  dp : A.depth + 3 * k + 5 < recursionLimit
  un : A.units + 16 * k + 200 < cLine
  gd : A.guards = some []
theorem Room.l2 {k : Nat} {A : Around} (r : Room k A) : L2.Room k A := ⟨r.hd, r.dp, r.un⟩
theorem Room.mono {j k : Nat} {A : Around} (r : Room k A) (h : j ≤ k) : Room j A := ⟨r.hd, (r.l2.mono h).dp, (r.l2.mono h).un, r.gd⟩
theorem Room.deeper {k : Nat} {A : Around} (r : Room (k + 1) A) (env : Env) : Room k (A.deeper env) := ⟨r.hd, (r.l2.deeper env).dp, (r.l2.deeper env).un, r.gd⟩
theorem Room.in1 {k : Nat} {A : Around} (r : Room (k + 1) A) : Room k A.in1 := ⟨r.hd, r.l2.in1.dp, r.l2.in1.un, r.gd⟩
theorem Room.make {k : Nat} {A : Around} (r : Room (k + 1) A) (C : Addr) (us : List Value) (kw : List (Str × Value)) : Room k (A.under (.builtin "type.__call__" ⟨.ref C :: us, kw⟩)) :=
  let q := r.l2.make C us kw
  ⟨q.hd, q.dp, q.un, by
    show pushGuards (Code.guards (.builtin "type.__call__" ⟨.ref C :: us, kw⟩)) A.guards = some []
    rw [show Code.guards (.builtin "type.__call__" ⟨.ref C :: us, kw⟩) = [] from if_neg (show ¬ (guardIds.contains "type.__call__" = true) by decide +kernel), r.gd]
    rfl⟩
theorem Room.depth {k : Nat} {A : Around} (r : Room k A) : A.depth < recursionLimit := r.l2.depth
theorem Room.units {k : Nat} {A : Around} (r : Room k A) : A.units + 64 < cLine := r.l2.units
structure FnOk (P : Program) (w : World) (K : PySem.W.Frag) (mg : Str → Option Value) (base : Heap) (CX : CXT) (k : Nat) (f : Addr) (fd : FuncData) (ps : List Str) (sp : Sp) : Prop where
  len : ∀ vs H Q E, sp vs H Q E → vs.length = ps.length
  run : ∀ (A : Around) (outer : List Env) (s : Shared) (H : Hp) (args : Args) (us : List Value) (vs : List V) (Q : VK) (E : XK), Room k A → Env0 P w K mg base A outer s H → BindsTo s fd args (ps.zip us) → Vals vs us → sp vs H Q E →
    codeAny (model P w) A (.call (.ref f) args) (CR CX outer P w H s Q E) s
section
variable {P : Program} {w : World} {K : PySem.W.Frag} {mg : Str → Option Value} {base : Heap} {CX : CXT} {k : Nat} {f : Addr} {fd : FuncData} {ps : List Str} {sp sp' : Sp}
theorem FnOk.mono {j : Nat} (F : FnOk P w K mg base CX j f fd ps sp) (h : j ≤ k) : FnOk P w K mg base CX k f fd ps sp :=
  ⟨F.len, fun A outer s H args us vs Q E hr => F.run A outer s H args us vs Q E (hr.mono h)⟩
theorem FnOk.imp (F : FnOk P w K mg base CX k f fd ps sp) (h : ∀ vs H Q E, sp' vs H Q E → sp vs H Q E) : FnOk P w K mg base CX k f fd ps sp' :=
  ⟨fun vs H Q E q => F.len vs H Q E (h _ _ _ _ q), fun A outer s H args us vs Q E hr he hb hv hs => F.run A outer s H args us vs Q E hr he hb hv (h _ _ _ _ hs)⟩
theorem fnr_of {name qual : Str} {params : Arguments} {body : List Stmt} {scope : Scope} {dV kV doc pm cdv ct oc : Value} {an od : Option Addr}
    {osl : Array (Option Value)} {N : List Str} (lk : K.lookup f = some ⟨oc, od, .func (PySem.W.fnOf name qual params body scope dV kV doc pm an cdv ct), osl⟩) (hcd : PySem.W.codeIn K cdv qual = true) (S : FnScope N ps scope)
    (len : ∀ vs H Q E, sp vs H Q E → vs.length = ps.length)
    (hbody : ∀ (A : Around) (outer : List Env) (s : Shared) (H : Hp) (vs : List V) (Q : VK) (E : XK), Room k (A.deeper (envOfC qual scope s.heap.objs.size f cdv)) → sp vs H Q E →
      ∃ t, PSs (cxOf CX P w K mg base N qual scope f cdv A outer s H E) body t ∧ t { nx := fun _ H' => Q .non H', rt := Q } (L2.start N vs) H) :
    FnOk P w K mg base CX (k + 1) f (PySem.W.fnOf name qual params body scope dV kV doc pm an cdv ct) ps sp := by
  refine ⟨len, fun A outer s H args us vs Q E hr e0 hb r hsp => ?_⟩
  have hl := len _ _ _ _ hsp
  have KX : K.In s.heap := e0.mod.kin.keeps fun b o e => (e0.bs b o e).1
  have lim : s.heap.NoLimit := e0.mod.nolimit.keeps fun b o e => (e0.bs b o e).1
  refine codeAny_call_function hr.depth (KX _ _ lk) rfl S.co S.gen rfl (PySem.W.codeRec_of KX hcd) (hb _ _ _ _ ?_)
  refine wpAny_newFunctionEnv_cells S.kind (fun ⟨n, v⟩ hy => (S.par n (List.of_mem_zip hy).1).imp id fun q => ⟨q, PySem.W.cellsFrom_some _ _ _ (.inl q)⟩) fun env he s1 x => ?_
  subst he
  refine ⟨lim.keeps x.toInCall.keep, codeAny_func ?_⟩
  obtain ⟨t, ht, hq⟩ := hbody A outer s H vs Q E (hr.deeper _) hsp
  have I : Inv (cxOf CX P w K mg base N qual scope f cdv A outer s H E) [] (L2.start N vs) H s1 := inv_start S hr.hd e0 hl r x
  refine wpAny_mono (ht.run [] s1 (L2.start N vs) H _ I hq) (fun fl s' hs => ?_) fun e s' hs => hs
  have fin : ∀ {σ' : L2.St} {H' : Hp} {v : V} {u : Value}, Inv (cxOf CX P w K mg base N qual scope f cdv A outer s H E) [] σ' H' s' → RelV v u → Q v H' → CE outer P w H s Q u s' :=
    fun {σ' H' v u} J rv q => ⟨v, H', J.os, J.bare, J.base, J.hok, rv, q⟩
  cases fl with
  | ret u => obtain ⟨v, σ', H', J, rv, q⟩ := hs; exact fin J rv q
  | next => obtain ⟨σ', H', J, q⟩ := hs; exact fin (v := V.non) (u := Value.none) J rfl q
  | brk => obtain ⟨_, _, _, q⟩ := hs; exact False.elim q
  | cont => obtain ⟨_, _, _, q⟩ := hs; exact False.elim q
theorem okR {x qual : Str} {st : Stmt} {N : List Str} (F : Fun K x qual st f fd) (S : FnScope N ps (defScope st)) (len : ∀ vs H Q E, sp vs H Q E → vs.length = ps.length)
    (hbody : ∀ (cdv : Value) (A : Around) (outer : List Env) (s : Shared) (H : Hp) (vs : List V) (Q : VK) (E : XK), Room k (A.deeper (envOfC qual (defScope st) s.heap.objs.size f cdv)) → sp vs H Q E →
      ∃ t, PSs (cxOf CX P w K mg base N qual (defScope st) f cdv A outer s H E) (defBody st) t ∧ t { nx := fun _ H' => Q .non H', rt := Q } (L2.start N vs) H) : FnOk P w K mg base CX (k + 1) f fd ps sp := by
  obtain ⟨oc, od, kV, doc, pm, an, cdv, ct, osl, rfl, lk, hcd⟩ := F.ex
  exact fnr_of lk hcd S len fun A outer s H vs Q E hr hsp => hbody cdv A outer s H vs Q E hr hsp
end
section
variable {X : Cx} {CX : CXT} {k : Nat} {f : Addr} {fd : FuncData} {ps : List Str} {sp : Sp} {dvs : List V} {ds : List Value} {E : L2.St → XK} {x : Str} {p pos : Pos} {e : Expr} {es : List Expr} {t : TA}
theorem run_fnSD {pins : List (Addr × Obj)} {σ : L2.St} {H : Hp} {s : Shared} {Q : VK} {us : List Value} {vs : List V} (F : FnOk X.prog X.w X.K X.mg X.base CX k f fd ps sp) (hr : Room k X.A) (hb : Binds X.K fd ps ds) (hd : Vals dvs ds) (hx : PassesAt CX X σ (E σ))
    (I : Inv X pins σ H s) (r : Vals vs us) (h : sp (vs ++ dvs) H Q (E σ)) : wpAny (model X.prog X.w) X.A (call (.ref f) us) (EP X pins σ Q) X.xe s := by
  have r2 : Vals (vs ++ dvs) (us ++ ds) := r.append hd
  refine wpAny_call (codeAny_mono (F.run X.A X.stack s H ⟨us, []⟩ (us ++ ds) (vs ++ dvs) Q (E σ) hr I.env0 (hb s us I.kIn (by rw [← r2.length]; exact F.len _ _ _ _ h)) r2 h) fun r s' hq => ?_)
  cases r with
  | error e => exact hx pins H s e s' I hq
  | ok fl =>
    cases fl with
    | ret u => exact I.after hq
    | next => exact False.elim hq
    | brk => exact False.elim hq
    | cont => exact False.elim hq
theorem pe_callSD (F : FnOk X.prog X.w X.K X.mg X.base CX k f fd ps sp) (hr : Room k X.A) (hg : Gl X x) (hm : X.mg x = some (.ref f)) (hk : PySem.W.keepIn X.K (.ref f) = true) (hb : Binds X.K fd ps ds) (hd : Vals dvs ds) (hx : ∀ σ, PassesAt CX X σ (E σ))
    (ha : PA X (e :: es) t) (hdb : (x == ("__debug__" : Str)) = false := by decide) (he : starEach (e :: es) X.env = (false, eval e X.env) :: starEach es X.env := by rfl) (hpl : (backTo pos (starEach es X.env)).any (·.1) = false := by rfl) :
    PE X (.Call (.Name x p) (e :: es) [] pos) (tCallSD sp dvs E t) := by
  refine ⟨fun pins s σ H Q I h => ?_⟩
  refine wpAny_Call_Name_kw (ld_glob I hg hm ?_ hdb)
  exact PySem.W.callWith_K (h₀ := X.base) I.ok.mod.kin hk (thn (ha.run pos pins s σ H _ I h) fun us s1 ⟨vs, H1, I1, r, q⟩ => ⟨I1.kIn, run_fnSD F hr hb hd (hx σ) I1 r q⟩) he hpl
end
end Fz
namespace Fz
open PySem L2
abbrev Fn := List R → Option (Oc R × List R)
def Okf (T : Tab) (o : Oc R) (rs : List R) (vs : List V) (B F : Hp) (Q : VK) (E : XK) : Prop := match o with
  | .v r => ∀ v B' H', Ex B B' → Sim T (some r :: rs.map some) (some v :: vs.map some) B' F H' → Q v H'
  | .x c => ∀ (d : DN) B' H', Ex B B' → Sim T (rs.map some) (vs.map some) B' F H' → E (.ref (T.cls c)) d.1 H'
def sp (T : Tab) (n : Nat) (f : Fn) : Sp := fun vs H Q E => vs.length = n ∧ ∃ rs B F o rs', Sim T (rs.map some) (vs.map some) B F H ∧ f rs = some (o, rs') ∧ Okf T o rs' vs B F Q E
theorem sp_sub {T : Tab} {n : Nat} {f g : Fn} (h : ∀ rs o, g rs = some o → f rs = some o) : ∀ vs H Q E, sp T n g vs H Q E → sp T n f vs H Q E :=
  fun vs H Q E ⟨hl, rs, B, F, o, rs', S, e, k⟩ => ⟨hl, rs, B, F, o, rs', S, h _ _ e, k⟩
theorem fn_sub {T : Tab} {n : Nat} {f g : Fn} {P : Program} {w : World} {mg : Str → Option Value} {base : Heap} {CX : CXT} {k : Nat} {a : Addr} {fd : FuncData} {ps : List Str} (h : FnOk P w T.K mg base CX k a fd ps (sp T n f)) (hg : ∀ rs o, g rs = some o → f rs = some o) : FnOk P w T.K mg base CX k a fd ps (sp T n g) :=
  h.imp (sp_sub hg)
def isD : R → Bool
  | .d _ => true
  | _ => false
def outs (kp : Nat → Bool) : Nat → List R → Sl → Option (List R)
  | _, [], _ => some []
  | i, r :: rs, s :: st => match (if kp i = true then s else if isD r = true then some r else none), outs kp (i + 1) rs st with
    | some q, some qs => some (q :: qs)
    | _, _ => none
  | _, _ :: _, [] => none
def fnEnd (kp : Nat → Bool) (rs : List R) (r : Oc R) (s : Sl) : Option (Oc R × List R) := (outs kp 0 rs s).map fun qs => (r, qs)
def fnOf (n N : Nat) (kp : Nat → Bool) (body : MS) : Fn := fun rs => if rs.length = n then
  match body (rs.map some ++ List.replicate (N - n) none) with
  | some (.rt r, s) => fnEnd kp rs (.v r) s
  | some (.nx, s) => fnEnd kp rs (.v (.d .non)) s
  | some (.x c, s) => fnEnd kp rs (.x c) s
  | _ => none
  else none
section
variable {T : Tab} {E : L2.St → XK} {kp : Nat → Bool} {st : Sl} {σ σ' : St} {B F H B' H' : Hp}
theorem sim_pad (S : Sim T st σ B F H) (k : Nat) : Sim T (st ++ List.replicate k none) (σ ++ List.replicate k none) B F H := by
  have ln := S.len
  have inv : ∀ {i : Nat} {r : R}, (st ++ List.replicate k none)[i]? = some (some r) → i < st.length ∧ st[i]? = some (some r) := fun {i r} h => by
    by_cases hi : i < st.length
    · rw [List.getElem?_append_left hi] at h; exact ⟨hi, h⟩
    · rw [List.getElem?_append_right (by omega), List.getElem?_replicate] at h
      split at h <;> cases h
  refine ⟨S.exB, S.exF, S.dis, S.tup, by simp [ln], fun i r h => ?_, fun i r v a h1 h2 h3 => ?_, fun i j r q v u a n h1 h2 h3 h4 h5 h6 => ?_⟩
  · obtain ⟨hi, h⟩ := inv h
    obtain ⟨v, a, b⟩ := S.rel i r h
    exact ⟨v, by rw [List.getElem?_append_left (by omega)]; exact a, b⟩
  · obtain ⟨hi, h1⟩ := inv h1
    rw [List.getElem?_append_left (by omega)] at h2
    exact S.own i r v a h1 h2 h3
  · obtain ⟨hi, h1⟩ := inv h1
    obtain ⟨hj, h3⟩ := inv h3
    rw [List.getElem?_append_left (by omega)] at h2 h4
    exact S.sep i j r q v u a n h1 h2 h3 h4 h5 h6
theorem outs_get : ∀ {rs qs : List R} {s : Sl} {i : Nat}, outs kp i rs s = some qs → qs.length = rs.length ∧ ∀ (j : Nat) q, qs[j]? = some q → (kp (i + j) = true ∧ s[j]? = some (some q)) ∨ (rs[j]? = some q ∧ isD q = true)
  | [], qs, s, i, h => by
    unfold outs at h
    cases h
    exact ⟨rfl, fun j q h => by simp at h⟩
  | r :: rs, qs, [], i, h => by unfold outs at h; cases h
  | r :: rs, qs, s :: st, i, h => by
    unfold outs at h
    split at h
    · rename_i q qs' e1 e2
      cases h
      obtain ⟨l, k⟩ := outs_get e2
      refine ⟨by simp [l], fun j q' hj => ?_⟩
      cases j with
      | zero =>
        simp at hj
        subst hj
        split at e1
        · rename_i hk; exact .inl ⟨hk, by simp [e1]⟩
        · split at e1
          · rename_i hd; cases e1; exact .inr ⟨rfl, hd⟩
          · cases e1
      | succ j =>
        have := k j q' (by simpa using hj)
        rw [show i + 1 + j = i + (j + 1) by omega] at this
        simpa using this
    · cases h
theorem sim_outs {rs qs : List R} {vs : List V} {s : Sl} {B0 H0 : Hp} {σ1 : St} {k : Nat} (S0 : Sim T (rs.map some) (vs.map some) B0 F H0) (e : Ex B0 B) (S : Sim T s σ B F H) (K : Kp kp (vs.map some ++ List.replicate k none) σ) (h : outs kp 0 rs s = some qs)
    (w : ∀ top : Option (R × V), True) : Sim T (qs.map some) (vs.map some) B F H := by
  obtain ⟨l, g⟩ := outs_get h
  have l0 : rs.length = vs.length := by have := S0.len; simpa using this
  have at_ : ∀ {j : Nat} {q : R}, (qs.map some)[j]? = some (some q) → j < vs.length ∧ ((kp j = true ∧ s[j]? = some (some q)) ∨ (rs[j]? = some q ∧ isD q = true)) := fun {j q} hj => by
    rw [List.getElem?_map] at hj
    cases e : qs[j]? with
    | none => rw [e] at hj; cases hj
    | some q' =>
      rw [e] at hj; cases hj
      have hl := (List.getElem?_eq_some_iff.mp e).1
      have := g j q e
      rw [Nat.zero_add] at this
      exact ⟨by omega, this⟩
  have val : ∀ {j : Nat}, j < vs.length → kp j = true → σ[j]? = (vs.map some)[j]? := fun {j} hj hk => by
    rw [K j hk, List.getElem?_append_left (by simpa using hj)]
  have dd : ∀ {q : R} {v : V} {a : Addr}, isD q = true → Ow H q v a → False := fun {q v a} h o => by cases q <;> first | exact o.elim | cases h
  refine ⟨S.exB, S.exF, S.dis, S.tup, by simp [l, l0], fun j q hj => ?_, fun j q v a h1 h2 h3 => ?_, fun i j r q v u a n h1 h2 h3 h4 h5 h6 => ?_⟩
  · obtain ⟨hl, hj | ⟨hj, hd⟩⟩ := at_ hj
    · obtain ⟨v, a, b⟩ := S.rel j q hj.2
      exact ⟨v, by rw [← val hl hj.1]; exact a, b⟩
    · obtain ⟨v, a, b⟩ := S0.rel j q (by rw [List.getElem?_map, hj]; rfl)
      refine ⟨v, a, ?_⟩
      cases q with
      | d x => exact Rep.mono e x b
      | _ => cases hd
  · obtain ⟨hl, hj | ⟨hj, hd⟩⟩ := at_ h1
    · exact S.own j q v a hj.2 (by rw [val hl hj.1]; exact h2) h3
    · exact (dd hd h3).elim
  · obtain ⟨hl, hi | ⟨hi, hd⟩⟩ := at_ h1
    · obtain ⟨hl', hj | ⟨hj, hd⟩⟩ := at_ h3
      · exact S.sep i j r q v u a n hi.2 (by rw [val hl hi.1]; exact h2) hj.2 (by rw [val hl' hj.1]; exact h4) h5 h6
      · exact (dd hd h6).elim
    · exact (dd hd h5).elim
theorem sim_outsT {rs qs : List R} {vs : List V} {s : Sl} {B0 H0 : Hp} {k : Nat} {r : R} {v : V} (S0 : Sim T (rs.map some) (vs.map some) B0 F H0) (e : Ex B0 B) (S : Sim T (some r :: s) (some v :: σ) B F H) (K : Kp kp (vs.map some ++ List.replicate k none) σ) (h : outs kp 0 rs s = some qs) :
    Sim T (some r :: qs.map some) (some v :: vs.map some) B F H := by
  have P := sim_outs (σ1 := []) S0 e S.pop K h fun _ => trivial
  obtain ⟨l, g⟩ := outs_get h
  have l0 : rs.length = vs.length := by have := S0.len; simpa using this
  have at_ : ∀ {j : Nat} {q : R}, (qs.map some)[j]? = some (some q) → j < vs.length ∧ ((kp j = true ∧ s[j]? = some (some q)) ∨ isD q = true) := fun {j q} hj => by
    rw [List.getElem?_map] at hj
    cases e : qs[j]? with
    | none => rw [e] at hj; cases hj
    | some q' =>
      rw [e] at hj; cases hj
      have hl := (List.getElem?_eq_some_iff.mp e).1
      have := g j q e
      rw [Nat.zero_add] at this
      exact ⟨by omega, this.elim .inl fun z => .inr z.2⟩
  have val : ∀ {j : Nat}, j < vs.length → kp j = true → σ[j]? = (vs.map some)[j]? := fun {j} hj hk => by
    rw [K j hk, List.getElem?_append_left (by simpa using hj)]
  have dd : ∀ {q : R} {v : V} {a : Addr}, isD q = true → Ow H q v a → False := fun {q v a} h o => by cases q <;> first | exact o.elim | cases h
  have cross : ∀ {j : Nat} {q : R} {u : V} {a : Addr}, (qs.map some)[j]? = some (some q) → (vs.map some)[j]? = some (some u) → Ow H r v a → Ow H q u a → False := fun {j q u a} h1 h2 h3 h4 => by
    obtain ⟨hl, hj | hd⟩ := at_ h1
    · exact S.sep 0 (j + 1) r q v u a (by omega) rfl rfl (by simpa using hj.2) (by rw [List.getElem?_cons_succ, val hl hj.1]; exact h2) h3 h4
    · exact dd hd h4
  refine ⟨P.exB, P.exF, P.dis, P.tup, by have := P.len; simpa using this, fun j q hj => ?_, fun j q u a h1 h2 h3 => ?_, fun i j p q u u' a n h1 h2 h3 h4 h5 h6 => ?_⟩
  · cases j with
    | zero => cases hj; exact ⟨v, rfl, S.top⟩
    | succ j => obtain ⟨u, a, b⟩ := P.rel j q (by simpa using hj); exact ⟨u, by simpa using a, b⟩
  · cases j with
    | zero => cases h1; cases h2; exact S.own 0 r v a rfl rfl h3
    | succ j => exact P.own j q u a (by simpa using h1) (by simpa using h2) h3
  · cases i with
    | zero =>
      cases h1; cases h2
      cases j with
      | zero => exact n rfl
      | succ j => exact cross (by simpa using h3) (by simpa using h4) h5 h6
    | succ i =>
      cases j with
      | zero => cases h3; cases h4; exact cross (by simpa using h1) (by simpa using h2) h6 h5
      | succ j => exact P.sep i j p q u u' a (by omega) (by simpa using h1) (by simpa using h2) (by simpa using h3) (by simpa using h4) h5 h6
theorem read_fn {E : XK} {n : Nat} {N : List Str} {t : TS} {f : MS} {vs : List V} {H : Hp} {Q : VK} (hp : sp T n (fnOf n N.length kp f) vs H Q E) (h : SemS T (fun _ => E) kp t f) : t { nx := fun _ H' => Q .non H', rt := Q } (L2.start N vs) H := by
  obtain ⟨hl, rs, B, F, o, rs', S, e, k⟩ := hp
  unfold fnOf at e
  split at e
  · rename_i hn
    have S1 := sim_pad S (N.length - n)
    have es : L2.start N vs = vs.map some ++ List.replicate (N.length - n) none := by unfold L2.start; rw [hl]
    rw [es]
    split at e
    · rename_i r s eb
      unfold fnEnd at e
      cases eo : outs kp 0 rs s with
      | none => rw [eo] at e; cases e
      | some qs =>
        rw [eo] at e; cases e
        exact h _ _ B F H S1 _ _ eb _ fun v σ' B' H' e1 k1 S' => k v B' H' e1 (sim_outsT S e1 S' k1 eo)
    · rename_i s eb
      unfold fnEnd at e
      cases eo : outs kp 0 rs s with
      | none => rw [eo] at e; cases e
      | some qs =>
        rw [eo] at e; cases e
        exact h _ _ B F H S1 _ _ eb _ fun σ' B' H' e1 k1 S' => k .non B' H' e1 (sim_outsT S e1 (S'.push rfl) k1 eo)
    · rename_i c s eb
      unfold fnEnd at e
      cases eo : outs kp 0 rs s with
      | none => rw [eo] at e; cases e
      | some qs =>
        rw [eo] at e; cases e
        exact h _ _ B F H S1 _ _ eb _ fun d σ' B' H' e1 k1 S' => k d B' H' e1 (sim_outs (σ1 := []) S e1 S' k1 eo fun _ => trivial)
    · cases e
  · cases e
inductive Arg where
  | v (x : D) | o (i : Nat)
def ArgIs (T : Tab) (B : Hp) (σ : St) : Arg → V → Prop
  | .v x, v => Rep T B x v
  | .o i, v => σ[i]? = some (some v)
def ArgsAre (T : Tab) (B : Hp) (σ : St) : List Arg → List V → Prop := Paired (ArgIs T B σ)
theorem ArgsAre.mono (e : Ex B B') : ∀ {as : List Arg} {vs : List V}, ArgsAre T B σ as vs → ArgsAre T B' σ as vs
  | _, _, .nil => .nil
  | a :: _, _, .cons h t => .cons (by cases a with | v x => exact Rep.mono e x h | o i => exact h) (ArgsAre.mono e t)
def SemAA (T : Tab) (E : L2.St → XK) (ta : TA) (f : M (List Arg)) : Prop := ∀ st σ B F H, Sim T st σ B F H → ∀ o s, f st = some (o, s) → ∀ Q : List V → Hp → Prop, Okx T (E σ) o s σ B F (fun as B' H' => ∀ vs, ArgsAre T B' σ as vs → Q vs H') → ta σ H Q
def aNil : M (List Arg) := ret []
def aV (fa : M D) (fr : M (List Arg)) : M (List Arg) := bnd fa fun x => bnd fr fun xs => ret (.v x :: xs)
def aO (i : Nat) (fr : M (List Arg)) : M (List Arg) := fun st => match st[i]? with
  | some (some _) => bnd fr (fun xs => ret (.o i :: xs)) st
  | _ => none
theorem semAA_nil : SemAA T E tNil aNil := by
  intro st σ B F H S o s h Q hQ
  cases h
  exact hQ B H (Ex.refl B) S [] .nil
theorem semAA_v {te : TE} {ta : TA} {fa : M D} {fr : M (List Arg)} (ha : SemE T E te fa) (hr : SemAA T E ta fr) : SemAA T E (tCons te ta) (aV fa fr) := by
  intro st σ B F H S o s h Q hQ
  refine okx_bnd h hQ (fun o1 s1 e1 q => ha st σ B F H S o1 s1 e1 _ q) fun a s1 B1 H1 _ h2 e1 S1 hQ1 v hv => ?_
  refine okx_bnd h2 hQ1 (fun o1 s2 e2 q => hr s1 σ B1 F H1 S1 o1 s2 e2 _ q) fun b s2 B2 H2 _ h3 e2 S2 hQ2 us hus => ?_
  cases h3
  exact hQ2 B2 H2 (Ex.refl _) S2 (v :: us) (.cons (Rep.mono e2 a hv) hus)
def getA : List Arg → Sl → Option (List R)
  | [], _ => some []
  | .v x :: as, st => (getA as st).map (.d x :: ·)
  | .o i :: as, st => match st[i]?, getA as st with
    | some (some r), some rs => some (r :: rs)
    | _, _ => none
def putA : List Arg → List R → Sl → Sl
  | .o i :: as, r :: rs, st => putA as rs (st.set i (some r))
  | .v _ :: as, _ :: rs, st => putA as rs st
  | _, _, st => st
def owns : List Arg → List Nat
  | [] => []
  | .o i :: as => i :: owns as
  | .v _ :: as => owns as
theorem getA_get : ∀ {as : List Arg} {st : Sl} {rs : List R}, getA as st = some rs → rs.length = as.length ∧ ∀ (k : Nat) a, as[k]? = some a → match a with
    | .v x => rs[k]? = some (.d x)
    | .o i => ∃ r, rs[k]? = some r ∧ st[i]? = some (some r)
  | [], st, rs, h => by cases h; exact ⟨rfl, fun k a h => by simp at h⟩
  | .v x :: as, st, rs, h => by
    unfold getA at h
    cases e : getA as st with
    | none => rw [e] at h; cases h
    | some r =>
      rw [e] at h; cases h
      obtain ⟨l, g⟩ := getA_get e
      refine ⟨by simp [l], fun k a hk => ?_⟩
      cases k with
      | zero => simp at hk; subst hk; rfl
      | succ k => have := g k a (by simpa using hk); simpa using this
  | .o i :: as, st, rs, h => by
    unfold getA at h
    split at h
    · rename_i r rs' e1 e2
      cases h
      obtain ⟨l, g⟩ := getA_get e2
      refine ⟨by simp [l], fun k a hk => ?_⟩
      cases k with
      | zero => simp at hk; subst hk; exact ⟨r, rfl, e1⟩
      | succ k => have := g k a (by simpa using hk); simpa using this
    · cases h
theorem mem_owns : ∀ {as : List Arg} {i : Nat}, i ∈ owns as → ∃ k : Nat, as[k]? = some (Arg.o i)
  | [], i, h => by simp [owns] at h
  | .o j :: as, i, h => by
    rcases List.mem_cons.mp h with rfl | h
    · exact ⟨0, rfl⟩
    · obtain ⟨k, e⟩ := mem_owns h; exact ⟨k + 1, e⟩
  | .v x :: as, i, h => by obtain ⟨k, e⟩ := mem_owns (as := as) h; exact ⟨k + 1, e⟩
theorem owns_mem : ∀ {as : List Arg} {i k : Nat}, as[k]? = some (Arg.o i) → i ∈ owns as
  | [], i, k, h => by simp at h
  | .o j :: as, i, 0, h => by simp at h; subst h; exact List.mem_cons_self
  | .o j :: as, i, k + 1, h => List.mem_cons_of_mem _ (owns_mem (as := as) (k := k) (by simpa using h))
  | .v x :: as, i, 0, h => by simp at h
  | .v x :: as, i, k + 1, h => owns_mem (as := as) (k := k) (by simpa using h)
theorem putA_other : ∀ {as : List Arg} {rs : List R} {st : Sl} {i : Nat}, i ∉ owns as → (putA as rs st)[i]? = st[i]?
  | [], rs, st, i, h => by cases rs <;> rfl
  | .o j :: as, [], st, i, h => rfl
  | .v x :: as, [], st, i, h => rfl
  | .o j :: as, r :: rs, st, i, h => by
    simp only [owns, List.mem_cons, not_or] at h
    show (putA as rs (st.set j (some r)))[i]? = _
    rw [putA_other h.2, List.getElem?_set_ne (fun e => h.1 e.symm)]
  | .v x :: as, r :: rs, st, i, h => putA_other (as := as) h
theorem putA_length : ∀ {as : List Arg} {rs : List R} {st : Sl}, (putA as rs st).length = st.length
  | [], rs, st => by cases rs <;> rfl
  | .o j :: as, [], st => rfl
  | .v x :: as, [], st => rfl
  | .o j :: as, r :: rs, st => by show (putA as rs (st.set j (some r))).length = _; rw [putA_length, List.length_set]
  | .v x :: as, r :: rs, st => putA_length (as := as)
theorem putA_own : ∀ {as : List Arg} {rs : List R} {st : Sl} {i k : Nat} {q : R}, (owns as).Nodup → as[k]? = some (Arg.o i) → i < st.length → rs[k]? = some q → (putA as rs st)[i]? = some (some q)
  | [], rs, st, i, k, q, _, h, _, _ => by simp at h
  | _ :: as, [], st, i, k, q, _, _, _, h => by simp at h
  | .o j :: as, r :: rs, st, i, 0, q, n, h, l, g => by
    simp at h g; subst h; subst g
    show (putA as rs (st.set j (some r)))[j]? = _
    rw [putA_other (List.nodup_cons.mp n).1, List.getElem?_set_self l]
  | .o j :: as, r :: rs, st, i, k + 1, q, n, h, l, g => by
    show (putA as rs (st.set j (some r)))[i]? = _
    exact putA_own (k := k) (List.nodup_cons.mp n).2 (by simpa using h) (by simpa using l) (by simpa using g)
  | .v x :: as, r :: rs, st, i, 0, q, n, h, l, g => by simp at h
  | .v x :: as, r :: rs, st, i, k + 1, q, n, h, l, g => putA_own (as := as) (k := k) n (by simpa using h) l (by simpa using g)
def callF (f : Fn) (as : List Arg) : M R := fun st => match getA as st with
  | some rs => if (owns as).Nodup then (match f rs with
    | some (o, rs') => if rs'.length = rs.length then some (o, putA as rs' st) else none
    | none => none) else none
  | none => none
def rCall (n : Nat) (f : Fn) (ds : List D) (fa : M (List Arg)) : M R := bnd fa fun as => if as.length + ds.length = n then callF f (as ++ ds.map Arg.v) else fun _ => none
open Classical in
/-- what the caller's other names own -/
noncomputable def rest (st : Sl) (σ : St) (as : List Arg) (F H : Hp) : Hp := fun a => if (∃ (j : Nat) (r : R) (v : V), st[j]? = some (some r) ∧ σ[j]? = some (some v) ∧ Ow H r v a ∧ j ∉ owns as) then H a else F a
theorem paired_get {α β : Type} {R : α → β → Prop} : ∀ {xs : List α} {ys : List β} {k : Nat}, Paired R xs ys → ∀ {a : α}, xs[k]? = some a → ∃ b, ys[k]? = some b ∧ R a b
  | _, _, _, .nil, _, h => by simp at h
  | _, _, 0, .cons r t, _, h => by simp at h; subst h; exact ⟨_, rfl, r⟩
  | _, _, k + 1, .cons r t, _, h => by obtain ⟨b, e, q⟩ := paired_get (k := k) t (by simpa using h); exact ⟨b, by simpa using e, q⟩
section
variable {as : List Arg} {vs : List V} {rs : List R}
theorem rest_hit (S : Sim T st σ B F H) {j : Nat} {r : R} {v : V} {a : Addr} (h1 : st[j]? = some (some r)) (h2 : σ[j]? = some (some v)) (h3 : Ow H r v a) (h4 : j ∉ owns as) : rest st σ as F H a = H a := by
  unfold rest; rw [if_pos ⟨j, r, v, h1, h2, h3, h4⟩]
theorem rest_old (S : Sim T st σ B F H) {a : Addr} {o : HO} (h : F a = some o) : rest st σ as F H a = some o := by
  unfold rest
  rw [if_neg]
  · exact h
  · rintro ⟨j, r, v, h1, h2, h3, _⟩
    have := (S.own j r v a h1 h2 h3).2
    rw [h] at this; cases this
theorem sim_args (S : Sim T st σ B F H) (hv : ArgsAre T B σ as vs) (hg : getA as st = some rs) (nd : (owns as).Nodup) : Sim T (rs.map some) (vs.map some) B (rest st σ as F H) H := by
  obtain ⟨lr, gr⟩ := getA_get hg
  have lv := Paired.length hv
  have at_ : ∀ {k : Nat} {r : R}, (rs.map some)[k]? = some (some r) → ∃ a v, as[k]? = some a ∧ vs[k]? = some v ∧ ArgIs T B σ a v ∧ ((∃ x, a = .v x ∧ r = .d x) ∨ ∃ i, a = .o i ∧ st[i]? = some (some r)) := fun {k r} h => by
    rw [List.getElem?_map] at h
    cases e : rs[k]? with
    | none => rw [e] at h; cases h
    | some r' =>
      rw [e] at h; cases h
      have hk : k < as.length := by have := (List.getElem?_eq_some_iff.mp e).1; omega
      have ea : as[k]? = some as[k] := List.getElem?_eq_getElem hk
      generalize as[k] = a at ea
      obtain ⟨v, ev, iv⟩ := paired_get hv ea
      refine ⟨a, v, ea, ev, iv, ?_⟩
      have g := gr k a ea
      cases a with
      | v x => have g : rs[k]? = some (.d x) := g; rw [e] at g; cases g; exact .inl ⟨x, rfl, rfl⟩
      | o i => obtain ⟨r2, g1, g2⟩ := g; rw [e] at g1; cases g1; exact .inr ⟨i, rfl, g2⟩
  refine ⟨S.exB, fun a o h => ?_, fun a o h => ?_, S.tup, by simp [lr, lv], fun k r h => ?_, fun k r v a h1 h2 h3 => ?_, fun k l r q v u a n h1 h2 h3 h4 h5 h6 => ?_⟩
  · unfold rest at h
    split at h
    · exact h
    · exact S.exF a o h
  · unfold rest at h
    split at h
    · rename_i z
      obtain ⟨j, r, v, h1, h2, h3, _⟩ := z
      exact (S.own j r v a h1 h2 h3).1
    · exact S.dis a o h
  · obtain ⟨a, v, ea, ev, iv, hc⟩ := at_ h
    refine ⟨v, by rw [List.getElem?_map, ev]; rfl, ?_⟩
    rcases hc with ⟨x, rfl, rfl⟩ | ⟨i, rfl, hi⟩
    · exact iv
    · obtain ⟨v', h1, h2⟩ := S.rel i r hi
      have iv' : σ[i]? = some (some v) := iv
      rw [h1] at iv'; cases iv'
      exact h2
  · obtain ⟨a', v', ea, ev, iv, hc⟩ := at_ h1
    rw [List.getElem?_map, ev] at h2; cases h2
    rcases hc with ⟨x, rfl, rfl⟩ | ⟨i, rfl, hi⟩
    · exact h3.elim
    · have iv : σ[i]? = some (some v) := iv
      obtain ⟨z1, z2⟩ := S.own i r v a hi iv h3
      refine ⟨z1, ?_⟩
      unfold rest
      rw [if_neg]
      · exact z2
      · rintro ⟨j, q, u, g1, g2, g3, g4⟩
        have hne : i ≠ j := by rintro rfl; exact g4 (owns_mem ea)
        exact S.sep i j r q v u a hne hi iv g1 g2 h3 g3
  · obtain ⟨a1, v1, ea, ev, iv, hc⟩ := at_ h1
    obtain ⟨a2, v2, eb, ew, iw, hd⟩ := at_ h3
    rw [List.getElem?_map, ev] at h2; cases h2
    rw [List.getElem?_map, ew] at h4; cases h4
    rcases hc with ⟨x, rfl, rfl⟩ | ⟨i, rfl, hi⟩
    · exact h5.elim
    · rcases hd with ⟨x, rfl, rfl⟩ | ⟨j, rfl, hj⟩
      · exact h6.elim
      · have hne : i ≠ j := by
          rintro rfl
          have aux : ∀ {as : List Arg} {k l : Nat}, (owns as).Nodup → as[k]? = some (Arg.o i) → as[l]? = some (Arg.o i) → k = l := by
            intro as
            induction as with
            | nil => intro k l _ h; simp at h
            | cons b as ih =>
              intro k l nd h1 h2
              cases b with
              | v x =>
                cases k with
                | zero => simp at h1
                | succ k => cases l with
                  | zero => simp at h2
                  | succ l => exact congrArg Nat.succ (ih nd (by simpa using h1) (by simpa using h2))
              | o m =>
                have nd' := List.nodup_cons.mp (show (m :: owns as).Nodup from nd)
                cases k with
                | zero =>
                  simp at h1; subst h1
                  cases l with
                  | zero => rfl
                  | succ l => exact (nd'.1 (owns_mem (k := l) (by simpa using h2))).elim
                | succ k =>
                  cases l with
                  | zero => simp at h2; subst h2; exact (nd'.1 (owns_mem (k := k) (by simpa using h1))).elim
                  | succ l => exact congrArg Nat.succ (ih nd'.2 (by simpa using h1) (by simpa using h2))
          exact n (aux nd ea eb)
        exact S.sep i j r q v u a hne hi iv hj iw h5 h6
theorem sim_ret (S : Sim T st σ B F H) (hv : ArgsAre T B σ as vs) (hg : getA as st = some rs) (nd : (owns as).Nodup) {rs' : List R} (hl : rs'.length = rs.length) (e : Ex B B') (S' : Sim T (rs'.map some) (vs.map some) B' (rest st σ as F H) H') :
    Sim T (putA as rs' st) σ B' F H' ∧ (∀ a, rest st σ as F H a = none → F a = none) ∧
      ∀ {i : Nat} {r : R} {v : V} {a : Addr}, (putA as rs' st)[i]? = some (some r) → σ[i]? = some (some v) → Ow H' r v a → (∃ k : Nat, (rs'.map some)[k]? = some (some r) ∧ (vs.map some)[k]? = some (some v) ∧ as[k]? = some (Arg.o i)) ∨ (∃ o, rest st σ as F H a = some o) := by
  obtain ⟨lr, gr⟩ := getA_get hg
  have lv := Paired.length hv
  have at_ : ∀ {i : Nat} {r : R}, (putA as rs' st)[i]? = some (some r) → (∃ (k : Nat) (v : V), as[k]? = some (Arg.o i) ∧ rs'[k]? = some r ∧ vs[k]? = some v ∧ σ[i]? = some (some v)) ∨ (i ∉ owns as ∧ st[i]? = some (some r)) := fun {i r} h => by
    by_cases hm : i ∈ owns as
    · obtain ⟨k, ek⟩ := mem_owns hm
      obtain ⟨v, ev, iv⟩ := paired_get hv ek
      have hk : k < rs'.length := by have := (List.getElem?_eq_some_iff.mp ek).1; omega
      have er : rs'[k]? = some rs'[k] := List.getElem?_eq_getElem hk
      have hi : i < st.length := by have := (List.getElem?_eq_some_iff.mp h).1; rw [putA_length] at this; exact this
      rw [putA_own nd ek hi er] at h
      cases h
      exact .inl ⟨k, v, ek, er, ev, iv⟩
    · rw [putA_other hm] at h
      exact .inr ⟨hm, h⟩
  have rn : ∀ a, rest st σ as F H a = none → F a = none := fun a h => by
    cases q : F a with
    | none => rfl
    | some o => rw [rest_old S q] at h; cases h
  have hit : ∀ {i : Nat} {r : R} {v : V} {a : Addr}, i ∉ owns as → st[i]? = some (some r) → σ[i]? = some (some v) → Ow H r v a → ∃ o, rest st σ as F H a = some o := fun {i r v a} h1 h2 h3 h4 => by
    rw [rest_hit S h2 h3 h4 h1]
    obtain ⟨v', h5, h6⟩ := S.rel i r h2
    rw [h3] at h5; cases h5
    exact (h6.ow h4).1
  have tk : Tk H H' := fun a xs h => S'.exB a _ (e a _ (S.tup a xs h))
  have bk : ∀ {i : Nat} {r : R} {v : V} {a : Addr}, i ∉ owns as → st[i]? = some (some r) → σ[i]? = some (some v) → Ow H' r v a → Ow H r v a := fun {i r v a} h1 h2 h3 h4 => by
    obtain ⟨v', h5, h6⟩ := S.rel i r h2
    rw [h3] at h5; cases h5
    exact Ow.back tk h6 (fun p o g1 g2 => S'.exF p o (by rw [rest_hit S h2 h3 g1 h1]; exact g2)) h4
  refine ⟨⟨S'.exB, fun a o h => S'.exF a o (rest_old S h), fun a o h => S'.dis a o (rest_old S h), S'.tup, by rw [putA_length]; exact S.len, fun i r h => ?_, fun i r v a h1 h2 h3 => ?_, fun i j r q v u a n h1 h2 h3 h4 h5 h6 => ?_⟩, rn, fun {i r v a} h1 h2 h3 => ?_⟩
  · rcases at_ h with ⟨k, v, ek, er, ev, es⟩ | ⟨hm, hs⟩
    · obtain ⟨v', h1, h2⟩ := S'.rel k r (by rw [List.getElem?_map, er]; rfl)
      rw [List.getElem?_map, ev] at h1; cases h1
      exact ⟨v, es, h2⟩
    · obtain ⟨v, h1, h2⟩ := S.rel i r hs
      refine ⟨v, h1, h2.keep e tk fun a o ho hh => ?_⟩
      exact S'.exF a o (by rw [rest_hit S hs h1 ho hm]; exact hh)
  · rcases at_ h1 with ⟨k, v', ek, er, ev, es⟩ | ⟨hm, hs⟩
    · rw [h2] at es; cases es
      obtain ⟨z1, z2⟩ := S'.own k r v a (by rw [List.getElem?_map, er]; rfl) (by rw [List.getElem?_map, ev]; rfl) h3
      exact ⟨z1, rn a z2⟩
    · have h3 := bk hm hs h2 h3
      obtain ⟨o, ho⟩ := hit hm hs h2 h3
      exact ⟨S'.dis a o ho, (S.own i r v a hs h2 h3).2⟩
  · rcases at_ h1 with ⟨k, v', ek, er, ev, es⟩ | ⟨hm, hs⟩
    · rw [h2] at es; cases es
      rcases at_ h3 with ⟨l, u', el, eq, eu, et⟩ | ⟨hm', hs'⟩
      · rw [h4] at et; cases et
        have hkl : k ≠ l := by rintro rfl; rw [ek] at el; cases el; exact n rfl
        exact S'.sep k l r q v u a hkl (by rw [List.getElem?_map, er]; rfl) (by rw [List.getElem?_map, ev]; rfl) (by rw [List.getElem?_map, eq]; rfl) (by rw [List.getElem?_map, eu]; rfl) h5 h6
      · obtain ⟨o, ho⟩ := hit hm' hs' h4 (bk hm' hs' h4 h6)
        have := (S'.own k r v a (by rw [List.getElem?_map, er]; rfl) (by rw [List.getElem?_map, ev]; rfl) h5).2
        rw [ho] at this; cases this
    · rcases at_ h3 with ⟨l, u', el, eq, eu, et⟩ | ⟨hm', hs'⟩
      · rw [h4] at et; cases et
        obtain ⟨o, ho⟩ := hit hm hs h2 (bk hm hs h2 h5)
        have := (S'.own l q u a (by rw [List.getElem?_map, eq]; rfl) (by rw [List.getElem?_map, eu]; rfl) h6).2
        rw [ho] at this; cases this
      · exact S.sep i j r q v u a n hs h2 hs' h4 (bk hm hs h2 h5) (bk hm' hs' h4 h6)
  · rcases at_ h1 with ⟨k, v', ek, er, ev, es⟩ | ⟨hm, hs⟩
    · rw [h2] at es; cases es
      exact .inl ⟨k, by rw [List.getElem?_map, er]; rfl, by rw [List.getElem?_map, ev]; rfl, ek⟩
    · exact .inr (hit hm hs h2 (bk hm hs h2 h3))
theorem okx_call {E : XK} (S : Sim T st σ B F H) (hv : ArgsAre T B σ as vs) {f : Fn} {o : Oc R} {s : Sl} (h : callF f as st = some (o, s)) {Q : VK} (hQ : Okr T E o s σ B F (fun v _ H' => Q v H')) : sp T vs.length f vs H Q E := by
  unfold callF at h
  split at h
  · rename_i rs hg
    split at h
    · rename_i nd
      split at h
      · rename_i o' rs' hf
        split at h
        · rename_i hl
          cases h
          refine ⟨rfl, rs, B, _, _, rs', sim_args S hv hg nd, hf, ?_⟩
          cases o with
          | v r =>
            intro v B' H' e S'
            obtain ⟨P, rn, who⟩ := sim_ret S hv hg nd hl e S'.pop
            refine hQ v B' H' e ⟨P.exB, P.exF, P.dis, P.tup, by have := P.len; simpa using this, fun i q hi => ?_, fun i q u a h1 h2 h3 => ?_, fun i j q p u w a n h1 h2 h3 h4 h5 h6 => ?_⟩
            · cases i with
              | zero => cases hi; exact ⟨v, rfl, S'.top⟩
              | succ i => obtain ⟨u, a, b⟩ := P.rel i q (by simpa using hi); exact ⟨u, by simpa using a, b⟩
            · cases i with
              | zero => cases h1; cases h2; obtain ⟨z1, z2⟩ := S'.own 0 r v a rfl rfl h3; exact ⟨z1, rn a z2⟩
              | succ i => exact P.own i q u a (by simpa using h1) (by simpa using h2) h3
            · have cross : ∀ {j : Nat} {q : R} {u : V}, (putA as rs' st)[j]? = some (some q) → σ[j]? = some (some u) → Ow H' r v a → Ow H' q u a → False := fun {j q u} g1 g2 g3 g4 => by
                rcases who g1 g2 g4 with ⟨k, y1, y2, _⟩ | ⟨o, ho⟩
                · exact S'.sep 0 (k + 1) r q v u a (by omega) rfl rfl (by simpa using y1) (by simpa using y2) g3 g4
                · have := (S'.own 0 r v a rfl rfl g3).2
                  rw [ho] at this; cases this
              cases i with
              | zero =>
                cases h1; cases h2
                cases j with
                | zero => exact n rfl
                | succ j => exact cross (by simpa using h3) (by simpa using h4) h5 h6
              | succ i =>
                cases j with
                | zero => cases h3; cases h4; exact cross (by simpa using h1) (by simpa using h2) h6 h5
                | succ j => exact P.sep i j q p u w a (by omega) (by simpa using h1) (by simpa using h2) (by simpa using h3) (by simpa using h4) h5 h6
          | x c =>
            intro d B' H' e S'
            exact hQ d B' H' e (sim_ret S hv hg nd hl e S').1
        · cases h
      · cases h
    · cases h
  · cases h
end
theorem args_app {as bs : List Arg} {vs ws : List V} (h : ArgsAre T B σ as vs) (g : ArgsAre T B σ bs ws) : ArgsAre T B σ (as ++ bs) (vs ++ ws) := by
  induction h with
  | nil => exact g
  | cons r _ ih => exact .cons r ih
theorem args_ds : ∀ {ds : List D} {ws : List V}, Reps T B ds ws → ArgsAre T B σ (ds.map Arg.v) ws
  | [], ws, h => by unfold Reps at h; subst h; exact .nil
  | d :: ds, ws, h => by
    unfold Reps at h
    obtain ⟨v, r, rfl, h1, h2⟩ := h
    exact .cons h1 (args_ds h2)
theorem semR_call {n : Nat} {f : Fn} {fa : M (List Arg)} {ta : TA} {ds : List D} {dvs : List V} (hd : ∀ B, Reps T B ds dvs) (ha : SemAA T E ta fa) : SemR T E (tCallSD (sp T n f) dvs E ta) (rCall n f ds fa) := by
  intro st σ B F H S o s h Q hQ
  rcases bnd_some h with ⟨c, e1, rfl⟩ | ⟨as, s1, e1, e2⟩
  · exact ha st σ B F H S _ _ e1 _ hQ
  · refine ha st σ B F H S _ _ e1 _ fun B1 H1 x1 S1 vs hvs => ?_
    have hQ1 : Okr T (E σ) o s σ B1 F (fun v _ H' => Q v H') := by
      cases o with
      | v r => exact fun v B2 H2 x2 S2 => hQ v B2 H2 (x1.trans x2) S2
      | x c => exact fun d B2 H2 x2 S2 => hQ d B2 H2 (x1.trans x2) S2
    split at e2
    · rename_i hn
      have hA := args_app hvs (args_ds (σ := σ) (hd B1))
      have h2 := okx_call S1 hA e2 hQ1
      have l := Paired.length hA
      rw [List.length_append, List.length_map, hn] at l
      rw [← l] at h2
      exact h2
    · cases e2
end
end Fz
set_option Elab.async false
set_option linter.all false
set_option maxRecDepth 100000
set_option maxHeartbeats 2000000
namespace Fz
open PySem L2
mutual
def py : D → PyData
  | .non => .none
  | .bl b => .bool b
  | .int i => .int i
  | .str s => .str s
  | .tup ds => .tuple (pys ds)
  | .lst ds => .list (pys ds)
  | .obj _ _ => .none
  | .dct _ _ => .none
  | .ext _ _ => .none
def pys : List D → List PyData
  | [] => []
  | d :: ds => py d :: pys ds
end
mutual
def plain : D → Bool
  | .tup ds => plains ds
  | .lst ds => plains ds
  | .obj _ _ => false
  | .dct _ _ => false
  | .ext _ _ => false
  | _ => true
def plains : List D → Bool
  | [] => true
  | d :: ds => plain d && plains ds
end
section
variable {T : Tab} {B H : Hp}
mutual
theorem dp_of (e : Ex B H) : ∀ (d : D) {v : V}, plain d = true → Rep T B d v → Dp T.K H v (py d)
  | .non, v, _, h => by cases (show v = .non from h); exact .non
  | .bl b, v, _, h => by cases (show v = .bl b from h); exact .bl b
  | .int i, v, _, h => by cases (show v = .int i from h); exact .int i
  | .str s, v, _, h => by obtain ⟨rfl, _⟩ := (show v = .str s ∧ _ from h); exact .str s
  | .tup ds, v, p, h => by
    unfold Rep at h
    unfold plain at p
    obtain ⟨a, xs, rfl, h2, h3⟩ := h
    exact .tup (e.tu h2).sq (dps_of e ds p h3)
  | .lst ds, v, p, h => by
    unfold Rep at h
    unfold plain at p
    obtain ⟨a, xs, rfl, h2, h3⟩ := h
    exact .lst (e.sqL h2) (dps_of e ds p h3)
  | .obj _ _, v, p, h => by simp [plain] at p
  | .dct _ _, v, p, h => by simp [plain] at p
  | .ext _ _, v, p, h => by simp [plain] at p
theorem dps_of (e : Ex B H) : ∀ (ds : List D) {vs : List V}, plains ds = true → Reps T B ds vs → DpAll T.K H vs (pys ds)
  | [], vs, _, h => by unfold Reps at h; subst h; exact .nil
  | d :: ds, vs, p, h => by
    unfold Reps at h
    unfold plains at p
    obtain ⟨v, r, rfl, h2, h3⟩ := h
    have p' := (Bool.and_eq_true _ _).mp p
    exact .cons (dp_of e d p'.1 h2) (dps_of e ds p'.2 h3)
end
mutual
theorem lay_of : ∀ (d : D) {v : V}, plain d = true → Rep T B d v → (py d).canLay0 = true
  | .non, v, _, h => rfl
  | .bl b, v, _, h => rfl
  | .int i, v, _, h => rfl
  | .str s, v, _, h => by obtain ⟨_, h⟩ := (show v = .str s ∧ _ from h); simpa [py, PyData.canLay0] using h
  | .tup ds, v, p, h => by
    unfold Rep at h
    unfold plain at p
    obtain ⟨a, xs, rfl, h2, h3⟩ := h
    simp only [py, PyData.canLay0]
    exact lays_of ds p h3
  | .lst ds, v, p, h => by
    unfold Rep at h
    unfold plain at p
    obtain ⟨a, xs, rfl, h2, h3⟩ := h
    simp only [py, PyData.canLay0]
    exact lays_of ds p h3
  | .obj _ _, v, p, h => by simp [plain] at p
  | .dct _ _, v, p, h => by simp [plain] at p
  | .ext _ _, v, p, h => by simp [plain] at p
theorem lays_of : ∀ (ds : List D) {vs : List V}, plains ds = true → Reps T B ds vs → PyData.canLayAll0 (pys ds) = true
  | [], vs, _, h => rfl
  | d :: ds, vs, p, h => by
    unfold Reps at h
    unfold plains at p
    obtain ⟨v, r, rfl, h2, h3⟩ := h
    have p' := (Bool.and_eq_true _ _).mp p
    simp only [pys, PyData.canLayAll0, Bool.and_eq_true]
    exact ⟨lay_of d p'.1 h2, lays_of ds p'.2 h3⟩
end
end
mutual
def dep : D → Nat
  | .tup ds => deps ds + 1
  | .lst ds => deps ds + 1
  | _ => 0
def deps : List D → Nat
  | [] => 0
  | d :: ds => max (dep d) (deps ds)
end
mutual
theorem dep_eq : ∀ d : D, (py d).depth = dep d
  | .non => by simp [py, dep, PyData.depth]
  | .bl _ => by simp [py, dep, PyData.depth]
  | .int _ => by simp [py, dep, PyData.depth]
  | .str _ => by simp [py, dep, PyData.depth]
  | .tup ds => by simp only [py, dep, PyData.depth]; rw [deps_eq ds]
  | .lst ds => by simp only [py, dep, PyData.depth]; rw [deps_eq ds]
  | .obj _ _ => by simp [py, dep, PyData.depth]
  | .dct _ _ => by simp [py, dep, PyData.depth]
  | .ext _ _ => by simp [py, dep, PyData.depth]
theorem deps_eq : ∀ ds : List D, PyData.depthAll (pys ds) = deps ds
  | [] => by simp [pys, deps, PyData.depthAll]
  | d :: ds => by simp only [pys, deps, PyData.depthAll]; rw [dep_eq d, deps_eq ds]
end
def cok (d : D) : Bool := plain d && decide (dep d ≤ 64)
theorem cok_shaped {T : Tab} {B : Hp} {d : D} {v : V} (h : cok d = true) (r : Rep T B d v) : SeqAt.shaped (py d) = true := by
  have h' := (Bool.and_eq_true _ _).mp h
  show ((py d).canLay0 && decide ((py d).depth ≤ 64)) = true
  rw [Bool.and_eq_true]
  exact ⟨lay_of d h'.1 r, by rw [dep_eq]; exact h'.2⟩
theorem cok_plain {d : D} (h : cok d = true) : plain d = true := ((Bool.and_eq_true _ _).mp h).1
def same (x y : D) : Bool := PyData.eqv (py x) (py y)
def CMulB (i j : Int) : Prop := i.natAbs < 18446744073709551616 ∨ j.natAbs < 18446744073709551616
theorem cmul_b {i j : Int} (h : CMulB i j) : (-(2 ^ 64) < i ∧ i < 2 ^ 64) ∨ (-(2 ^ 64) < j ∧ j < 2 ^ 64) := by
  rcases h with h | h
  · left; constructor <;> omega
  · right; constructor <;> omega
instance (i j : Int) : Decidable (CMulB i j) := by unfold CMulB; infer_instance
def dAdd : D → D → Option D
  | .int i, .int j => some (.int (i + j))
  | .str a, .str b => if a.length + b.length ≤ sizeLine then some (.str (a ++ b)) else none
  | .tup xs, .tup ys => if xs.length + ys.length ≤ sizeLine then some (.tup (xs ++ ys)) else none
  | _, _ => none
def dSub : D → D → Option D
  | .int i, .int j => some (.int (i - j))
  | _, _ => none
def dMul : D → D → Option D
  | .int i, .int j => if CMulB i j then some (.int (i * j)) else none
  | _, _ => none
def dMod : D → D → Option D
  | .int i, .int j => if 0 < j then some (.int (i % j)) else none
  | _, _ => none
def dDiv : D → D → Option D
  | .int i, .int j => if 0 < j ∧ j < 1073741824 then some (.int (i / j)) else none
  | _, _ => none
def dEq (x y : D) : Option D := if cok x && cok y then some (.bl (same x y)) else none
def dNe (x y : D) : Option D := if cok x && cok y then some (.bl (!same x y)) else none
def dLt : D → D → Option D
  | .int i, .int j => some (.bl (decide (i < j)))
  | .str a, .str b => some (.bl (decide (a.cps.toList < b.cps.toList)))
  | _, _ => none
def dGt : D → D → Option D
  | .int i, .int j => some (.bl (decide (j < i)))
  | .str a, .str b => some (.bl (decide (b.cps.toList < a.cps.toList)))
  | _, _ => none
def dLe : D → D → Option D
  | .int i, .int j => some (.bl (decide (i ≤ j)))
  | .str a, .str b => some (.bl (!decide (b.cps.toList < a.cps.toList)))
  | _, _ => none
def dGe : D → D → Option D
  | .int i, .int j => some (.bl (decide (j ≤ i)))
  | .str a, .str b => some (.bl (!decide (a.cps.toList < b.cps.toList)))
  | _, _ => none
def flat : D → Bool
  | .non => true | .bl _ => true | .int _ => true | .str _ => true
  | _ => false
def dInB : D → D → Option Bool
  | .str a, .str b => match a.cps.toList with
    | [c] => some (decide (c ∈ b.cps.toList))
    | _ => none
  | x, .lst ys => if cok x && cok (.lst ys) then some (ys.any fun z => same z x) else none
  | x, .tup ys => if flat x && ys.all flat then some (ys.any fun z => same z x) else none
  | _, _ => none
def dIn (x y : D) : Option D := (dInB x y).map .bl
def dNotIn (x y : D) : Option D := (dInB x y).map fun b => .bl !b
theorem strOk_app {a b : Str} (h : PyData.strOk a = true) (g : PyData.strOk b = true) : PyData.strOk (a ++ b) = true := by
  unfold PyData.strOk at *
  have e : (a ++ b).cps = a.cps ++ b.cps := rfl
  rw [e, Array.all_append, h, g]; rfl
theorem strOk_mem {a : Str} : PyData.strOk a = true ↔ ∀ c ∈ a.cps.toList, c < 0x110000 := by
  unfold PyData.strOk
  rw [← Array.all_toList, List.all_eq_true]
  simp
section
variable {T : Tab} {X : Cx}
def sc : D → Option V
  | .non => some .non
  | .bl b => some (.bl b)
  | .int i => some (.int i)
  | _ => none
theorem rep_int {B : Hp} {i : Int} {v : V} (h : Rep T B (.int i) v) : v = .int i := h
theorem rep_bl {B : Hp} {i : Bool} {v : V} (h : Rep T B (.bl i) v) : v = .bl i := h
theorem rep_non {B : Hp} {v : V} (h : Rep T B .non v) : v = .non := h
theorem rep_str {B : Hp} {i : Str} {v : V} (h : Rep T B (.str i) v) : v = .str i ∧ PyData.strOk i = true := h
def rAddA (K : PySem.W.Frag) : R2 := fun x y H Q => (∃ i j, x = .int i ∧ y = .int j ∧ Q (.int (i + j)) H) ∨ ((∃ i j, x = .str i ∧ y = .str j ∧ i.length + j.length ≤ sizeLine ∧ Q (.str (i ++ j)) H) ∨ rCatA K x y H Q)
theorem op_addA : OpR X (binaryOp .Add) (rAddA X.K) := op_add.or (op_add_str.or op_catA)
theorem p_add : Prim2 T (rAddA T.K) dAdd := by
  intro x y z vx vy B H Q e hx hy hz k
  unfold dAdd at hz
  split at hz
  · cases hz; cases rep_int hx; cases rep_int hy
    exact .inl ⟨_, _, rfl, rfl, k _ B H (.refl e) rfl⟩
  · split at hz
    · rename_i hl
      cases hz
      obtain ⟨rfl, s1⟩ := rep_str hx
      obtain ⟨rfl, s2⟩ := rep_str hy
      exact .inr (.inl ⟨_, _, rfl, rfl, hl, k _ B H (.refl e) ⟨rfl, strOk_app s1 s2⟩⟩)
    · cases hz
  · rename_i xs ys
    split at hz
    · rename_i hl
      cases hz
      unfold Rep at hx hy
      obtain ⟨a, us, rfl, t1, r1⟩ := hx
      obtain ⟨b, ws, rfl, t2, r2⟩ := hy
      refine .inr (.inr ⟨a, b, us, ws, rfl, rfl, (e.tu t1).sq, (e.tu t2).sq, by rw [← r1.length, ← r2.length]; exact hl, ?_⟩)
      have whole1 : ws = [] → Rep T B (.tup (xs ++ ys)) (.ref a) := fun h => by
        subst h
        have : ys = [] := List.eq_nil_of_length_eq_zero (by rw [r2.length]; rfl)
        subst this
        rw [List.append_nil]; unfold Rep; exact ⟨a, us, rfl, t1, r1⟩
      have whole2 : us = [] → Rep T B (.tup (xs ++ ys)) (.ref b) := fun h => by
        subst h
        have : xs = [] := List.eq_nil_of_length_eq_zero (by rw [r1.length]; rfl)
        subst this
        rw [List.nil_append]; unfold Rep; exact ⟨b, ws, rfl, t2, r2⟩
      refine ⟨fun h => ?_, fun _ h => ?_, fun _ _ p hp => ?_⟩
      · exact k _ B H (.refl e) (whole2 h)
      · exact k _ B H (.refl e) (whole1 h)
      · have w := Ext.newT (o := .tup (us ++ ws)) e hp
        exact k _ _ _ w (rep_tup upd_same (Reps.mono w.b _ (r1.append r2)))
    · cases hz
  · cases hz
end
end Fz
set_option Elab.async false
set_option linter.all false
set_option maxRecDepth 100000
set_option maxHeartbeats 2000000
namespace Fz
open PySem L2
section
variable {T : Tab} {X : Cx}
theorem p_mul : Prim2 T (rI CMul fun i j => .int (i * j)) dMul := by
  intro x y z vx vy B H Q e hx hy hz k
  unfold dMul at hz
  split at hz
  · split at hz
    · rename_i hc
      cases hz; cases rep_int hx; cases rep_int hy
      exact ⟨_, _, rfl, rfl, cmul_b hc, k _ B H (.refl e) rfl⟩
    · cases hz
  · cases hz
theorem p_mod : Prim2 T (rI (fun _ j => 0 < j) fun i j => .int (i % j)) dMod := by
  intro x y z vx vy B H Q e hx hy hz k
  unfold dMod at hz
  split at hz
  · split at hz
    · rename_i hc
      cases hz; cases rep_int hx; cases rep_int hy
      exact ⟨_, _, rfl, rfl, hc, k _ B H (.refl e) rfl⟩
    · cases hz
  · cases hz
theorem p_div : Prim2 T (rI CDiv fun i j => .int (i / j)) dDiv := by
  intro x y z vx vy B H Q e hx hy hz k
  unfold dDiv at hz
  split at hz
  · split at hz
    · rename_i hc
      cases hz; cases rep_int hx; cases rep_int hy
      exact ⟨_, _, rfl, rfl, hc, k _ B H (.refl e) rfl⟩
    · cases hz
  · cases hz
theorem p_eq : Prim2 T (rEqD T.K) dEq := by
  intro x y z vx vy B H Q e hx hy hz k
  unfold dEq at hz
  split at hz
  · rename_i hc
    have hc' := (Bool.and_eq_true _ _).mp hc
    cases hz
    exact ⟨py x, py y, dp_of e x (cok_plain hc'.1) hx, dp_of e y (cok_plain hc'.2) hy, cok_shaped hc'.1 hx, cok_shaped hc'.2 hy, k _ B H (.refl e) rfl⟩
  · cases hz
theorem p_ne : Prim2 T (rNeD T.K) dNe := by
  intro x y z vx vy B H Q e hx hy hz k
  unfold dNe at hz
  split at hz
  · rename_i hc
    have hc' := (Bool.and_eq_true _ _).mp hc
    cases hz
    exact ⟨py x, py y, dp_of e x (cok_plain hc'.1) hx, dp_of e y (cok_plain hc'.2) hy, cok_shaped hc'.1 hx, cok_shaped hc'.2 hy, k _ B H (.refl e) rfl⟩
  · cases hz
def rCmp (p : Int → Int → Bool) (q : Str → Str → Bool) : R2 := fun x y H Q => (∃ i j, x = .int i ∧ y = .int j ∧ Q (.bl (p i j)) H) ∨ ∃ i j, x = .str i ∧ y = .str j ∧ Q (.bl (q i j)) H
theorem op_ltA : OpR X (compareOp .Lt) (rCmp (fun i j => decide (i < j)) fun a b => decide (a.cps.toList < b.cps.toList)) := op_lt.or op_lt_str
theorem op_gtA : OpR X (compareOp .Gt) (rCmp (fun i j => decide (j < i)) fun a b => decide (b.cps.toList < a.cps.toList)) := op_gt.or op_gt_str
theorem p_cmp {p : Int → Int → Bool} {q : Str → Str → Bool} {g : D → D → Option D} (h1 : ∀ i j, g (.int i) (.int j) = some (.bl (p i j))) (h2 : ∀ a b, g (.str a) (.str b) = some (.bl (q a b))) (h3 : ∀ x y z, g x y = some z → (∃ i j, x = .int i ∧ y = .int j) ∨ ∃ a b, x = .str a ∧ y = .str b) : Prim2 T (rCmp p q) g := by
  intro x y z vx vy B H Q e hx hy hz k
  rcases h3 x y z hz with ⟨i, j, rfl, rfl⟩ | ⟨a, b, rfl, rfl⟩
  · rw [h1] at hz; cases hz; cases rep_int hx; cases rep_int hy
    exact .inl ⟨_, _, rfl, rfl, k _ B H (.refl e) rfl⟩
  · rw [h2] at hz; cases hz
    obtain ⟨rfl, _⟩ := rep_str hx
    obtain ⟨rfl, _⟩ := rep_str hy
    exact .inr ⟨_, _, rfl, rfl, k _ B H (.refl e) rfl⟩
theorem p_lt : Prim2 T (rCmp (fun i j => decide (i < j)) fun a b => decide (a.cps.toList < b.cps.toList)) dLt := p_cmp (fun _ _ => rfl) (fun _ _ => rfl) fun x y z h => by
  unfold dLt at h
  split at h
  · exact .inl ⟨_, _, rfl, rfl⟩
  · exact .inr ⟨_, _, rfl, rfl⟩
  · cases h
theorem p_gt : Prim2 T (rCmp (fun i j => decide (j < i)) fun a b => decide (b.cps.toList < a.cps.toList)) dGt := p_cmp (fun _ _ => rfl) (fun _ _ => rfl) fun x y z h => by
  unfold dGt at h
  split at h
  · exact .inl ⟨_, _, rfl, rfl⟩
  · exact .inr ⟨_, _, rfl, rfl⟩
  · cases h
end
end Fz
set_option Elab.async false
set_option linter.all false
set_option maxRecDepth 100000
set_option maxHeartbeats 2000000
namespace Fz
open PySem L2
section
variable {T : Tab} {X : Cx}
def isNone : D → Bool
  | .non => true
  | _ => false
def dIsv : D → D → Option Bool
  | .bl a, .bl b => some (decide (a = b))
  | x, .non => some (isNone x)
  | _, _ => none
def dIs (x y : D) : Option D := (dIsv x y).map .bl
def dIx : D → D → Option D
  | .lst xs, .int i => atI xs i
  | .tup xs, .int i => atI xs i
  | .str z, .int i => if z.length ≤ sizeLine then (atI z.cps.toList i).map fun c => .str ⟨#[c]⟩ else none
  | _, _ => none
theorem atI_reps {B : Hp} {ds : List D} {vs : List V} {i : Int} {d : D} (r : Reps T B ds vs) (h : atI ds i = some d) : ∃ v, atI vs i = some v ∧ Rep T B d v := by
  unfold atI at h ⊢
  rw [r.length] at h
  cases e : ixN vs.length i with
  | none => rw [e] at h; cases h
  | some j =>
    rw [e] at h
    exact r.get (by simpa using h)
theorem p_ix : Prim2 T (rIx T.K) dIx := by
  intro x y z vx vy B H Q e hx hy hz k
  unfold dIx at hz
  split at hz
  · unfold Rep at hx
    obtain ⟨a, us, rfl, t1, r1⟩ := hx
    cases rep_int hy
    obtain ⟨v, h1, h2⟩ := atI_reps r1 hz
    exact .inl ⟨a, us, _, v, rfl, rfl, e.sqL t1, h1, k v B H (.refl e) h2⟩
  · unfold Rep at hx
    obtain ⟨a, us, rfl, t1, r1⟩ := hx
    cases rep_int hy
    obtain ⟨v, h1, h2⟩ := atI_reps r1 hz
    exact .inr (.inl ⟨a, us, _, v, rfl, rfl, (e.tu t1).sq, h1, k v B H (.refl e) h2⟩)
  · rename_i zs i
    split at hz
    · rename_i hl
      obtain ⟨rfl, ok⟩ := rep_str hx
      cases rep_int hy
      cases hc : atI zs.cps.toList i with
      | none => rw [hc] at hz; cases hz
      | some c =>
        rw [hc] at hz; cases hz
        refine .inr (.inr ⟨zs, i, c, rfl, rfl, hl, hc, k _ B H (.refl e) ⟨rfl, ?_⟩⟩)
        obtain ⟨j, _, hj, _⟩ := atI_get hc
        rw [strOk_mem]
        intro c' hc'
        have : c' = c := by simpa using hc'
        subst this
        exact strOk_mem.mp ok c' (List.mem_of_getElem? hj)
    · cases hz
  · cases hz
def cutD {α : Type} (xs : List α) (lo hi : Option Int) : List α := (xs.drop (HT.sIx xs.length 0 lo)).take (HT.sIx xs.length xs.length hi - HT.sIx xs.length 0 lo)
theorem reps_drop {B : Hp} : ∀ (n : Nat) {ds : List D} {vs : List V}, Reps T B ds vs → Reps T B (ds.drop n) (vs.drop n)
  | 0, _, _, r => r
  | n + 1, [], vs, r => by unfold Reps at r; subst r; exact reps_nil
  | n + 1, d :: ds, vs, r => by
    unfold Reps at r
    obtain ⟨v, us, rfl, _, r2⟩ := r
    exact reps_drop n r2
theorem reps_take {B : Hp} : ∀ (n : Nat) {ds : List D} {vs : List V}, Reps T B ds vs → Reps T B (ds.take n) (vs.take n)
  | 0, _, _, _ => reps_nil
  | n + 1, [], vs, r => by unfold Reps at r; subst r; exact reps_nil
  | n + 1, d :: ds, vs, r => by
    unfold Reps at r
    obtain ⟨v, us, rfl, r1, r2⟩ := r
    exact reps_cons r1 (reps_take n r2)
theorem reps_cut {B : Hp} {ds : List D} {vs : List V} (r : Reps T B ds vs) (lo hi : Option Int) : Reps T B (cutD ds lo hi) (cutV vs lo hi) := by
  unfold cutD cutV
  rw [r.length]
  exact reps_take _ (reps_drop _ r)
def dSl (x : D) (lo hi : Option Int) : Option D := match x with
  | .tup xs => some (.tup (cutD xs lo hi))
  | .str z => if z.length ≤ sizeLine then some (.str (cutS z lo hi)) else none
  | _ => none
def rSlTS (K : PySem.W.Frag) : V → Option Int → Option Int → Hp → VK → Prop := fun x lo hi H Q => rSlA K x lo hi H Q ∨ rSlS x lo hi H Q
theorem sl_ts : SlR X (rSlTS X.K) := sl_tupA.or sl_str
theorem cutS_ok {z : Str} {lo hi : Option Int} (h : PyData.strOk z = true) : PyData.strOk (cutS z lo hi) = true := by
  rw [strOk_mem] at h ⊢
  intro c hc
  have hc : c ∈ (z.cps.toList.drop (HT.sIx z.length 0 lo)).take (HT.sIx z.length z.length hi - HT.sIx z.length 0 lo) := hc
  exact h c (List.mem_of_mem_drop (List.mem_of_mem_take hc))
theorem p_sl {x z : D} {lo hi : Option Int} {v : V} {B H : Hp} {Q : VK} (e : Ex B H) (r : Rep T B x v) (h : dSl x lo hi = some z) (k : ∀ v B' H', Ext B H B' H' → Rep T B' z v → Q v H') : rSlTS T.K v lo hi H Q := by
  unfold dSl at h
  split at h
  · rename_i xs
    cases h
    unfold Rep at r
    obtain ⟨a, us, rfl, t1, r1⟩ := r
    refine .inl ⟨a, us, rfl, (e.tu t1).sq, fun hw => ?_, fun hn p hp => ?_⟩
    · refine k _ B H (.refl e) ?_
      have : cutD xs lo hi = xs := by
        unfold cutD
        rw [r1.length, hw.1, hw.2, List.drop_zero, ← r1.length, Nat.sub_zero, List.take_length]
      rw [this]; unfold Rep; exact ⟨a, us, rfl, t1, r1⟩
    · have w := Ext.newT (o := .tup (cutV us lo hi)) e hp
      exact k _ _ _ w (rep_tup upd_same (Reps.mono w.b _ (reps_cut r1 lo hi)))
  · split at h
    · rename_i hl
      cases h
      obtain ⟨rfl, ok⟩ := rep_str r
      exact .inr ⟨_, rfl, hl, k _ B H (.refl e) ⟨rfl, cutS_ok ok⟩⟩
    · cases h
  · cases h
def SemO (T : Tab) (E : L2.St → XK) (to : TO) (f : M (Option Int)) : Prop := ∀ st σ B F H, Sim T st σ B F H → ∀ o s, f st = some (o, s) → ∀ Q : Option Int → Hp → Prop, Okx T (E σ) o s σ B F (fun x _ H' => Q x H') → to σ H Q
def oNone : M (Option Int) := ret none
def oSome (f : M D) : M (Option Int) := bnd f fun x => opt (match x with | .int i => some (some i) | _ => none)
variable {E : L2.St → XK} {te : TE} {fa : M D}
theorem semO_none : SemO T E tNoPart oNone := by
  intro st σ B F H S o s h Q hQ
  cases h
  exact hQ B H (Ex.refl B) S
theorem semO_some (ha : SemE T E te fa) : SemO T E (tPart te) (oSome fa) := by
  intro st σ B F H S o s h Q hQ
  refine okx_bnd h hQ (fun o1 s1 e1 q => ha st σ B F H S o1 s1 e1 _ q) fun a s1 B1 H1 _ h2 e1 S1 hQ1 v hv => ?_
  obtain ⟨z, hz, rfl, rfl⟩ := opt_some h2
  split at hz
  · cases hz; cases rep_int hv
    exact ⟨_, rfl, hQ1 B1 H1 (Ex.refl _) S1⟩
  · cases hz
def eSl (fa : M D) (lo hi : M (Option Int)) : M D := bnd fa fun x => bnd lo fun l => bnd hi fun h => opt (dSl x l h)
theorem semE_sl {tl th : TO} {lo hi : M (Option Int)} (ha : SemE T E te fa) (hl : SemO T E tl lo) (hh : SemO T E th hi) : SemE T E (tSl (rSlTS T.K) te tl th) (eSl fa lo hi) := by
  intro st σ B F H S o s h Q hQ
  refine okx_bnd h hQ (fun o1 s1 e1 q => ha st σ B F H S o1 s1 e1 _ q) fun a s1 B1 H1 _ h2 e1 S1 hQ1 v hv => ?_
  refine okx_bnd h2 hQ1 (fun o1 s2 e2 q => hl s1 σ B1 F H1 S1 o1 s2 e2 _ q) fun l s2 B2 H2 _ h3 e2 S2 hQ2 => ?_
  refine okx_bnd h3 hQ2 (fun o1 s3 e3 q => hh s2 σ B2 F H2 S2 o1 s3 e3 _ q) fun u s3 B3 H3 _ h4 e3 S3 hQ3 => ?_
  obtain ⟨z, hz, rfl, rfl⟩ := opt_some h4
  exact p_sl S3.exB (Rep.mono (e2.trans e3) a hv) hz fun u B4 H4 e4 hu => hQ3 B4 H4 e4.b (S3.ext e4) u hu
def rSlL' (fa : M D) (lo hi : M (Option Int)) : M R := bnd fa fun x => bnd lo fun l => bnd hi fun h => opt (match x with | .lst xs => some (.ol (cutD xs l h)) | _ => none)
theorem semR_sl {tl th : TO} {lo hi : M (Option Int)} (ha : SemE T E te fa) (hl : SemO T E tl lo) (hh : SemO T E th hi) : SemR T E (tSl (rSlL T.K) te tl th) (rSlL' fa lo hi) := by
  intro st σ B F H S o s h Q hQ
  rcases bnd_some h with ⟨c, e1, rfl⟩ | ⟨x, s1, e1, h2⟩
  · exact ha st σ B F H S _ _ e1 _ hQ
  · refine ha st σ B F H S _ _ e1 _ fun B1 H1 x1 S1 v hv => ?_
    rcases bnd_some h2 with ⟨c, e2, rfl⟩ | ⟨l, s2, e2, h3⟩
    · exact hl s1 σ B1 F H1 S1 _ _ e2 _ fun d B2 H2 x2 S2 => hQ d B2 H2 (x1.trans x2) S2
    · refine hl s1 σ B1 F H1 S1 _ _ e2 _ fun B2 H2 x2 S2 => ?_
      rcases bnd_some h3 with ⟨c, e3, rfl⟩ | ⟨u, s3, e3, h4⟩
      · exact hh s2 σ B2 F H2 S2 _ _ e3 _ fun d B3 H3 x3 S3 => hQ d B3 H3 (x1.trans (x2.trans x3)) S3
      · refine hh s2 σ B2 F H2 S2 _ _ e3 _ fun B3 H3 x3 S3 => ?_
        obtain ⟨z, hz, rfl, rfl⟩ := opt_some h4
        split at hz
        · cases hz
          have hv' := Rep.mono (x2.trans x3) _ hv
          unfold Rep at hv'
          obtain ⟨a, us, rfl, t1, r1⟩ := hv'
          exact ⟨a, us, rfl, S3.exB.sqL t1, fun p hp => hQ _ B3 _ (x1.trans (x2.trans x3)) (S3.alloc hp (fun _ z => nomatch z) (relR_ol upd_same (reps_cut r1 l u)))⟩
        · cases hz
def dLen : List D → Option D
  | [.str s] => if s.length ≤ sizeLine then some (.int (s.length : Nat)) else none
  | [.lst xs] => some (.int (xs.length : Nat))
  | [.tup xs] => some (.int (xs.length : Nat))
  | _ => none
theorem reps1 {B : Hp} {d : D} {vs : List V} (h : Reps T B [d] vs) : ∃ v, vs = [v] ∧ Rep T B d v := by
  unfold Reps at h
  obtain ⟨v, r, rfl, h1, h2⟩ := h
  unfold Reps at h2
  subst h2
  exact ⟨v, rfl, h1⟩
theorem reps2 {B : Hp} {d d' : D} {vs : List V} (h : Reps T B [d, d'] vs) : ∃ v u, vs = [v, u] ∧ Rep T B d v ∧ Rep T B d' u := by
  unfold Reps at h
  obtain ⟨v, r, rfl, h1, h2⟩ := h
  obtain ⟨u, rfl, h3⟩ := reps1 h2
  exact ⟨v, u, rfl, h1, h3⟩
theorem p_len : PrimN T (fun xs H Q => ∃ x n, xs = [x] ∧ LenV T.K x H n ∧ Q (.int (n : Nat)) H) dLen := by
  intro xs z vs B H Q e hx hz k
  unfold dLen at hz
  split at hz
  · split at hz
    · rename_i hl
      cases hz
      obtain ⟨v, rfl, r⟩ := reps1 hx
      obtain ⟨rfl, _⟩ := rep_str r
      exact ⟨_, _, rfl, ⟨hl, rfl⟩, k _ B H (.refl e) rfl⟩
    · cases hz
  · cases hz
    obtain ⟨v, rfl, r⟩ := reps1 hx
    unfold Rep at r
    obtain ⟨a, us, rfl, t1, r1⟩ := r
    exact ⟨_, _, rfl, .inl ⟨us, e.sqL t1, r1.length⟩, k _ B H (.refl e) rfl⟩
  · cases hz
    obtain ⟨v, rfl, r⟩ := reps1 hx
    unfold Rep at r
    obtain ⟨a, us, rfl, t1, r1⟩ := r
    exact ⟨_, _, rfl, .inr ⟨us, (e.tu t1).sq, r1.length⟩, k _ B H (.refl e) rfl⟩
  · cases hz
def dInt : List D → Option D
  | [.int i] => some (.int i)
  | [.bl b] => some (.int (if b = true then 1 else 0))
  | _ => none
def dTuple : List D → Option D
  | [.lst xs] => some (.tup xs)
  | [.tup xs] => some (.tup xs)
  | _ => none
theorem p_tuple : PrimN T (fun xs H Q => ∃ p ys, xs = [.ref p] ∧ ((SqL T.K H p ys ∧ ∀ l, H l = none → Q (.ref l) (upd H l (.tup ys))) ∨ (SqT T.K H p ys ∧ Q (.ref p) H))) dTuple := by
  intro xs z vs B H Q e hx hz k
  unfold dTuple at hz
  split at hz
  · cases hz
    obtain ⟨v, rfl, r⟩ := reps1 hx
    unfold Rep at r
    obtain ⟨a, us, rfl, t1, r1⟩ := r
    refine ⟨a, us, rfl, .inl ⟨e.sqL t1, fun p hp => ?_⟩⟩
    have w := Ext.newT (o := .tup us) e hp
    exact k _ _ _ w (rep_tup upd_same (Reps.mono w.b _ r1))
  · cases hz
    obtain ⟨v, rfl, r⟩ := reps1 hx
    have r' := r
    unfold Rep at r
    obtain ⟨a, us, rfl, t1, r1⟩ := r
    exact ⟨a, us, rfl, .inr ⟨(e.tu t1).sq, k _ B H (.refl e) r'⟩⟩
  · cases hz
def dList : List D → Option (List D)
  | [.lst xs] => some xs
  | [.tup xs] => some xs
  | _ => none
theorem p_list : PrimL T (fun xs H Q => ∃ p ys, xs = [.ref p] ∧ (SqL T.K H p ys ∨ SqT T.K H p ys) ∧ ∀ l, H l = none → Q (.ref l) (upd H l (.lst ys))) dList := by
  intro xs zs vs B H Q e hx hz k
  unfold dList at hz
  split at hz
  · cases hz
    obtain ⟨v, rfl, r⟩ := reps1 hx
    unfold Rep at r
    obtain ⟨a, us, rfl, t1, r1⟩ := r
    exact ⟨a, us, rfl, .inl (e.sqL t1), fun p hp => k p us B H (.refl e) hp r1⟩
  · cases hz
    obtain ⟨v, rfl, r⟩ := reps1 hx
    unfold Rep at r
    obtain ⟨a, us, rfl, t1, r1⟩ := r
    exact ⟨a, us, rfl, .inr (e.tu t1).sq, fun p hp => k p us B H (.refl e) hp r1⟩
  · cases hz
end
end Fz
set_option Elab.async false
set_option linter.all false
set_option maxRecDepth 100000
set_option maxHeartbeats 2000000
namespace Fz
open PySem L2
section
variable {T : Tab} {E : L2.St → XK} {st : Sl} {σ : St} {B F H B' H' : Hp}
theorem steps_list' {a : Addr} {ds : List D} {vs : List V} {B : Hp} (h : SqL T.K B a vs) (r : Reps T B ds vs) : Steps T (Itl T.K a) ds B where
  go := fun i H hi e => ⟨vs, vs[i]'(by rw [← r.length]; exact hi), e.sqL h, List.getElem?_eq_getElem _⟩
  stop := fun H e => ⟨vs, e.sqL h, Nat.le_of_eq r.length.symm⟩
  yld := fun i d H x H' B1 hd e1 e2 hy => by
    obtain ⟨rfl, hy⟩ := hy
    obtain ⟨v, hv, rv⟩ := r.get hd
    have := hy vs ((e1.trans e2).sqL h)
    rw [hv] at this; cases this
    exact ⟨B1, .refl e2, Rep.mono e1 d rv⟩
theorem steps_tup {a : Addr} {ds : List D} {vs : List V} {B : Hp} (h : Tu T B a vs) (r : Reps T B ds vs) : Steps T (Itt T.K a) ds B where
  go := fun i H hi e => ⟨vs, vs[i]'(by rw [← r.length]; exact hi), (e.tu h).sq, List.getElem?_eq_getElem _⟩
  stop := fun H e => ⟨vs, (e.tu h).sq, Nat.le_of_eq r.length.symm⟩
  yld := fun i d H x H' B1 hd e1 e2 hy => by
    obtain ⟨rfl, hy⟩ := hy
    obtain ⟨v, hv, rv⟩ := r.get hd
    have := hy vs ((e1.trans e2).tu h).sq
    rw [hv] at this; cases this
    exact ⟨B1, .refl e2, Rep.mono e1 d rv⟩
def rngD (lo : Int) (n : Nat) : List D := (List.range n).map fun (i : Nat) => D.int (lo + i)
theorem rngD_len (lo : Int) (n : Nat) : (rngD lo n).length = n := by unfold rngD; rw [List.length_map, List.length_range]
theorem rngD_get {lo : Int} {n i : Nat} {d : D} (h : (rngD lo n)[i]? = some d) : i < n ∧ d = .int (lo + i) := by
  unfold rngD at h
  rw [List.getElem?_map] at h
  by_cases hi : i < n
  · rw [List.getElem?_range hi] at h; cases h; exact ⟨hi, rfl⟩
  · rw [List.getElem?_eq_none (by rw [List.length_range]; omega)] at h; cases h
theorem steps_rng {lo : Int} {n : Nat} {B : Hp} : Steps T (Itr lo n) (rngD lo n) B where
  go := fun i H hi e => by rw [rngD_len] at hi; exact hi
  stop := fun H e => by rw [rngD_len]; exact Nat.le_refl _
  yld := fun i d H x H' B1 hd e1 e2 hy => by
    obtain ⟨rfl, rfl⟩ := hy
    obtain ⟨_, rfl⟩ := rngD_get hd
    exact ⟨B1, .refl e2, rfl⟩
def sgnD (x : Str) : List D := x.cps.toList.map fun c => D.str ⟨#[c]⟩
def enumD : Nat → List D → List D
  | _, [] => []
  | i, d :: ds => .tup [.int (i : Nat), d] :: enumD (i + 1) ds
theorem enumD_len : ∀ (k : Nat) (ds : List D), (enumD k ds).length = ds.length
  | _, [] => rfl
  | k, d :: ds => by show (enumD (k + 1) ds).length + 1 = _; rw [enumD_len (k + 1) ds]; rfl
theorem enumD_get : ∀ {k i : Nat} {ds : List D} {d : D}, (enumD k ds)[i]? = some d → ∃ x, ds[i]? = some x ∧ d = .tup [.int ((k + i : Nat) : Int), x]
  | k, i, [], d, h => by simp [enumD] at h
  | k, 0, x :: ds, d, h => by have h : some (D.tup [.int (k : Nat), x]) = some d := h; cases h; exact ⟨x, rfl, rfl⟩
  | k, i + 1, x :: ds, d, h => by
    obtain ⟨y, h1, h2⟩ := enumD_get (k := k + 1) (i := i) (ds := ds) (d := d) h
    exact ⟨y, h1, by rw [h2]; congr 4; omega⟩
theorem steps_enum {a : Addr} {ds : List D} {vs : List V} {B : Hp} (h : SqL T.K B a vs) (r : Reps T B ds vs) : Steps T (Ite T.K a) (enumD 0 ds) B where
  go := fun i H hi e => by rw [enumD_len] at hi; exact ⟨vs, vs[i]'(by rw [← r.length]; exact hi), e.sqL h, List.getElem?_eq_getElem _⟩
  stop := fun H e => ⟨vs, e.sqL h, by rw [enumD_len]; exact Nat.le_of_eq r.length.symm⟩
  yld := fun i d H x H' B1 hd e1 e2 hy => by
    obtain ⟨p, y, rfl, hp, rfl, hy⟩ := hy
    obtain ⟨z, hz, rfl⟩ := enumD_get hd
    obtain ⟨v, hv, rv⟩ := r.get hz
    have := hy vs ((e1.trans e2).sqL h)
    rw [hv] at this; cases this
    have w := Ext.newT (o := .tup [.int (i : Nat), y]) e2 hp
    refine ⟨_, w, rep_tup upd_same ?_⟩
    exact reps_cons (by rw [Nat.zero_add]; rfl) (reps_cons (Rep.mono (e1.trans w.b) _ rv) reps_nil)
def zipD : List D → List D → List D
  | x :: xs, y :: ys => .tup [x, y] :: zipD xs ys
  | _, _ => []
def iLst (fa : M D) : M (List D) := bnd fa fun x => opt (match x with | .lst xs => some xs | _ => none)
def iTupl (fa : M D) : M (List D) := bnd fa fun x => opt (match x with | .tup xs => some xs | _ => none)
def iSeq (fa : M D) : M (List D) := bnd fa fun x => opt (match x with | .lst xs => some xs | .tup xs => some xs | _ => none)
def iText (fa : M D) : M (List D) := bnd fa fun x => opt (match x with | .str x => some (sgnD x) | _ => none)
def smallI (i : Int) : Bool := decide (i.natAbs < 4611686018427387904)
theorem small_b {i : Int} (h : smallI i = true) : -(2 ^ 62) ≤ i ∧ i < 2 ^ 62 := by
  have := of_decide_eq_true h
  constructor <;> omega
def iR1 (fa : M (List D)) : M (List D) := bnd fa fun xs => opt (match xs with | [.int j] => if smallI j then some (rngD 0 j.toNat) else none | _ => none)
def iR2 (fa : M (List D)) : M (List D) := bnd fa fun xs => opt (match xs with | [.int i, .int j] => if smallI i && smallI j then some (rngD i (j - i).toNat) else none | _ => none)
def iEn (fa : M (List D)) : M (List D) := bnd fa fun xs => opt (match xs with | [.lst xs] => some (enumD 0 xs) | _ => none)
variable {te : TE} {ta : TA} {fa : M D} {fs : M (List D)}
theorem semI_lst (h : SemE T E te fa) : SemI T E (iList T.K te) (iLst fa) := by
  intro st σ B F H S o s hf R hR
  refine okx_bnd hf hR (fun o1 s1 e1 q => h st σ B F H S o1 s1 e1 _ q) fun a s1 B1 H1 _ h2 e1 S1 hR1 v hv => ?_
  obtain ⟨z, hz, rfl, rfl⟩ := opt_some h2
  split at hz
  · cases hz
    unfold Rep at hv
    obtain ⟨p, us, rfl, t, r⟩ := hv
    exact ⟨p, rfl, ⟨us, S1.exB.sqL t⟩, hR1 B1 H1 (Ex.refl _) S1 _ (steps_list' t r)⟩
  · cases hz
theorem semI_tup (h : SemE T E te fa) : SemI T E (iTup T.K te) (iTupl fa) := by
  intro st σ B F H S o s hf R hR
  refine okx_bnd hf hR (fun o1 s1 e1 q => h st σ B F H S o1 s1 e1 _ q) fun a s1 B1 H1 _ h2 e1 S1 hR1 v hv => ?_
  obtain ⟨z, hz, rfl, rfl⟩ := opt_some h2
  split at hz
  · cases hz
    unfold Rep at hv
    obtain ⟨p, us, rfl, t, r⟩ := hv
    exact ⟨p, rfl, ⟨us, (S1.exB.tu t).sq⟩, hR1 B1 H1 (Ex.refl _) S1 _ (steps_tup t r)⟩
  · cases hz
theorem semI_seq (h : SemE T E te fa) : SemI T E (fun σ H R => iList T.K te σ H R ∨ iTup T.K te σ H R) (iSeq fa) := by
  intro st σ B F H S o s hf R hR
  have hf' := hf
  rcases bnd_some hf with ⟨c, e1, rfl⟩ | ⟨x, s1, e1, h2⟩
  · exact .inl (semI_lst h st σ B F H S (.x c) s (show bnd fa _ st = _ by unfold bnd; rw [e1]) R hR)
  · obtain ⟨z, hz, rfl, rfl⟩ := opt_some h2
    split at hz
    · rename_i xs
      cases hz
      exact .inl (semI_lst h st σ B F H S (.v _) s (show bnd fa _ st = _ by unfold bnd; rw [e1]; rfl) R hR)
    · rename_i xs
      cases hz
      exact .inr (semI_tup h st σ B F H S (.v _) s (show bnd fa _ st = _ by unfold bnd; rw [e1]; rfl) R hR)
    · cases hz
theorem semI_r1 (h : SemA T E ta fs) : SemI T E (iRng1 ta) (iR1 fs) := by
  intro st σ B F H S o s hf R hR
  refine okx_bnd hf hR (fun o1 s1 e1 q => h st σ B F H S o1 s1 e1 _ q) fun a s1 B1 H1 _ h2 e1 S1 hR1 v hv => ?_
  obtain ⟨z, hz, rfl, rfl⟩ := opt_some h2
  split at hz
  · split at hz
    · rename_i hl
      cases hz
      obtain ⟨u, rfl, r⟩ := reps1 hv
      cases rep_int r
      have hl' := small_b hl
      exact ⟨_, rfl, hl'.1, hl'.2, hR1 B1 H1 (Ex.refl _) S1 _ steps_rng⟩
    · cases hz
  · cases hz
theorem semI_en (h : SemA T E ta fs) : SemI T E (iEnum T.K ta) (iEn fs) := by
  intro st σ B F H S o s hf R hR
  refine okx_bnd hf hR (fun o1 s1 e1 q => h st σ B F H S o1 s1 e1 _ q) fun a s1 B1 H1 _ h2 e1 S1 hR1 v hv => ?_
  obtain ⟨z, hz, rfl, rfl⟩ := opt_some h2
  split at hz
  · cases hz
    obtain ⟨u, rfl, r⟩ := reps1 hv
    unfold Rep at r
    obtain ⟨p, us, rfl, t, r⟩ := r
    exact ⟨p, us, rfl, S1.exB.sqL t, hR1 B1 H1 (Ex.refl _) S1 _ (steps_enum t r)⟩
  · cases hz
def addF (F H : Hp) (a : Addr) : Hp := fun b => if b = a then H a else F b
theorem Sim.hide {r : R} {a : Addr} (S : Sim T (some r :: st) (some (.ref a) :: σ) B F H) (ho : Ow H r (.ref a) a) : Sim T st σ B (addF F H a) H := by
  have P := S.pop
  obtain ⟨ba, fa⟩ := S.own 0 r _ a rfl rfl ho
  refine ⟨P.exB, fun b o h => ?_, fun b o h => ?_, P.tup, P.len, P.rel, fun i q u b h1 h2 h3 => ?_, P.sep⟩
  · unfold addF at h
    split at h
    · rename_i e; subst e; exact h
    · exact S.exF b o h
  · unfold addF at h
    split at h
    · rename_i e; subst e; exact ba
    · exact S.dis b o h
  · obtain ⟨z1, z2⟩ := P.own i q u b h1 h2 h3
    refine ⟨z1, ?_⟩
    unfold addF
    split
    · rename_i e; subst e
      exact (S.sep 0 (i + 1) r q _ u b (by omega) rfl rfl (by simpa using h1) (by simpa using h2) ho h3).elim
    · exact z2
theorem Sim.unhide {r : R} {a : Addr} {st' : Sl} {σ' : St} (S : Sim T (some r :: st) (some (.ref a) :: σ) B F H) (ho : Ow H r (.ref a) a) (e : Ex B B') (S' : Sim T st' σ' B' (addF F H a) H') (only : ∀ b, Ow H r (.ref a) b → b = a := by intro b h; exact (V.ref.inj h).symm) : Sim T (some r :: st') (some (.ref a) :: σ') B' F H' := by
  obtain ⟨ba, fa⟩ := S.own 0 r _ a rfl rfl ho
  obtain ⟨⟨oh, hh⟩, nt⟩ := S.top.ow ho
  have same : H' a = H a := by
    rw [hh]
    exact S'.exF a oh (by unfold addF; rw [if_pos rfl]; exact hh)
  have fh : addF F H a a = some oh := by unfold addF; rw [if_pos rfl]; exact hh
  have tk : Tk H H' := fun b xs h => S'.exB b _ (e b _ (S.tup b xs h))
  have bk : ∀ b, Ow H' r (.ref a) b → Ow H r (.ref a) b := fun b h => Ow.back tk S.top (fun p o g1 g2 => by rw [only p g1] at g2 ⊢; rw [same]; exact g2) h
  have fr : ∀ b, addF F H a b = none → F b = none := fun b h => by
    unfold addF at h
    split at h
    · rename_i z; subst z; rw [hh] at h; cases h
    · exact h
  refine ⟨S'.exB, fun b o h => S'.exF b o ?_, fun b o h => S'.dis b o ?_, S'.tup, by simp [S'.len], fun i q h => ?_, fun i q u b h1 h2 h3 => ?_, fun i j q p u w b n h1 h2 h3 h4 h5 h6 => ?_⟩
  · unfold addF; rw [if_neg (by rintro rfl; rw [fa] at h; cases h)]; exact h
  · unfold addF; rw [if_neg (by rintro rfl; rw [fa] at h; cases h)]; exact h
  · cases i with
    | zero =>
      cases h
      exact ⟨_, rfl, S.top.keep e tk fun b o ob z => by rw [only b ob] at z ⊢; rw [same]; exact z⟩
    | succ i => obtain ⟨u, a, b⟩ := S'.rel i q (by simpa using h); exact ⟨u, by simpa using a, b⟩
  · cases i with
    | zero =>
      cases h1; cases h2
      rw [only b (bk b h3)]
      exact ⟨S'.dis a oh fh, fa⟩
    | succ i =>
      obtain ⟨z1, z2⟩ := S'.own i q u b (by simpa using h1) (by simpa using h2) h3
      exact ⟨z1, fr b z2⟩
  · have cross : ∀ {j : Nat} {q : R} {u : V}, st'[j]? = some (some q) → σ'[j]? = some (some u) → Ow H' r (.ref a) b → Ow H' q u b → False := fun {j q u} g1 g2 g3 g4 => by
      rw [only b (bk b g3)] at g4
      have := (S'.own j q u a g1 g2 g4).2
      rw [fh] at this; cases this
    cases i with
    | zero =>
      cases h1; cases h2
      cases j with
      | zero => exact n rfl
      | succ j => exact cross (by simpa using h3) (by simpa using h4) h5 h6
    | succ i =>
      cases j with
      | zero => cases h3; cases h4; exact cross (by simpa using h1) (by simpa using h2) h6 h5
      | succ j => exact S'.sep i j q p u w b (by omega) (by simpa using h1) (by simpa using h2) (by simpa using h3) (by simpa using h4) h5 h6
def wipeS (st : Sl) : List Nat → Sl
  | [] => st
  | v :: vs => (wipeS st vs).set v none
def isOwned : Option R → Bool
  | some (.d _) => false
  | none => false
  | _ => true
def backS (st0 st : Sl) : List Nat → Sl
  | [] => st
  | v :: vs => (backS st0 st vs).set v (st0.getD v none)
theorem wipeS_length (st : Sl) : ∀ vs, (wipeS st vs).length = st.length
  | [] => rfl
  | v :: vs => by unfold wipeS; rw [List.length_set, wipeS_length st vs]
theorem backS_length (st0 st : Sl) : ∀ vs, (backS st0 st vs).length = st.length
  | [] => rfl
  | v :: vs => by unfold backS; rw [List.length_set, backS_length st0 st vs]
theorem wipeS_some {st : Sl} {i : Nat} {x : R} : ∀ {vs : List Nat}, (wipeS st vs)[i]? = some (some x) → st[i]? = some (some x) ∧ i ∉ vs
  | [], h => ⟨h, by simp⟩
  | v :: vs, h => by
    unfold wipeS at h
    rw [List.getElem?_set] at h
    split at h
    · split at h <;> cases h
    · rename_i ne
      obtain ⟨h1, h2⟩ := wipeS_some h
      exact ⟨h1, by simp only [List.mem_cons, not_or]; exact ⟨fun e => ne e.symm, h2⟩⟩
theorem wipe_other {σ : St} {i : Nat} : ∀ {vs : List Nat}, i ∉ vs → (wipe σ vs)[i]? = σ[i]?
  | [], _ => rfl
  | v :: vs, h => by
    simp only [List.mem_cons, not_or] at h
    unfold wipe
    rw [List.getElem?_set_ne (fun e => h.1 e.symm)]
    exact wipe_other h.2
theorem backS_at {st0 st : Sl} {i : Nat} {x : R} : ∀ {vs : List Nat}, (backS st0 st vs)[i]? = some (some x) → (i ∈ vs ∧ st0[i]? = some (some x)) ∨ (i ∉ vs ∧ st[i]? = some (some x))
  | [], h => .inr ⟨by simp, h⟩
  | v :: vs, h => by
    unfold backS at h
    rw [List.getElem?_set] at h
    split at h
    · rename_i e; subst e
      split at h
      · refine .inl ⟨List.mem_cons_self, ?_⟩
        have h : st0.getD v none = some x := Option.some.inj h
        rw [List.getD_eq_getElem?_getD] at h
        cases q : st0[v]? with
        | none => rw [q] at h; cases h
        | some y => rw [q] at h; exact congrArg some h
      · cases h
    · rename_i ne
      rcases backS_at h with ⟨h1, h2⟩ | ⟨h1, h2⟩
      · exact .inl ⟨List.mem_cons_of_mem _ h1, h2⟩
      · exact .inr ⟨by simp only [List.mem_cons, not_or]; exact ⟨fun e => ne e.symm, h1⟩, h2⟩
theorem Sim.wipe (S : Sim T st σ B F H) (vs : List Nat) : Sim T (wipeS st vs) (L2.wipe σ vs) B F H := by
  refine ⟨S.exB, S.exF, S.dis, S.tup, by rw [wipeS_length, wipe_length]; exact S.len, fun i r h => ?_, fun i r v a h1 h2 h3 => ?_, fun i j r q v u a n h1 h2 h3 h4 h5 h6 => ?_⟩
  · obtain ⟨h1, h2⟩ := wipeS_some h
    obtain ⟨v, a, b⟩ := S.rel i r h1
    exact ⟨v, by rw [wipe_other h2]; exact a, b⟩
  · obtain ⟨g1, g2⟩ := wipeS_some h1
    rw [wipe_other g2] at h2
    exact S.own i r v a g1 h2 h3
  · obtain ⟨g1, g2⟩ := wipeS_some h1
    obtain ⟨g3, g4⟩ := wipeS_some h3
    rw [wipe_other g2] at h2
    rw [wipe_other g4] at h4
    exact S.sep i j r q v u a n g1 h2 g3 h4 h5 h6
def lcL (g : D → Sl → Option Sl) (c : M Bool) (e : M D) (vs : List Nat) : List D → List D → Sl → Option (List D × Sl)
  | [], acc, s => some (acc, s)
  | d :: ds, acc, s => match g d s with
    | none => none
    | some s1 => match c s1 with
      | some (.v true, s2) => (match e s2 with
        | some (.v y, s3) => if acc.length < sizeLine then lcL g c e vs ds (acc ++ [y]) (wipeS s3 vs) else none
        | _ => none)
      | some (.v false, s2) => lcL g c e vs ds acc (wipeS s2 vs)
      | _ => none
def rLc (it : M (List D)) (g : D → Sl → Option Sl) (c : M Bool) (e : M D) (vs : List Nat) : M R := fun st => match it st with
  | some (.v ds, s) => if vs.all (fun i => !isOwned (s.getD i none)) then (match lcL g c e vs ds [] (wipeS s vs) with
      | some (ys, s') => some (.v (.ol ys), backS s s' vs)
      | none => none) else none
  | some (.x c, s) => some (.x c, s)
  | none => none
def cYes : M Bool := ret true
theorem semT_yes : SemT T E tYes cYes := by
  intro st σ B F H S o s h Q hQ
  cases h
  exact hQ B H (Ex.refl B) S
def SemGB (T : Tab) (vs : List Nat) (g : TG) (gf : D → Sl → Option Sl) : Prop := ∀ st σ B F H, Sim T st σ B F H → ∀ d v s, Rep T B d v → gf d st = some s → ∀ Q : St → Hp → Prop, (∀ σ', L2.wipe σ' vs = L2.wipe σ vs → Sim T s σ' B F H → Q σ' H) → g v σ H Q
theorem semR_lc {wi : TI} {it : M (List D)} {g : TG} {gf : D → Sl → Option Sl} {tt : TT} {c : M Bool} {te : TE} {e : M D} {vs : List Nat} (hi : SemI T E wi it) (hg : SemGB T vs g gf) (hc : SemT T (fun _ => E0) tt c) (he : SemE T (fun _ => E0) te e) (idem : ∀ σ : St, L2.wipe (L2.wipe σ vs) vs = L2.wipe σ vs) :
    SemR T E (tLc wi g tt te vs) (rLc it gf c e vs) := by
  intro st σ B F H S o s h Q hQ
  unfold rLc at h
  split at h
  · rename_i ds s0 e0
    split at h
    · rename_i hno
      split at h
      · rename_i ys s' el
        cases h
        refine hi st σ B F H S _ _ e0 _ fun B1 H1 x1 S1 J hJ D hD => ?_
        have Sw := S1.wipe vs
        have SD : Sim T (some (.ol []) :: wipeS s0 vs) (some (.ref D) :: L2.wipe σ vs) B1 F (upd H1 D (.lst [])) := Sw.alloc hD (fun _ z => nomatch z) (relR_ol upd_same reps_nil)
        refine ⟨fun i m H2 => i ≤ ds.length ∧ m = ds.length - i ∧ ∃ acc sI B2, Ex B1 B2 ∧ Sim T (some (.ol acc) :: sI) (some (.ref D) :: L2.wipe σ vs) B2 F H2 ∧ lcL gf c e vs (ds.drop i) acc sI = some (ys, s'), ⟨ds.length, Nat.zero_le _, by omega, [], _, B1, Ex.refl _, SD, el⟩, ?_⟩
        rintro i m H2 ⟨hle, rfl, acc, sI, B2, x2, S2, h2⟩
        by_cases hlt : i < ds.length
        · refine .inr ⟨hJ.go i H2 hlt (x2.trans S2.exB), ?_⟩
          rw [List.drop_eq_getElem_cons hlt] at h2
          have hget : ds[i]? = some ds[i] := List.getElem?_eq_getElem hlt
          generalize ds[i] = d at h2 hget
          unfold lcL at h2
          split at h2
          · cases h2
          · rename_i s3 eg
            refine ⟨fun H' => ∃ m', m' < ds.length - i ∧ (i + 1 ≤ ds.length ∧ m' = ds.length - (i + 1) ∧ ∃ acc sI B2, Ex B1 B2 ∧ Sim T (some (.ol acc) :: sI) (some (.ref D) :: L2.wipe σ vs) B2 F H' ∧ lcL gf c e vs (ds.drop (i + 1)) acc sI = some (ys, s')), fun H' z => z, fun x H3 hy => ?_⟩
            obtain ⟨B3, x3, hx⟩ := hJ.yld i d H2 x H3 B2 hget x2 S2.exB hy
            have S3 := S2.ext x3
            have S3h := S3.hide rfl
            refine hg sI _ B3 _ H3 S3h d x s3 hx eg _ fun σ4 k4 S4 => ⟨by rw [k4, idem], ?_⟩
            split at h2
            · rename_i s5 ec
              refine hc s3 σ4 B3 _ H3 S4 _ _ ec _ fun B5 H5 x5 S5 => ?_
              show if true = true then _ else _
              rw [if_pos rfl]
              split at h2
              · rename_i y s6 ee
                split at h2
                · rename_i hsz
                  refine he s5 σ4 B5 _ H5 S5 _ _ ee _ fun B6 H6 x6 S6 v hv => ?_
                  have SU := S3.unhide rfl (x5.trans x6) S6
                  obtain ⟨p, ws, ep, hp, hr⟩ := SU.top
                  cases ep
                  refine ⟨ws, hp, by rw [← hr.length]; exact hsz, _, by omega, hlt, rfl, acc ++ [y], wipeS s6 vs, B6, x2.trans (x3.b.trans (x5.trans x6)), ?_, h2⟩
                  have SC := SU.change (i := 0) (r' := .ol (acc ++ [y])) (o := .lst (ws ++ [v])) rfl rfl rfl (fun _ z => nomatch z) ⟨_, _, rfl, upd_same, hr.append (reps_cons hv reps_nil)⟩
                  have SC' : Sim T (some (.ol (acc ++ [y])) :: s6) (some (.ref D) :: σ4) B6 F (upd H6 D (.lst (ws ++ [v]))) := SC
                  have SW := (SC'.hide rfl).wipe vs
                  rw [k4, idem] at SW
                  exact SC'.unhide rfl (Ex.refl _) SW
                · cases h2
              · cases h2
            · rename_i s5 ec
              refine hc s3 σ4 B3 _ H3 S4 _ _ ec _ fun B5 H5 x5 S5 => ?_
              show if false = true then _ else _
              rw [if_neg Bool.false_ne_true]
              refine ⟨_, by omega, hlt, rfl, acc, wipeS s5 vs, B5, x2.trans (x3.b.trans x5), ?_, h2⟩
              have SW := S5.wipe vs
              rw [k4, idem] at SW
              exact S3.unhide rfl x5 SW
            · cases h2
        · have ei : i = ds.length := by omega
          subst ei
          refine .inl ⟨hJ.stop H2 (x2.trans S2.exB), ?_⟩
          rw [List.drop_length] at h2
          cases h2
          refine hQ _ B2 H2 (x1.trans x2) ?_
          have no : ∀ i ∈ vs, isOwned (s0.getD i none) = false := fun i hm => by
            have := List.all_eq_true.mp hno i hm
            simpa using this
          -- the list hidden, the names as they were, the list shown
          have Sh := S2.hide rfl
          have Sh0 : Sim T s' (L2.wipe σ vs) B2 (addF F H2 D) H2 := Sh
          have key : Sim T (backS s0 s' vs) σ B2 (addF F H2 D) H2 := by
            have dd : ∀ {i : Nat} {r : R}, i ∈ vs → s0[i]? = some (some r) → ∃ x, r = .d x := fun {i r} h1 h2 => by
              have := no i h1
              rw [List.getD_eq_getElem?_getD, h2] at this
              cases r with
              | d x => exact ⟨x, rfl⟩
              | _ => cases this
            refine ⟨Sh0.exB, Sh0.exF, Sh0.dis, Sh0.tup, by rw [backS_length]; have := Sh0.len; rwa [wipe_length] at this, fun i r h => ?_, fun i r v a h1 h2 h3 => ?_, fun i j r q v u a n h1 h2 h3 h4 h5 h6 => ?_⟩
            · rcases backS_at h with ⟨h1, h2⟩ | ⟨h1, h2⟩
              · obtain ⟨x, rfl⟩ := dd h1 h2
                obtain ⟨v, a, b⟩ := S1.rel i _ h2
                exact ⟨v, a, Rep.mono x2 x b⟩
              · obtain ⟨v, a, b⟩ := Sh0.rel i r h2
                exact ⟨v, by rw [← wipe_other h1]; exact a, b⟩
            · rcases backS_at h1 with ⟨g1, g2⟩ | ⟨g1, g2⟩
              · obtain ⟨x, rfl⟩ := dd g1 g2; exact h3.elim
              · exact Sh0.own i r v a g2 (by rw [wipe_other g1]; exact h2) h3
            · rcases backS_at h1 with ⟨g1, g2⟩ | ⟨g1, g2⟩
              · obtain ⟨x, rfl⟩ := dd g1 g2; exact h5.elim
              · rcases backS_at h3 with ⟨g3, g4⟩ | ⟨g3, g4⟩
                · obtain ⟨x, rfl⟩ := dd g3 g4; exact h6.elim
                · exact Sh0.sep i j r q v u a n g2 (by rw [wipe_other g1]; exact h2) g4 (by rw [wipe_other g3]; exact h4) h5 h6
          exact S2.unhide rfl (Ex.refl _) key
      · cases h
    · cases h
  · rename_i c s0 e0
    cases h
    exact hi st σ B F H S _ _ e0 _ fun d B1 H1 x1 S1 => hQ d B1 H1 x1 S1
  · cases h
theorem semGB_name {vs : List Nat} {i : Nat} (hw : ∀ (σ : St) x, L2.wipe (σ.set i (some x)) vs = L2.wipe σ vs) : SemGB T vs (gName i) (gN i) := by
  intro st σ B F H S d v s r h Q q
  cases h
  exact q _ (hw σ v) (Sim.store (S.push r) i)
end
end Fz
set_option Elab.async false
set_option linter.all false
set_option maxRecDepth 100000
set_option maxHeartbeats 2000000
namespace Fz
open PySem L2
section
variable {ι : Type} (T : Tab) (E : L2.St → XK) (X : ι → Cx)
def XE (e : Expr) (f : M D) : Prop := ∃ te, (∀ i, PE (X i) e te) ∧ SemE T E te f
def XR (e : Expr) (f : M R) : Prop := ∃ te, (∀ i, PE (X i) e te) ∧ SemR T E te f
def XT (e : Expr) (f : M Bool) : Prop := ∃ te, (∀ i, PT (X i) e te) ∧ SemT T E te f
def XW (e : Expr) (f : M Bool) : Prop := ∃ te, (∀ i, PW (X i) e te) ∧ SemT T E te f
def XA (es : List Expr) (f : M (List D)) : Prop := ∃ te, (∀ i, PA (X i) es te) ∧ SemA T E te f
def XAA (es : List Expr) (f : M (List Arg)) : Prop := ∃ te, (∀ i, PA (X i) es te) ∧ SemAA T E te f
def XO (e : Option Expr) (f : M (Option Int)) : Prop := ∃ te, (∀ i, PO (X i) e te) ∧ SemO T E te f
def XI (tg e : Expr) (f : M (List D)) : Prop := ∃ wi, (∀ i, PI (X i) tg e wi) ∧ SemI T E wi f
def XG (kp : Nat → Bool) (tg : Expr) (f : D → Sl → Option Sl) : Prop := ∃ g, (∀ i, PG (X i) tg g) ∧ SemG T kp g f
def XGs (kp : Nat → Bool) (tgs : List Expr) (f : List D → Sl → Option Sl) : Prop := ∃ g, (∀ i, PGs (X i) tgs g) ∧ SemGs T kp g f
def XS (kp : Nat → Bool) (st : Stmt) (f : MS) : Prop := ∃ t, (∀ i, PS (X i) st t) ∧ SemS T E kp t f
def XSs (kp : Nat → Bool) (st : List Stmt) (f : MS) : Prop := ∃ t, (∀ i, PSs (X i) st t) ∧ SemS T E kp t f
end
section
variable {ι : Type} {T : Tab} {E : L2.St → XK} {X : ι → Cx} {kp : Nat → Bool} {pos : Pos} {e a b c : Expr} {es : List Expr} {fa fb fc : M D} {fs : M (List D)} {fl : M (List Arg)} {r : M R} {x : Str}
theorem xe_var (i : Nat) (hN : ∀ j, (X j).N[i]? = some x := by intro j; rfl) (hv : ∀ j, Vis (X j).env.scope x := by intro j; first | exact Or.inl rfl | exact Or.inr (Or.inl rfl) | exact Or.inr (Or.inr rfl))
    (hd : (x == ("__debug__" : Str)) = false := by decide +kernel) (hcd : (x == ("__classdict__" : Str)) = false := by decide +kernel) : XE T E X (.Name x pos) (eVar i) := ⟨_, fun j => pe_var (hN j) (hv j) hd hcd, semE_var⟩
theorem xr_mv (i : Nat) (hN : ∀ j, (X j).N[i]? = some x := by intro j; rfl) (hv : ∀ j, Vis (X j).env.scope x := by intro j; first | exact Or.inl rfl | exact Or.inr (Or.inl rfl) | exact Or.inr (Or.inr rfl))
    (hd : (x == ("__debug__" : Str)) = false := by decide +kernel) (hcd : (x == ("__classdict__" : Str)) = false := by decide +kernel) : XR T E X (.Name x pos) (rMv i) := ⟨_, fun j => pe_var (hN j) (hv j) hd hcd, semR_mv⟩
theorem xe_int {i : Int} {j : Nat} : XE T E X (.Constant (.int i) j pos) (ret (.int i)) := ⟨_, fun _ => pe_int, semE_c fun _ => rfl⟩
theorem xe_bl {b : Bool} {j : Nat} : XE T E X (.Constant (.bool b) j pos) (ret (.bl b)) := ⟨_, fun _ => pe_bl, semE_c fun _ => rfl⟩
theorem xe_str {s : Str} {j : Nat} (h : PyData.strOk s = true := by decide +kernel) : XE T E X (.Constant (.str s) j pos) (ret (.str s)) := ⟨_, fun _ => pe_str, semE_c fun _ => ⟨rfl, h⟩⟩
theorem xe_fz (h : XR T E X e r) : XE T E X e (eFz (fun c => (T.flds c).length) r) := let ⟨_, h1, h2⟩ := h; ⟨_, h1, semE_fz h2⟩
theorem xr_d (h : XE T E X e fa) : XR T E X e (rD fa) := let ⟨_, h1, h2⟩ := h; ⟨_, h1, semR_d h2⟩
theorem xe_full (h : XE T E X e fa) : XE T E X e (eFull (fun c => (T.flds c).length) fa) := let ⟨_, h1, h2⟩ := h; ⟨_, h1, semE_all h2⟩
theorem xe_bin {op : Operator} {rr : R2} {g : D → D → Option D} (ho : ∀ j, OpR (X j) (binaryOp op) rr) (hp : Prim2 T rr g) (ha : XE T E X a fa) (hb : XE T E X b fb) : XE T E X (.BinOp a op b pos) (eBin g fa fb) :=
  let ⟨_, a1, a2⟩ := ha; let ⟨_, b1, b2⟩ := hb; ⟨_, fun j => pe_op (ho j) (a1 j) (b1 j), semE_op hp a2 b2⟩
theorem xe_add (hK : ∀ j, (X j).K = T.K := by intro j; rfl) (ha : XE T E X a fa) (hb : XE T E X b fb) : XE T E X (.BinOp a .Add b pos) (eBin dAdd fa fb) := xe_bin (fun j => by rw [← hK j]; exact op_addA) p_add ha hb
theorem xe_mul (ha : XE T E X a fa) (hb : XE T E X b fb) : XE T E X (.BinOp a .Mult b pos) (eBin dMul fa fb) := xe_bin (fun j => op_mul) p_mul ha hb
theorem xe_mod (ha : XE T E X a fa) (hb : XE T E X b fb) : XE T E X (.BinOp a .Mod b pos) (eBin dMod fa fb) := xe_bin (fun j => op_mod) p_mod ha hb
theorem xe_div (ha : XE T E X a fa) (hb : XE T E X b fb) : XE T E X (.BinOp a .FloorDiv b pos) (eBin dDiv fa fb) := xe_bin (fun j => op_fdiv) p_div ha hb
theorem xe_cmp {op : CmpOp} {rr : R2} {g : D → D → Option D} (ho : ∀ j, OpR (X j) (compareOp op) rr) (hp : Prim2 T rr g) (hm : behindInMarks op b = false) (ha : XE T E X a fa) (hb : XE T E X b fb) : XE T E X (.Compare a [op] [b] pos) (eBin g fa fb) :=
  let ⟨_, a1, a2⟩ := ha; let ⟨_, b1, b2⟩ := hb; ⟨_, fun j => pe_cmpR (ho j) (a1 j) (b1 j) hm, semE_op hp a2 b2⟩
def Rm (X : ι → Cx) : Prop := ∀ j, (X j).A.units + 65 < cLine
theorem xe_eq (hu : Rm X) (hK : ∀ j, (X j).K = T.K := by intro j; rfl) (ha : XE T E X a fa) (hb : XE T E X b fb) : XE T E X (.Compare a [.Eq] [b] pos) (eBin dEq fa fb) := xe_cmp (fun j => by rw [← hK j]; exact op_eqD (by have := hu j; omega)) p_eq (nomark _) ha hb
def eTst (f : M D) : M Bool := bnd f fun x => opt (match x with | .bl b => some b | _ => none)
theorem semT_tst {te : TE} (h : SemE T E te fa) : SemT T E (tTest te) (eTst fa) := by
  intro st σ B F H S o s hf Q hQ
  refine okx_bnd hf hQ (fun o1 s1 e1 q => h st σ B F H S o1 s1 e1 _ q) fun a s1 B1 H1 _ h2 e1 S1 hQ1 v hv => ?_
  obtain ⟨z, hz, rfl, rfl⟩ := opt_some h2
  split at hz
  · cases hz; cases rep_bl hv
    exact ⟨_, rfl, hQ1 B1 H1 (Ex.refl _) S1⟩
  · cases hz
theorem xt_cmp {op : CmpOp} {rr : R2} {g : D → D → Option D} (ho : ∀ j, OpR (X j) (compareOp op) rr) (hp : Prim2 T rr g) (hm : behindInMarks op b = false) (ha : XE T E X a fa) (hb : XE T E X b fb) : XT T E X (.Compare a [op] [b] pos) (eTst (eBin g fa fb)) :=
  let ⟨_, a1, a2⟩ := ha; let ⟨_, b1, b2⟩ := hb; ⟨_, fun j => pt_cmpR (ho j) (a1 j) (b1 j) hm, semT_tst (semE_op hp a2 b2)⟩
theorem xt_eq (hu : Rm X) (hK : ∀ j, (X j).K = T.K := by intro j; rfl) (ha : XE T E X a fa) (hb : XE T E X b fb) : XT T E X (.Compare a [.Eq] [b] pos) (eTst (eBin dEq fa fb)) := xt_cmp (fun j => by rw [← hK j]; exact op_eqD (by have := hu j; omega)) p_eq (nomark _) ha hb
theorem xt_ne (hu : Rm X) (hK : ∀ j, (X j).K = T.K := by intro j; rfl) (ha : XE T E X a fa) (hb : XE T E X b fb) : XT T E X (.Compare a [.NotEq] [b] pos) (eTst (eBin dNe fa fb)) := xt_cmp (fun j => by rw [← hK j]; exact op_neD (by have := hu j; omega)) p_ne (nomark _) ha hb
theorem xt_lt (ha : XE T E X a fa) (hb : XE T E X b fb) : XT T E X (.Compare a [.Lt] [b] pos) (eTst (eBin dLt fa fb)) := xt_cmp (fun j => op_ltA) p_lt (nomark _) ha hb
theorem xt_gt (ha : XE T E X a fa) (hb : XE T E X b fb) : XT T E X (.Compare a [.Gt] [b] pos) (eTst (eBin dGt fa fb)) := xt_cmp (fun j => op_gtA) p_gt (nomark _) ha hb
theorem xt_val (ha : XE T E X e fa) (he : ∀ j whole, isTrue e (X j).env whole = (do let v ← whole; standAt e.pos; holding [v] (truthy v)) := by intro _ _; rfl) : XT T E X e (eTst fa) :=
  let ⟨_, a1, a2⟩ := ha; ⟨_, fun j => pt_val (a1 j) (he j), semT_tst a2⟩
def eChain (g g' : D → D → Option D) (fa fb fc : M D) : M D := bnd fa fun x => bnd fb fun y => bnd (opt (g x y)) fun z => match z with
  | .bl true => bnd fc fun w => opt (g' y w)
  | .bl false => ret (.bl false)
  | _ => fun _ => none
def cAnd (f g : M Bool) : M Bool := bnd f fun b => if b = true then g else ret false
def cOr (f g : M Bool) : M Bool := bnd f fun b => if b = true then ret true else g
def cNot (f : M Bool) : M Bool := bnd f fun b => ret !b
variable {f g : M Bool} {rest : List Expr}
theorem semT_and {t u : TT} (h1 : SemT T E t f) (h2 : SemT T E u g) : SemT T E (tAnd t u) (cAnd f g) := by
  intro st σ B F H S o s h Q hQ
  refine okx_bnd h hQ (fun o1 s1 e1 q => h1 st σ B F H S o1 s1 e1 _ q) fun b s1 B1 H1 _ h3 e1 S1 hQ1 => ?_
  cases b with
  | true => exact h2 s1 σ B1 F H1 S1 o s h3 Q hQ1
  | false => cases h3; exact hQ1 B1 H1 (Ex.refl _) S1
theorem semT_or {t u : TT} (h1 : SemT T E t f) (h2 : SemT T E u g) : SemT T E (tOr t u) (cOr f g) := by
  intro st σ B F H S o s h Q hQ
  refine okx_bnd h hQ (fun o1 s1 e1 q => h1 st σ B F H S o1 s1 e1 _ q) fun b s1 B1 H1 _ h3 e1 S1 hQ1 => ?_
  cases b with
  | false => exact h2 s1 σ B1 F H1 S1 o s h3 Q hQ1
  | true => cases h3; exact hQ1 B1 H1 (Ex.refl _) S1
theorem semT_not {t : TT} (h1 : SemT T E t f) : SemT T E (tNot t) (cNot f) := by
  intro st σ B F H S o s h Q hQ
  refine okx_bnd h hQ (fun o1 s1 e1 q => h1 st σ B F H S o1 s1 e1 _ q) fun b s1 B1 H1 _ h3 e1 S1 hQ1 => ?_
  cases h3
  exact hQ1 B1 H1 (Ex.refl _) S1
theorem xw_and1 (ha : XT T E X a f) : XW T E X (.BoolOp .And [a] pos) f := let ⟨_, a1, a2⟩ := ha; ⟨_, fun j => pw_and1 (a1 j), a2⟩
theorem xw_or1 (ha : XT T E X a f) : XW T E X (.BoolOp .Or [a] pos) f := let ⟨_, a1, a2⟩ := ha; ⟨_, fun j => pw_or1 (a1 j), a2⟩
theorem xw_and (ha : XT T E X a f) (hb : XW T E X (.BoolOp .And (b :: rest) pos) g) : XW T E X (.BoolOp .And (a :: b :: rest) pos) (cAnd f g) := let ⟨_, a1, a2⟩ := ha; let ⟨_, b1, b2⟩ := hb; ⟨_, fun j => pw_and (a1 j) (b1 j), semT_and a2 b2⟩
theorem xw_or (ha : XT T E X a f) (hb : XW T E X (.BoolOp .Or (b :: rest) pos) g) : XW T E X (.BoolOp .Or (a :: b :: rest) pos) (cOr f g) := let ⟨_, a1, a2⟩ := ha; let ⟨_, b1, b2⟩ := hb; ⟨_, fun j => pw_or (a1 j) (b1 j), semT_or a2 b2⟩
theorem xt_w (h : XW T E X e f) : XT T E X e f := let ⟨_, a1, a2⟩ := h; ⟨_, fun j => (a1 j).pt, a2⟩
theorem xt_not (ha : XT T E X a f) : XT T E X (.UnaryOp .Not a pos) (cNot f) := let ⟨_, a1, a2⟩ := ha; ⟨_, fun j => pt_not (a1 j), semT_not a2⟩
def eAnd (fa fb : M D) : M D := bnd fa fun x => match x with
  | .bl true => fb
  | .bl false => ret (.bl false)
  | _ => fun _ => none
def eOr (fa fb : M D) : M D := bnd fa fun x => match x with
  | .bl false => fb
  | .bl true => ret (.bl true)
  | _ => fun _ => none
def eNot (fa : M D) : M D := bnd fa fun x => opt (match x with | .bl b => some (.bl !b) | _ => none)
theorem semE_and {ta tb : TE} (ha : SemE T E ta fa) (hb : SemE T E tb fb) : SemE T E (tAndV ta tb) (eAnd fa fb) := by
  intro st σ B F H S o s h Q hQ
  refine okx_bnd h hQ (fun o1 s1 e1 q => ha st σ B F H S o1 s1 e1 _ q) fun a s1 B1 H1 _ h2 e1 S1 hQ1 v hv => ?_
  split at h2
  · cases rep_bl hv
    refine ⟨true, rfl, ?_⟩
    rw [if_pos rfl]
    exact hb s1 σ B1 F H1 S1 o s h2 Q hQ1
  · cases rep_bl hv
    refine ⟨false, rfl, ?_⟩
    rw [if_neg Bool.false_ne_true]
    cases h2
    exact hQ1 B1 H1 (Ex.refl _) S1 _ rfl
  · cases h2
theorem xe_one {op : BoolOp} (ha : XE T E X a fa) : XE T E X (.BoolOp op [a] pos) fa := let ⟨_, a1, a2⟩ := ha; ⟨_, fun j => pe_one (a1 j), a2⟩
theorem xe_and (ha : XE T E X a fa) (hb : XE T E X (.BoolOp .And (b :: rest) pos) fb) : XE T E X (.BoolOp .And (a :: b :: rest) pos) (eAnd fa fb) := let ⟨_, a1, a2⟩ := ha; let ⟨_, b1, b2⟩ := hb; ⟨_, fun j => pe_and (a1 j) (b1 j), semE_and a2 b2⟩
def rIf (c : M Bool) (p q : M R) : M R := bnd c fun b => if b = true then p else q
def eIf (c : M Bool) (p q : M D) : M D := bnd c fun b => if b = true then p else q
theorem xa_nil : XA T E X [] eNil := ⟨_, fun _ => pa_nil, semA_nil⟩
theorem xa_cons (ha : XE T E X e fa) (hr : XA T E X es fs) (hs : ∀ j, starEach (e :: es) (X j).env = (false, eval e (X j).env) :: starEach es (X j).env := by intro j; rfl) : XA T E X (e :: es) (eCons fa fs) := let ⟨_, a1, a2⟩ := ha; let ⟨_, b1, b2⟩ := hr; ⟨_, fun j => pa_cons (a1 j) (b1 j) (hs j), semA_cons a2 b2⟩
theorem xaa_nil : XAA T E X [] aNil := ⟨_, fun _ => pa_nil, semAA_nil⟩
theorem xaa_v (ha : XE T E X e fa) (hr : XAA T E X es fl) (hs : ∀ j, starEach (e :: es) (X j).env = (false, eval e (X j).env) :: starEach es (X j).env := by intro j; rfl) : XAA T E X (e :: es) (aV fa fl) := let ⟨_, a1, a2⟩ := ha; let ⟨_, b1, b2⟩ := hr; ⟨_, fun j => pa_cons (a1 j) (b1 j) (hs j), semAA_v a2 b2⟩
theorem xe_tup {k : Nat} (h : XA T E X es fs) : XE T E X (.Tuple es k pos) (eTup fs) := let ⟨_, a1, a2⟩ := h; ⟨_, fun j => pe_tup (a1 j), semE_tup a2⟩
theorem xr_lst (h : XA T E X es fs) : XR T E X (.List es pos) (rLst fs) := let ⟨_, a1, a2⟩ := h; ⟨_, fun j => pe_lst (a1 j), semR_lst a2⟩
theorem xe_ix (hK : ∀ j, (X j).K = T.K := by intro j; rfl) (ha : XE T E X a fa) (hb : XE T E X b fb) (hs : PlainIx b := by exact fun _ _ => rfl) : XE T E X (.Subscript a b pos) (eBin dIx fa fb) :=
  let ⟨_, a1, a2⟩ := ha; let ⟨_, b1, b2⟩ := hb; ⟨_, fun j => pe_ix (by rw [← hK j]; exact ix_seq) (a1 j) (b1 j) hs, semE_op p_ix a2 b2⟩
theorem xo_none : XO T E X none oNone := ⟨_, fun _ => po_none, semO_none⟩
theorem xo_some (h : XE T E X e fa) : XO T E X (some e) (oSome fa) := let ⟨_, a1, a2⟩ := h; ⟨_, fun j => po_some (a1 j), semO_some a2⟩
theorem xe_sl {lo hi : Option Expr} {fl fh : M (Option Int)} {p2 : Pos} (hK : ∀ j, (X j).K = T.K := by intro j; rfl) (ha : XE T E X e fa) (hl : XO T E X lo fl) (hh : XO T E X hi fh) : XE T E X (.Subscript e (.Slice lo hi none p2) pos) (eSl fa fl fh) :=
  let ⟨_, a1, a2⟩ := ha; let ⟨_, b1, b2⟩ := hl; let ⟨_, c1, c2⟩ := hh; ⟨_, fun j => pe_slice (by rw [← hK j]; exact sl_ts) (a1 j) (b1 j) (c1 j), semE_sl a2 b2 c2⟩
theorem xr_sl {lo hi : Option Expr} {fl fh : M (Option Int)} {p2 : Pos} (hK : ∀ j, (X j).K = T.K := by intro j; rfl) (ha : XE T E X e fa) (hl : XO T E X lo fl) (hh : XO T E X hi fh) : XR T E X (.Subscript e (.Slice lo hi none p2) pos) (rSlL' fa fl fh) :=
  let ⟨_, a1, a2⟩ := ha; let ⟨_, b1, b2⟩ := hl; let ⟨_, c1, c2⟩ := hh; ⟨_, fun j => pe_slice (by rw [← hK j]; exact sl_list) (a1 j) (b1 j) (c1 j), semR_sl a2 b2 c2⟩
theorem xe_callB {id : String} {rr : List V → Hp → VK → Prop} {g : List D → Option D} {p : Pos} (hc : ∀ j, CallR (X j) (.builtin id) rr) (hp : PrimN T rr g) (hm : ∀ j, (X j).mg x = none) (hv : bootBuiltins x = some (.builtin id)) (ha : XA T E X (e :: es) fs)
    (hg : ∀ j, Gl (X j) x := by intro j; rfl) (hn : x ≠ "__name__" := by decide +kernel) (hdb : (x == ("__debug__" : Str)) = false := by decide +kernel) (he : ∀ j, starEach (e :: es) (X j).env = (false, eval e (X j).env) :: starEach es (X j).env := by intro j; rfl)
    (hpl : ∀ j, (backTo pos (starEach es (X j).env)).any (·.1) = false := by intro j; rfl) : XE T E X (.Call (.Name x p) (e :: es) [] pos) (eOp g fs) :=
  let ⟨_, a1, a2⟩ := ha; ⟨_, fun j => pe_callB (hc j) (hg j) (hm j) hv (a1 j) hn hdb (he j) (hpl j), semE_callN hp a2⟩
theorem xe_callTy {Ty : String} {rr : List V → Hp → VK → Prop} {g : List D → Option D} {p : Pos} (hc : ∀ j, CallR (X j) (.type Ty) rr) (hp : PrimN T rr g) (hm : ∀ j, (X j).mg x = none) (hv : bootBuiltins x = some (.type Ty)) (ha : XA T E X (e :: es) fs)
    (hg : ∀ j, Gl (X j) x := by intro j; rfl) (hn : x ≠ "__name__" := by decide +kernel) (hdb : (x == ("__debug__" : Str)) = false := by decide +kernel) (he : ∀ j, starEach (e :: es) (X j).env = (false, eval e (X j).env) :: starEach es (X j).env := by intro j; rfl)
    (hpl : ∀ j, (backTo pos (starEach es (X j).env)).any (·.1) = false := by intro j; rfl) : XE T E X (.Call (.Name x p) (e :: es) [] pos) (eOp g fs) :=
  let ⟨_, a1, a2⟩ := ha; ⟨_, fun j => pe_callTy (hc j) (hg j) (hm j) hv (a1 j) hn hdb (he j) (hpl j), semE_callN hp a2⟩
theorem xr_callTy {Ty : String} {rr : List V → Hp → VK → Prop} {g : List D → Option (List D)} {p : Pos} (hc : ∀ j, CallR (X j) (.type Ty) rr) (hp : PrimL T rr g) (hm : ∀ j, (X j).mg x = none) (hv : bootBuiltins x = some (.type Ty)) (ha : XA T E X (e :: es) fs)
    (hg : ∀ j, Gl (X j) x := by intro j; rfl) (hn : x ≠ "__name__" := by decide +kernel) (hdb : (x == ("__debug__" : Str)) = false := by decide +kernel) (he : ∀ j, starEach (e :: es) (X j).env = (false, eval e (X j).env) :: starEach es (X j).env := by intro j; rfl)
    (hpl : ∀ j, (backTo pos (starEach es (X j).env)).any (·.1) = false := by intro j; rfl) : XR T E X (.Call (.Name x p) (e :: es) [] pos) (rOp g fs) :=
  let ⟨_, a1, a2⟩ := ha; ⟨_, fun j => pe_callTy (hc j) (hg j) (hm j) hv (a1 j) hn hdb (he j) (hpl j), semR_callL hp a2⟩
theorem xr_callB {id : String} {rr : List V → Hp → VK → Prop} {g : List D → Option (List D)} {p : Pos} (hc : ∀ j, CallR (X j) (.builtin id) rr) (hp : PrimL T rr g) (hm : ∀ j, (X j).mg x = none) (hv : bootBuiltins x = some (.builtin id)) (ha : XA T E X (e :: es) fs)
    (hg : ∀ j, Gl (X j) x := by intro j; rfl) (hn : x ≠ "__name__" := by decide +kernel) (hdb : (x == ("__debug__" : Str)) = false := by decide +kernel) (he : ∀ j, starEach (e :: es) (X j).env = (false, eval e (X j).env) :: starEach es (X j).env := by intro j; rfl)
    (hpl : ∀ j, (backTo pos (starEach es (X j).env)).any (·.1) = false := by intro j; rfl) : XR T E X (.Call (.Name x p) (e :: es) [] pos) (rOp g fs) :=
  let ⟨_, a1, a2⟩ := ha; ⟨_, fun j => pe_callB (hc j) (hg j) (hm j) hv (a1 j) hn hdb (he j) (hpl j), semR_callL hp a2⟩
variable {tg : Expr}
theorem xi_lst (hK : ∀ j, (X j).K = T.K := by intro j; rfl) (h : XE T E X e fa) : XI T E X tg e (iLst fa) := let ⟨_, a1, a2⟩ := h; ⟨_, fun j => by rw [← hK j]; exact pi_list (a1 j), semI_lst a2⟩
theorem xi_seq (hK : ∀ j, (X j).K = T.K := by intro j; rfl) (h : XE T E X e fa) : XI T E X tg e (iSeq fa) := by
  obtain ⟨te, a1, a2⟩ := h
  refine ⟨_, fun j => ⟨fun pins s σ H R I h => ?_⟩, semI_seq a2⟩
  rcases h with h | h
  · exact (show PI (X j) tg e (iList T.K te) by rw [← hK j]; exact pi_list (a1 j)).run pins s σ H R I h
  · exact (show PI (X j) tg e (iTup T.K te) by rw [← hK j]; exact pi_tup (a1 j)).run pins s σ H R I h
theorem xi_r1 {p : Pos} (hm : ∀ j, (X j).mg "range" = none) (h : XA T E X [a] fs) (hg : ∀ j, Gl (X j) "range" := by intro j; rfl) (hs : ∀ j, starEach [a] (X j).env = [(false, eval a (X j).env)] := by intro j; rfl) : XI T E X tg (.Call (.Name "range" p) [a] [] pos) (iR1 fs) := let ⟨_, a1, a2⟩ := h; ⟨_, fun j => pi_range1 (hg j) (hm j) (a1 j) (hs j), semI_r1 a2⟩
theorem xi_en {p tpos : Pos} {elts : List Expr} {kk : Nat} (hK : ∀ j, (X j).K = T.K := by intro j; rfl) (hm : ∀ j, (X j).mg "enumerate" = none) (h : XA T E X [a] fs) (hg : ∀ j, Gl (X j) "enumerate" := by intro j; rfl) (hs : ∀ j, starEach [a] (X j).env = [(false, eval a (X j).env)] := by intro j; rfl) : XI T E X (.Tuple elts kk tpos) (.Call (.Name "enumerate" p) [a] [] pos) (iEn fs) := let ⟨_, a1, a2⟩ := h; ⟨_, fun j => by rw [← hK j]; exact pi_enum (hg j) (hm j) (a1 j) (hs j), semI_en a2⟩
theorem xg_name (i : Nat) (hk : kp i = false := by rfl) (hN : ∀ j, (X j).N.Nodup) (hi : ∀ j, (X j).N[i]? = some x := by intro j; rfl) (hx : ∀ j, Loc (X j).env.scope x := by intro j; first | exact Or.inl rfl | exact Or.inr rfl) (hf : ∀ j, (X j).fn x = true ∨ (X j).env.scope.names.lookup x = some .local := by intro j; first | exact .inl rfl | exact .inr rfl) : XG T X kp (.Name x pos) (gN i) :=
  ⟨_, fun j => pg_name (hN j) (hi j) (hx j) (hf j), semG_name hk⟩
theorem xgs_nil : XGs T X kp [] gsN := ⟨_, fun _ => pgs_nil, semGs_nil⟩
theorem xgs_cons {f : D → Sl → Option Sl} {g : List D → Sl → Option Sl} (h1 : XG T X kp e f) (h2 : XGs T X kp es g) (hs : ∀ j, (assignEach (e :: es) (X j).env).map (·.2) = assign e (X j).env :: (assignEach es (X j).env).map (·.2) := by intro j; rfl) : XGs T X kp (e :: es) (gsC f g) := let ⟨_, a1, a2⟩ := h1; let ⟨_, b1, b2⟩ := h2; ⟨_, fun j => pgs_cons (a1 j) (b1 j) (hs j), semGs_cons a2 b2⟩
theorem xg_tup {k n : Nat} {g : List D → Sl → Option Sl} (hK : ∀ j, (X j).K = T.K := by intro j; rfl) (hc : ∀ j, (X j).calm = true := by intro j; rfl) (h : XGs T X kp es g) (hn : ∀ j, (assignEach es (X j).env).length = n := by intro j; rfl) (hst : ∀ j, (assignEach es (X j).env).findIdx? (·.1) = none := by intro j; rfl) : XG T X kp (.Tuple es k pos) (gT n g) := let ⟨_, a1, a2⟩ := h; ⟨_, fun j => by rw [← hK j]; exact pg_tup (hc j) (a1 j) (hn j) (hst j), semG_tup a2⟩
end
end Fz
set_option Elab.async false
set_option linter.all false
set_option maxRecDepth 100000
set_option maxHeartbeats 2000000
namespace Fz
open PySem L2
structure MkN (K : PySem.W.Frag) (C : Addr) : Prop where
  makes : PySem.W.makesIn K C = true
  init : PySem.W.findIn K (.ref C) "__init__" = some (some (.builtin "object.__init__"))
  kp : PySem.W.keepIn K (.ref C) = true
section
variable {X : Cx} {CX : CXT} {k : Nat} {f C : Addr} {fd : FuncData} {ps : List Str} {sp : Sp} {dvs : List V} {ds : List Value} {x m : Str} {p pos apos : Pos} {e o : Expr} {es : List Expr} {ta : TE} {t : TA} {pins : List (Addr × Obj)} {σ : L2.St} {H : Hp} {s : Shared} {Q : VK}
variable {E : XK}
theorem run_fnA {us : List Value} {vs : List V} (F : FnOk X.prog X.w X.K X.mg X.base CX k f fd ps sp) (hr : Room k X.A) (hb : Binds X.K fd ps ds) (hd : Vals dvs ds) (hx : PassesAt CX X σ E)
    (I : Inv X pins σ H s) (r : Vals vs us) (h : sp (vs ++ dvs) H Q E) : wpAny (model X.prog X.w) X.A (call (.ref f) us) (EP X pins σ Q) X.xe s := run_fnSD (E := fun _ => E) F hr hb hd hx I r h
theorem run_methS0 {pl : Sem Bool} (he : PE X o ta) (c : Cls X.K C) (hm : Meth X.K C m f) (F : FnOk X.prog X.w X.K X.mg X.base CX k f fd ps sp) (hr : Room k X.A) (hb : Binds X.K fd ps ds) (hd : Vals dvs ds) (hx : PassesAt CX X σ E)
    (ht : eval (.Call (.Attribute o m apos) [] [] pos) X.env = (do
      let ov ← eval o X.env
      standAt apos.atName
      let (f, first) ← holding [ov] (getMethod ov m pl)
      callWith pos f first (backTo pos (starEach [] X.env)) (backToKw pos (keywordEach [] X.env))))
    (I : Inv X pins σ H s) (h : tMeth C m sp dvs E ta tNil σ H Q) : wpAny (model X.prog X.w) X.A (eval (.Call (.Attribute o m apos) [] [] pos) X.env) (EP X pins σ Q) X.xe s := by
  refine PySem.W.methodCall_KW (pl := pl) (thn (he.run pins s σ H _ I h) fun u s1 ⟨x, H1, I1, rx, a, dx, fs, ex, ea, l, q⟩ => ?_) ht
  subst ex
  obtain rfl : u = Value.ref a := rx
  refine getmeth_ok I1 ea c hm l ?_
  exact PySem.W.callWith_K0 (first := [.ref a]) I1.kIn hm.kp (run_fnA (us := [.ref a]) (vs := [.ref a]) F hr hb hd hx I1 (.cons rfl .nil) q)
theorem run_makeS {us : List Value} {vs : List V} (M : Mk X.K C f) (F : FnOk X.prog X.w X.K X.mg X.base CX k f fd ps sp) (hr : Room (k + 1) X.A) (hb : Binds X.K fd ps ds) (hd : Vals dvs ds)
    (hx : PassesAt CX X σ E) (I : Inv X pins σ H s) (r : Vals vs us)
    (h : ∀ x dx, H x = none → H dx = none → dx ≠ x → sp (.ref x :: (vs ++ dvs)) (upd (upd H dx (.own x)) x (.ins C dx [])) (fun v H2 => v = .non ∧ Q (.ref x) H2) E) :
    wpAny (model X.prog X.w) X.A (call (.ref C) us) (EP X pins σ Q) X.xe s := by
  have hq := h (s.heap.objs.size + 1) s.heap.objs.size (I.hok.fresh (Nat.le_succ _)) (I.hok.fresh (Nat.le_refl _)) (Nat.ne_of_lt (Nat.lt_succ_self _))
  have I2 := Inv.made (C := C) I
  have r2 : Vals (V.ref (s.heap.objs.size + 1) :: (vs ++ dvs)) (Value.ref (s.heap.objs.size + 1) :: (us ++ ds)) := .cons rfl (r.append hd)
  have hl : (Value.ref (s.heap.objs.size + 1) :: us ++ ds).length = ps.length := by
    have e := r2.length
    rw [F.len _ _ _ _ hq] at e
    exact e.symm
  refine wpAny_call (make_map (f := f) I.kIn M.makes M.init (beq_iff_eq.mp M.fn) (codeAny_mono (F.run _ X.stack _ _ ⟨Value.ref (s.heap.objs.size + 1) :: us, []⟩ (Value.ref (s.heap.objs.size + 1) :: (us ++ ds)) _ _ E (hr.make C us [])
    (I2.env0.make C us []) (hb _ (Value.ref (s.heap.objs.size + 1) :: us) I2.kIn hl) r2 hq) fun r s' hq' => ?_))
  cases r with
  | error e => exact hx pins _ _ e s' I2 hq'
  | ok fl =>
    cases fl with
    | ret u =>
      obtain ⟨v, H', I3, rv, ev, q3⟩ := I2.after hq'
      subst ev
      exact ⟨rv, ⟨V.ref (s.heap.objs.size + 1), H', I3, rfl, q3⟩⟩
    | next => exact False.elim hq'
    | brk => exact False.elim hq'
    | cont => exact False.elim hq'
def tMakeS (C : Addr) (sp : Sp) (dvs : List V) (E : L2.St → XK) (t : TA) : TE := fun σ H Q => tMake C sp dvs (E σ) t σ H Q
theorem pe_makeS {E : L2.St → XK} (M : Mk X.K C f) (F : FnOk X.prog X.w X.K X.mg X.base CX k f fd ps sp) (hr : Room (k + 1) X.A) (hg : Gl X x) (hm : X.mg x = some (.ref C)) (hb : Binds X.K fd ps ds) (hd : Vals dvs ds) (hx : ∀ σ, PassesAt CX X σ (E σ))
    (ha : PA X (e :: es) t) (hdb : (x == ("__debug__" : Str)) = false := by decide) (he : starEach (e :: es) X.env = (false, eval e X.env) :: starEach es X.env := by rfl) (hpl : (backTo pos (starEach es X.env)).any (·.1) = false := by rfl) :
    PE X (.Call (.Name x p) (e :: es) [] pos) (tMakeS C sp dvs E t) := by
  refine ⟨fun pins s σ H Q I h => ?_⟩
  refine wpAny_Call_Name_kw (ld_glob I hg hm ?_ hdb)
  refine PySem.W.callWith_K (h₀ := X.base) I.ok.mod.kin M.kp (thn (ha.run pos pins s σ H _ I h) fun us s1 ⟨vs, H1, I1, r, q⟩ => ⟨I1.kIn, ?_⟩) he hpl
  exact run_makeS M F hr hb hd (hx σ) I1 r q
end
section
variable {ι : Type} {T : Tab} {E : L2.St → XK} {X : ι → Cx} {kp : Nat → Bool} {pos apos : Pos} {e a b c o : Expr} {es : List Expr} {fa fb fc : M D} {fs : M (List D)} {fl : M (List Arg)} {r : M R} {x m : Str} {st : Sl} {σ : L2.St} {B F H B' H' : Hp}
theorem Sim.fresh_ins (S : Sim T st σ B F H) {x dx : Addr} {c : Nat} (hx : H x = none) (hd : H dx = none) (ne : dx ≠ x) : Sim T (some (.oi c []) :: st) (some (.ref x) :: σ) B F (upd (upd H dx (.own x)) x (.ins (T.cls c) dx [])) := by
  have e1 : Ext B H B (upd H dx (.own x)) := ⟨Ex.refl _, Ex.new hd, S.exB.trans (Ex.new hd), fun _ _ h => .inl h, fun b xs h => by
    by_cases z : b = dx
    · subst z; rw [upd_same] at h; cases h
    · rw [upd_ne z] at h; exact .inl h⟩
  exact (S.ext e1).alloc (by rw [upd_ne (Ne.symm ne)]; exact hx) (fun _ z => nomatch z) ⟨x, dx, [], rfl, upd_same, by simp, reps_nil⟩
def rMakeN (c : Nat) : M R := ret (.oi c [])
structure FunAt (Y : Cx) (T : Tab) (E : L2.St → XK) (x : Str) (n : Nat) (F : Fn) (ds : List Value) : Prop where
  ex : ∃ f fd ps CX k, Y.mg x = some (.ref f) ∧ PySem.W.keepIn Y.K (.ref f) = true ∧ Binds Y.K fd ps ds ∧ FnOk Y.prog Y.w Y.K Y.mg Y.base CX k f fd ps (sp T n F) ∧ Room k Y.A ∧ (∀ σ, PassesAt CX Y σ (E σ))
theorem xr_call {n : Nat} {F : Fn} {ds : List Value} {dvs : List V} {dd : List D} {p : Pos} (hf : ∀ j, FunAt (X j) T E x n F ds) (hd : Vals dvs ds) (hD : ∀ B, Reps T B dd dvs) (ha : XAA T E X (e :: es) fl)
    (hg : ∀ j, Gl (X j) x := by intro j; rfl) (hdb : (x == ("__debug__" : Str)) = false := by decide +kernel) (he : ∀ j, starEach (e :: es) (X j).env = (false, eval e (X j).env) :: starEach es (X j).env := by intro j; rfl) (hpl : ∀ j, (backTo pos (starEach es (X j).env)).any (·.1) = false := by intro j; rfl) :
    XR T E X (.Call (.Name x p) (e :: es) [] pos) (rCall n F dd fl) := by
  obtain ⟨t, a1, a2⟩ := ha
  refine ⟨tCallSD (sp T n F) dvs E t, fun j => ?_, semR_call hD a2⟩
  obtain ⟨f, fd, ps, CX, k, h1, h2, h3, h4, h5, h6⟩ := (hf j).ex
  exact pe_callSD h4 h5 (hg j) h1 h2 h3 hd h6 (a1 j) hdb (he j) (hpl j)
structure MethAt (Y : Cx) (T : Tab) (E : L2.St → XK) (c : Nat) (m : Str) (n : Nat) (F : Fn) : Prop where
  ex : ∃ f fd ps CX k, Cls Y.K (T.cls c) ∧ Meth Y.K (T.cls c) m f ∧ Binds Y.K fd ps [] ∧ FnOk Y.prog Y.w Y.K Y.mg Y.base CX k f fd ps (sp T n F) ∧ Room k Y.A ∧ (∀ σ, PassesAt CX Y σ (E σ)) ∧ m ∉ T.flds c
def rMeth (n : Nat) (tab : Nat → Option Fn) (fa : M D) (fl : M (List Arg)) : M R := fun st => match fa st with
  | some (.v (.obj c fs), s1) => (match tab c with
    | some F => (bnd fl fun as => if as.length + 1 = n then callF F (.v (.obj c fs) :: as) else fun _ => none) s1
    | none => none)
  | _ => none
theorem lookup_none {fvs : List (Str × V)} {m : Str} (h : m ∉ fvs.map (·.1)) : fvs.lookup m = none := by
  induction fvs with
  | nil => rfl
  | cons p r ih =>
    obtain ⟨k, v⟩ := p
    simp only [List.map_cons, List.mem_cons, not_or] at h
    rw [List.lookup_cons]
    have : (m == k) = false := by simpa using h.1
    rw [this]
    exact ih h.2
theorem semR_meth {n : Nat} {tab : Nat → Option Fn} {ta : TE} {t : TA} (hfl : ∀ c F, tab c = some F → m ∉ T.flds c) (ha : SemE T E ta fa) (hl : SemAA T E t fl) : SemR T E (fun σ H Q => ∃ c F, tab c = some F ∧ tMeth (T.cls c) m (sp T n F) [] (E σ) ta t σ H Q) (rMeth n tab fa fl) := by
  intro st σ B F H S o s h Q hQ
  unfold rMeth at h
  split at h
  · rename_i c fs s1 e1
    split at h
    · rename_i G eG
      refine ⟨c, G, eG, ?_⟩
      refine ha st σ B F H S _ _ e1 _ fun B1 H1 x1 S1 v hv => ?_
      have hv' := hv
      unfold Rep at hv
      obtain ⟨a, dx, fvs, rfl, h2, h3, h4⟩ := hv
      refine ⟨a, dx, fvs, rfl, S1.exB a _ h2, lookup_none (by rw [h3]; exact hfl c G eG), ?_⟩
      have hQ1 : Okr T (E σ) o s σ B1 F (fun v _ H' => Q v H') := by
        cases o with
        | v r => exact fun v B2 H2 x2 S2 => hQ v B2 H2 (x1.trans x2) S2
        | x c => exact fun d B2 H2 x2 S2 => hQ d B2 H2 (x1.trans x2) S2
      rcases bnd_some h with ⟨k, e2, rfl⟩ | ⟨as, s2, e2, h5⟩
      · exact hl s1 σ B1 F H1 S1 _ _ e2 _ hQ1
      · refine hl s1 σ B1 F H1 S1 _ _ e2 _ fun B2 H2 x2 S2 vs hvs => ?_
        have hQ2 : Okr T (E σ) o s σ B2 F (fun v _ H' => Q v H') := by
          cases o with
          | v r => exact fun v B3 H3 x3 S3 => hQ1 v B3 H3 (x2.trans x3) S3
          | x c => exact fun d B3 H3 x3 S3 => hQ1 d B3 H3 (x2.trans x3) S3
        split at h5
        · rename_i hn
          have hA : ArgsAre T B2 σ (Arg.v (.obj c fs) :: as) (V.ref a :: vs) := .cons (Rep.mono x2 _ hv') hvs
          have h6 := okx_call S2 hA h5 hQ2
          have l := Paired.length hA
          rw [List.length_cons, hn] at l
          rw [← l] at h6
          rw [List.append_nil]
          exact h6
        · cases h5
    · cases h
  · cases h
theorem xr_meth0 {n : Nat} {tab : Nat → Option Fn} {pl : ι → Sem Bool} (hm : ∀ j c F, tab c = some F → MethAt (X j) T E c m n F) (hfl : ∀ c F, tab c = some F → m ∉ T.flds c) (ho : XE T E X o fa)
    (ht : ∀ j, eval (.Call (.Attribute o m apos) [] [] pos) (X j).env = (do
      let ov ← eval o (X j).env
      standAt apos.atName
      let (f, first) ← holding [ov] (getMethod ov m (pl j))
      callWith pos f first (backTo pos (starEach [] (X j).env)) (backToKw pos (keywordEach [] (X j).env))) := by intro j; rfl) : XR T E X (.Call (.Attribute o m apos) [] [] pos) (rMeth n tab fa aNil) := by
  obtain ⟨ta, a1, a2⟩ := ho
  refine ⟨_, fun j => ⟨fun pins s σ H Q I h => ?_⟩, semR_meth (t := tNil) hfl a2 semAA_nil⟩
  obtain ⟨c, F, hc, h⟩ := h
  obtain ⟨f, fd, ps, CX, k, h1, h2, h3, h4, h5, h6, _⟩ := (hm j c F hc).ex
  exact run_methS0 (a1 j) h1 h2 h4 h5 h3 .nil (h6 σ) (ht j) I h
def upA : Arg → Arg
  | .o i => .o (i + 1)
  | .v x => .v x
def rMake (c nf n : Nat) (F : Fn) (fl : M (List Arg)) : M R := bnd fl fun as => fun st => if as.length + 1 = n then (match callF F (.o 0 :: as.map upA) (some (.oi c []) :: st) with
  | some (.v (.d .non), some (.oi c' fs) :: s) => if c' = c ∧ fs.length = nf then some (.v (.oi c fs), s) else none
  | some (.x k, _ :: s) => some (.x k, s)
  | _ => none) else none
theorem args_up {as : List Arg} {vs : List V} {v : Option V} (h : ArgsAre T B σ as vs) : ArgsAre T B (v :: σ) (as.map upA) vs := by
  induction h with
  | nil => exact .nil
  | cons r t ih =>
    refine .cons ?_ ih
    rename_i a b _ _
    cases a with
    | v x => exact r
    | o i => exact r
structure MakeAt (Y : Cx) (T : Tab) (E : L2.St → XK) (x : Str) (c n : Nat) (F : Fn) : Prop where
  ex : ∃ f fd ps CX k, Y.mg x = some (.ref (T.cls c)) ∧ Mk Y.K (T.cls c) f ∧ Binds Y.K fd ps [] ∧ FnOk Y.prog Y.w Y.K Y.mg Y.base CX k f fd ps (sp T n F) ∧ Room (k + 1) Y.A ∧ (∀ σ, PassesAt CX Y σ (E σ))
structure ClsOk (T : Tab) (c : Nat) : Prop where
  cls : Cls T.K (T.cls c)
  nd : (T.flds c).Nodup
  small : (T.flds c).length ≤ 100
  no : ∀ f ∈ T.flds c, NoAttr T.K (T.cls c) f
def eFld (ix : Nat → Option Nat) (fa : M D) : M D := bnd fa fun x => opt (match x with
  | .obj c fs => (match ix c with
    | some i => fs[i]?
    | none => none)
  | _ => none)
theorem lookup_at {fvs : List (Str × V)} {f : Str} {i : Nat} {v : V} (nd : (fvs.map (·.1)).Nodup) (h1 : (fvs.map (·.1))[i]? = some f) (h2 : (fvs.map (·.2))[i]? = some v) : fvs.lookup f = some v := by
  induction fvs generalizing i with
  | nil => simp at h1
  | cons p r ih =>
    obtain ⟨k, u⟩ := p
    have nd' := List.nodup_cons.mp nd
    cases i with
    | zero =>
      simp at h1 h2
      subst h1; subst h2
      simp [List.lookup_cons]
    | succ i =>
      have h1' : (r.map (·.1))[i]? = some f := by simpa using h1
      have hne : f ≠ k := by
        rintro rfl
        exact nd'.1 (List.mem_of_getElem? h1')
      rw [List.lookup_cons]
      have : (f == k) = false := by simpa using hne
      rw [this]
      exact ih nd'.2 h1' (by simpa using h2)
theorem semE_fld {ix : Nat → Option Nat} {f : Str} {ta : TE} (hx : ∀ c i, ix c = some i → ClsOk T c ∧ (T.flds c)[i]? = some f) (ha : SemE T E ta fa) : SemE T E (tFld T.K ta f) (eFld ix fa) := by
  intro st σ B F H S o s h Q hQ
  refine okx_bnd h hQ (fun o1 s1 e1 q => ha st σ B F H S o1 s1 e1 _ q) fun a s1 B1 H1 _ h2 e1 S1 hQ1 v hv => ?_
  obtain ⟨z, hz, rfl, rfl⟩ := opt_some h2
  cases a with
  | obj c fs =>
    dsimp only at hz
    split at hz
    · rename_i i hi
      obtain ⟨ok, hf⟩ := hx c i hi
      unfold Rep at hv
      obtain ⟨p, dx, fvs, rfl, g2, g3, g4⟩ := hv
      obtain ⟨v, hv, rv⟩ := g4.get hz
      exact ⟨p, T.cls c, dx, fvs, v, rfl, S1.exB p _ g2, ok.cls, ok.no f (List.mem_of_getElem? hf), lookup_at (by rw [g3]; exact ok.nd) (by rw [g3]; exact hf) hv, hQ1 B1 H1 (Ex.refl _) S1 v rv⟩
    · cases hz
  | _ => cases hz
theorem xe_fld {ix : Nat → Option Nat} {f : Str} (hx : ∀ c i, ix c = some i → ClsOk T c ∧ (T.flds c)[i]? = some f) (ha : XE T E X e fa) (hK : ∀ j, (X j).K = T.K := by intro j; rfl) (hb : ∀ j, attributeBase e f (X j).env (eval e (X j).env) = eval e (X j).env := by intro j; rfl) : XE T E X (.Attribute e f pos) (eFld ix fa) :=
  let ⟨_, a1, a2⟩ := ha; ⟨_, fun j => by rw [← hK j]; exact pe_fld (a1 j) (hb j), semE_fld hx a2⟩
theorem putF_new {fvs : List (Str × V)} {f : Str} {v : V} (h : f ∉ fvs.map (·.1)) : putF f v fvs = fvs ++ [(f, v)] := by
  induction fvs with
  | nil => rfl
  | cons p r ih =>
    obtain ⟨k, u⟩ := p
    simp only [List.map_cons, List.mem_cons, not_or] at h
    unfold putF
    rw [if_neg (fun e => h.1 e.symm), ih h.2]; rfl
end
end Fz
set_option Elab.async false
set_option linter.all false
set_option maxRecDepth 100000
set_option maxHeartbeats 2000000
namespace Fz
open PySem L2 PySem.Spec PyProof.Rows
section
variable {ι : Type} {T : Tab} {E : L2.St → XK} {X : ι → Cx} {kp : Nat → Bool} {pos apos : Pos} {e a b c o elt tg iter : Expr} {es : List Expr} {fa fb fc : M D} {fs : M (List D)} {fl : M (List Arg)} {r : M R} {x y m : Str}
abbrev Blk (X : ι → Cx) (scope : Scope) : ι × Shared × Hp × Addr × List (Str × Addr) × List Addr → Cx := fun q => (X q.1).blk q.2.1 q.2.2.1 scope (compEnvC scope q.2.2.2.2.1 q.2.2.2.1 (X q.1).env) q.2.2.2.2.2
def XTs {κ : Type} (T : Tab) (E : L2.St → XK) (Y : κ → Cx) (ifs : List Expr) (f : M Bool) : Prop := ∃ te, (∀ i, PTs (Y i) ifs te) ∧ SemT T E te f
def XGB {κ : Type} (T : Tab) (Y : κ → Cx) (vs : List Nat) (tg : Expr) (f : D → Sl → Option Sl) : Prop := ∃ g, (∀ i, PG (Y i) tg g) ∧ SemGB T vs g f
theorem xts_nil {κ : Type} {Y : κ → Cx} : XTs T E Y [] cYes := ⟨_, fun _ => pts_nil, semT_yes⟩
theorem xts_one {κ : Type} {Y : κ → Cx} {f : M Bool} (h : XT T E Y c f) : XTs T E Y [c] f := let ⟨_, a1, a2⟩ := h; ⟨_, fun j => pts_one (a1 j), a2⟩
theorem wipe_set (i : Nat) : ∀ (vs : List Nat) (σ : L2.St) (v : Option V), i ∈ vs → L2.wipe (σ.set i v) vs = L2.wipe σ vs
  | [], _, _, h => by simp at h
  | w :: vs, σ, v, h => by
    unfold L2.wipe
    rcases List.mem_cons.mp h with rfl | h
    · have : ∀ (vs : List Nat) (σ : L2.St), (L2.wipe (σ.set i v) vs).set i none = (L2.wipe σ vs).set i none := by
        intro vs
        induction vs with
        | nil => intro σ; show (σ.set i v).set i none = σ.set i none; rw [List.set_set]
        | cons w vs ih =>
          intro σ
          unfold L2.wipe
          by_cases e : w = i
          · subst e; rw [List.set_set, List.set_set]; exact ih σ
          · rw [List.set_comm _ _ e, ih σ, List.set_comm _ _ (Ne.symm e)]
      exact this vs σ
    · rw [wipe_set i vs σ v h]
theorem wipe_idem : ∀ (vs : List Nat) (σ : L2.St), L2.wipe (L2.wipe σ vs) vs = L2.wipe σ vs := by
  intro vs
  have gen : ∀ (ws vs : List Nat) (σ : L2.St), (∀ i ∈ ws, i ∈ vs) → L2.wipe (L2.wipe σ ws) vs = L2.wipe σ vs := by
    intro ws
    induction ws with
    | nil => intro vs σ _; rfl
    | cons w ws ih =>
      intro vs σ h
      show L2.wipe ((L2.wipe σ ws).set w none) vs = _
      rw [wipe_set w vs _ none (h w List.mem_cons_self), ih vs σ fun i hi => h i (List.mem_cons_of_mem _ hi)]
  exact fun σ => gen vs vs σ fun _ h => h
theorem xgb_name {κ : Type} {Y : κ → Cx} {vs : List Nat} (i : Nat) (hm : i ∈ vs) (hN : ∀ j, (Y j).N.Nodup) (hi : ∀ j, (Y j).N[i]? = some x := by intro j; rfl) (hx : ∀ j, Loc (Y j).env.scope x := by intro j; first | exact Or.inl rfl | exact Or.inr rfl) (hf : ∀ j, (Y j).fn x = true ∨ (Y j).env.scope.names.lookup x = some .local := by intro j; first | exact .inl rfl | exact .inr rfl) : XGB T Y vs (.Name x pos) (gN i) :=
  ⟨_, fun j => pg_name (hN j) (hi j) (hx j) (hf j), semGB_name fun σ v => wipe_set i vs σ (some v) hm⟩
def SemGBs (T : Tab) (vs : List Nat) (g : TGs) (gf : List D → Sl → Option Sl) : Prop := ∀ st σ B F H, Sim T st σ B F H → ∀ ds ws s, Reps T B ds ws → gf ds st = some s → ∀ Q : L2.St → Hp → Prop, (∀ σ', L2.wipe σ' vs = L2.wipe σ vs → Sim T s σ' B F H → Q σ' H) → g ws σ H Q
def XGBs {κ : Type} (T : Tab) (Y : κ → Cx) (vs : List Nat) (tgs : List Expr) (f : List D → Sl → Option Sl) : Prop := ∃ g, (∀ i, PGs (Y i) tgs g) ∧ SemGBs T vs g f
theorem xgbs_nil {κ : Type} {Y : κ → Cx} {vs : List Nat} : XGBs T Y vs [] gsN := ⟨_, fun _ => pgs_nil, fun st σ B F H S ds ws s r h Q q => by
  cases ds with
  | nil =>
    unfold Reps at r
    cases h
    exact ⟨r, q _ rfl S⟩
  | cons d ds => cases h⟩
theorem xgbs_cons {κ : Type} {Y : κ → Cx} {vs : List Nat} {f : D → Sl → Option Sl} {g : List D → Sl → Option Sl} (h1 : XGB T Y vs e f) (h2 : XGBs T Y vs es g) (hs : ∀ j, (assignEach (e :: es) (Y j).env).map (·.2) = assign e (Y j).env :: (assignEach es (Y j).env).map (·.2) := by intro j; rfl) : XGBs T Y vs (e :: es) (gsC f g) := by
  obtain ⟨_, a1, a2⟩ := h1
  obtain ⟨_, b1, b2⟩ := h2
  refine ⟨_, fun j => pgs_cons (a1 j) (b1 j) (hs j), fun st σ B F H S ds ws s r h Q q => ?_⟩
  cases ds with
  | nil => cases h
  | cons d ds =>
    unfold Reps at r
    obtain ⟨v, r', rfl, rd, rr⟩ := r
    have h : (f d st).bind (g ds) = some s := h
    cases e : f d st with
    | none => rw [e] at h; cases h
    | some s1 =>
      rw [e] at h
      exact ⟨v, r', rfl, a2 st σ B F H S d v s1 rd e _ fun σ1 k1 S1 => b2 s1 σ1 B F H S1 ds r' s rr h _ fun σ2 k2 S2 => q σ2 (k2.trans k1) S2⟩
theorem xgb_tup {κ : Type} {Y : κ → Cx} {vs : List Nat} {k n : Nat} {g : List D → Sl → Option Sl} (hK : ∀ j, (Y j).K = T.K := by intro j; rfl) (hc : ∀ j, (Y j).calm = true := by intro j; rfl) (h : XGBs T Y vs es g) (hn : ∀ j, (assignEach es (Y j).env).length = n := by intro j; rfl) (hst : ∀ j, (assignEach es (Y j).env).findIdx? (·.1) = none := by intro j; rfl) : XGB T Y vs (.Tuple es k pos) (gT n g) := by
  obtain ⟨gs, a1, a2⟩ := h
  refine ⟨gTup T.K n gs, fun j => by rw [← hK j]; exact pg_tup (hc j) (a1 j) (hn j) (hst j), fun st σ B F H S d v s r h Q q => ?_⟩
  unfold gT at h
  split at h
  · rename_i ds
    split at h
    · rename_i hl
      unfold Rep at r
      obtain ⟨a, xs, rfl, ht, hr⟩ := r
      exact ⟨a, xs, rfl, (S.exB.tu ht).sq, by rw [← hr.length]; exact hl, a2 st σ B F H S ds xs s hr h Q q⟩
    · cases h
  · cases h
theorem xr_lc {ifs : List Expr} {scope : Scope} {own : List (Str × Nat)} {it : M (List D)} {gf : D → Sl → Option Sl} {f : M Bool} {fe : M D} (hN : ∀ j, (X j).N.Nodup) (hi : XI T E X tg iter it) (ok : ∀ j, BlkOk (X j).N (X j).env.scope scope own)
    (hg : XGB T (Blk X scope) (own.map (·.2)) tg gf) (ht : XTs T (fun _ => E0) (Blk X scope) ifs f) (he : XE T (fun _ => E0) (Blk X scope) elt fe) (hc : ∀ j, (X j).calm = true := by intro j; rfl) (hs : ∀ j x, foldedSetIterable iter (X j).env x = pure x := by intro _ _; rfl) :
    XR T E X (.ListComp elt [⟨tg, iter, ifs, 0⟩] scope pos) (rLc it gf f fe (own.map (·.2))) := by
  obtain ⟨_, i1, i2⟩ := hi
  obtain ⟨_, g1, g2⟩ := hg
  obtain ⟨_, t1, t2⟩ := ht
  obtain ⟨_, e1, e2⟩ := he
  exact ⟨_, fun j => pe_lc (hc j) (hN j) (i1 j) (ok j) (fun s H C cl fp => g1 (j, s, H, C, cl, fp)) (fun s H C cl fp => t1 (j, s, H, C, cl, fp)) (fun s H C cl fp => e1 (j, s, H, C, cl, fp)) (hs j), semR_lc i2 g2 t2 e2 (wipe_idem _)⟩
variable {st : Stmt} {rest : List Stmt} {f g : MS}
theorem xss_nil : XSs T E X kp [] sNext := ⟨_, fun _ => pss_nil, semS_next⟩
theorem xss_cons (h1 : XS T E X kp st f) (h2 : XSs T E X kp rest g) : XSs T E X kp (st :: rest) (sSeq f g) := let ⟨_, a1, a2⟩ := h1; let ⟨_, b1, b2⟩ := h2; ⟨_, fun j => pss_cons (a1 j) (b1 j), semS_seq a2 b2⟩
theorem xss_one (h1 : XS T E X kp st f) : XSs T E X kp [st] f := let ⟨_, a1, a2⟩ := h1; ⟨_, fun j => pss_one (a1 j), a2⟩
theorem xs_set (i : Nat) {pos' : Pos} (hN : ∀ j, (X j).N.Nodup) (he : XR T E X e r) (hk : kp i = false := by rfl) (hi : ∀ j, (X j).N[i]? = some x := by intro j; rfl) (hx : ∀ j, Loc (X j).env.scope x := by intro j; first | exact Or.inl rfl | exact Or.inr rfl) (hs : ∀ j, swapsWith e (some (.Name x pos')) pos.line (X j).env = pure false := by intro j; rfl)
    (hf : ∀ j, (X j).fn x = true ∨ (X j).env.scope.names.lookup x = some .local := by intro j; first | exact .inl rfl | exact .inr rfl) : XS T E X kp (.Assign [.Name x pos'] e pos) (sSet i r) :=
  let ⟨_, a1, a2⟩ := he; ⟨_, fun j => ps_set (hN j) (hi j) (hx j) (a1 j) (hs j) (hf j), semS_set hk a2⟩
theorem xs_setLc (i : Nat) {py spos : Pos} {ifs : List Expr} {scope : Scope} {own : List (Str × Nat)} {it : M (List D)} {gf : D → Sl → Option Sl} {f : M Bool} {fe : M D} (hN : ∀ j, (X j).N.Nodup) (hi : XI T E X tg iter it) (ok : ∀ j, BlkOk (X j).N (X j).env.scope scope own)
    (hg : XGB T (Blk X scope) (own.map (·.2)) tg gf) (ht : XTs T (fun _ => E0) (Blk X scope) ifs f) (he : XE T (fun _ => E0) (Blk X scope) elt fe)
    (hsw : ∀ j, swapsWith (.ListComp elt [⟨tg, iter, ifs, 0⟩] scope pos) (some (.Name y py)) spos.line (X j).env = pure true) (hk : kp i = false := by rfl) (hy : ∀ j, (X j).N[i]? = some y := by intro j; rfl) (hyl : ∀ j, (X j).env.scope.names.lookup y = some .local := by intro j; rfl) (hc : ∀ j, (X j).calm = true := by intro j; rfl) (hs : ∀ j x, foldedSetIterable iter (X j).env x = pure x := by intro _ _; rfl) :
    XS T E X kp (.Assign [.Name y py] (.ListComp elt [⟨tg, iter, ifs, 0⟩] scope pos) spos) (sSet i (rLc it gf f fe (own.map (·.2)))) := by
  obtain ⟨_, i1, i2⟩ := hi
  obtain ⟨_, g1, g2⟩ := hg
  obtain ⟨_, t1, t2⟩ := ht
  obtain ⟨_, e1, e2⟩ := he
  exact ⟨_, fun j => ps_setLc (hc j) (hN j) (hy j) (hyl j) (hsw j) (i1 j) (ok j) (fun s H C cl fp => g1 (j, s, H, C, cl, fp)) (fun s H C cl fp => t1 (j, s, H, C, cl, fp)) (fun s H C cl fp => e1 (j, s, H, C, cl, fp)) (hs j), semS_set hk (semR_lc i2 g2 t2 e2 (wipe_idem _))⟩
theorem xs_asg {gf : D → Sl → Option Sl} (he : XE T E X e fa) (hg : XG T X kp tg gf) (hs : ∀ j, swapsWithSole [tg] e pos.line (X j).env = pure false := by intro j; rfl) (hw : ∀ j, swappedStores [tg] e (X j).env = pure none := by intro j; rfl) (h1 : ∀ j, (assignEach [tg] (X j).env).map (·.2) = [assign tg (X j).env] := by intro j; rfl) : XS T E X kp (.Assign [tg] e pos) (sAsg fa gf) :=
  let ⟨_, a1, a2⟩ := he; let ⟨_, b1, b2⟩ := hg; ⟨_, fun j => ps_asg (a1 j) (b1 j) (hs j) (hw j) (h1 j), semS_asg a2 b2⟩
theorem xs_if {c : Expr} {p q : List Stmt} {fc : M Bool} (hc : XT T E X c fc) (h1 : XSs T E X kp p f) (h2 : XSs T E X kp q g) : XS T E X kp (.If c p q pos) (sIf fc f g) := let ⟨_, c1, c2⟩ := hc; let ⟨_, a1, a2⟩ := h1; let ⟨_, b1, b2⟩ := h2; ⟨_, fun j => ps_if (c1 j) (a1 j) (b1 j), semS_if c2 a2 b2⟩
theorem xs_ret (h : XR T E X e r) : XS T E X kp (.Return (some e) pos) (sRet r) := let ⟨_, a1, a2⟩ := h; ⟨_, fun j => ps_ret (a1 j), semS_ret a2⟩
theorem xs_expr (h : XR T E X e r) (hs : ∀ j, swapsWith e none pos.line (X j).env = pure false := by intro j; rfl) : XS T E X kp (.Expr e pos) (sDrop r) := let ⟨_, a1, a2⟩ := h; ⟨_, fun j => ps_expr (a1 j) (hs j), semS_drop a2⟩
theorem xs_for {it : M (List D)} {gf : D → Sl → Option Sl} {body : List Stmt} (hi : XI T E X tg iter it) (hg : XG T X kp tg gf) (hb : XSs T E X kp body f) (hp : ∀ j, PassesOwn (model (X j).prog (X j).w) (X j).A (X j).env (X j).xe) (hc : ∀ j, (X j).calm = true := by intro j; rfl) (hs : ∀ j x, foldedSetIterable iter (X j).env x = pure x := by intro _ _; rfl) : XS T E X kp (.For tg iter body [] pos) (sFor it gf f) :=
  let ⟨_, a1, a2⟩ := hi; let ⟨_, b1, b2⟩ := hg; let ⟨_, c1, c2⟩ := hb; ⟨_, fun j => ps_for (hp j) (hc j) (a1 j) (b1 j) (c1 j) (hs j), semS_for a2 b2 c2⟩
theorem xs_while (n : Nat) {c : Expr} {fc : M Bool} {body : List Stmt} (hc : XT T E X c fc) (hb : XSs T E X kp body f) (hp : ∀ j, PassesOwn (model (X j).prog (X j).w) (X j).A (X j).env (X j).xe) : XS T E X kp (.While c body [] pos) (whileL fc f n) := let ⟨_, c1, c2⟩ := hc; let ⟨_, a1, a2⟩ := hb; ⟨_, fun j => ps_while (hp j) (c1 j) (a1 j), semS_while c2 a2 n⟩
def sApp (i : Nat) (m : M D) : MS := fun st => match m st with
  | some (.v x, s) => (match s[i]? with
    | some (some (.ol xs)) => if xs.length < sizeLine then some (.nx, s.set i (some (.ol (xs ++ [x])))) else none
    | _ => none)
  | some (.x c, s) => some (.x c, s)
  | none => none
theorem ty_ol {H : Hp} {p : Addr} {ys : List V} (h : H p = some (.lst ys)) : tyV T.K "list" (.ref p) H := Or.inl ⟨rfl, _, SqL.of h⟩
theorem ol_before {st s1 : Sl} {σ : L2.St} {B F H : Hp} {i : Nat} (S : Sim T st σ B F H) (h : ∃ r, st[i]? = some (some r) ∧ ((∃ xs, r = .ol xs) ∨ ∃ xs, r = .d (.lst xs))) : ∃ p, σ[i]? = some (some (.ref p)) ∧ tyV T.K "list" (.ref p) H := by
  obtain ⟨r, hi, hr⟩ := h
  obtain ⟨v, hv, rel⟩ := S.rel i r hi
  rcases hr with ⟨xs, rfl⟩ | ⟨xs, rfl⟩
  · obtain ⟨p, ys, rfl, hp, _⟩ := rel
    exact ⟨p, hv, ty_ol hp⟩
  · have rel : Rep T B (.lst xs) v := rel
    unfold Rep at rel
    obtain ⟨p, ys, rfl, hp, _⟩ := rel
    exact ⟨p, hv, Or.inl ⟨rfl, _, S.exB.sqL hp⟩⟩
def isL (s : Option (Option R)) : Bool := match s with
  | some (some (.ol _)) => true
  | some (some (.d (.lst _))) => true
  | _ => false
theorem isL_of {s : Option (Option R)} (h : isL s = true) : ∃ r, s = some (some r) ∧ ((∃ xs, r = .ol xs) ∨ ∃ xs, r = .d (.lst xs)) := by
  unfold isL at h
  split at h
  · exact ⟨_, rfl, .inl ⟨_, rfl⟩⟩
  · exact ⟨_, rfl, .inr ⟨_, rfl⟩⟩
  · cases h
def sApp' (i : Nat) (m : M D) : MS := fun st => if isL st[i]? then sApp i m st else none
theorem semS_app {i : Nat} {te : TE} {m : M D} (h : SemE T E te m) : SemS T E kp (tDrop (tBM T.K "list" rAppend (tVar i) (tCons te tNil))) (sApp' i m) := by
  intro st σ B F H S fl s hf D hD
  unfold sApp' at hf
  split at hf
  · rename_i hl
    obtain ⟨p, hv, ty⟩ := ol_before (s1 := st) S (isL_of hl)
    refine ⟨_, hv, ty, ?_⟩
    unfold sApp at hf
    split at hf
    · rename_i x s1 e
      split at hf
      · rename_i xs hi
        split at hf
        · rename_i hsz
          cases hf
          refine h st σ B F H S _ _ e _ fun B1 H1 e1 S1 v hx => ?_
          obtain ⟨u, hu, q, ys, rfl, hq, hr⟩ := S1.rel i _ hi
          rw [hu] at hv; cases hv
          exact ⟨p, ys, v, rfl, rfl, hq, by rw [← hr.length]; exact hsz, hD σ B1 _ e1 (Kp.refl _ _) (S1.change hi hu rfl (fun _ z => nomatch z) ⟨p, _, rfl, upd_same, hr.append (reps_cons hx reps_nil)⟩)⟩
        · cases hf
      · cases hf
    · rename_i c s1 e
      cases hf
      exact h st σ B F H S _ _ e _ fun d B1 H1 e1 S1 => hD d σ B1 H1 e1 (Kp.refl _ _) S1
    · cases hf
  · cases hf
theorem xs_app (i : Nat) {p ap cp : Pos} (h : XE T E X e fa) (hN : ∀ j, (X j).N[i]? = some x := by intro j; rfl) (hvis : ∀ j, Vis (X j).env.scope x := by intro j; first | exact Or.inl rfl | exact Or.inr (Or.inl rfl) | exact Or.inr (Or.inr rfl))
    (hd : (x == ("__debug__" : Str)) = false := by decide +kernel) (hcd : (x == ("__classdict__" : Str)) = false := by decide +kernel) (hK : ∀ j, (X j).K = T.K := by intro j; rfl)
    (hbase : ∀ j, attributeBase (.Name x p) "append" (X j).env (eval (.Name x p) (X j).env) = eval (.Name x p) (X j).env := by intro j; rfl)
    (hfew : ∀ j, ((backTo cp (starEach [e] (X j).env)).all (fun x => !x.1) && (backToKw cp (keywordEach [] (X j).env)).all (fun x => x.1.isSome)
      && decide (([e] : List Expr).length + ([] : List Keyword).length + (if ([] : List Keyword).isEmpty then 0 else 1) < 30)) = true := by intro j; rfl)
    (hline : (ap.endLine == cp.line) = true := by rfl) (hss : ∀ j, starEach [e] (X j).env = (false, eval e (X j).env) :: starEach [] (X j).env := by intro j; rfl) (hplain : ∀ j, (backTo cp (starEach [] (X j).env)).any (·.1) = false := by intro j; rfl)
    (hs : ∀ j, swapsWith (.Call (.Attribute (.Name x p) "append" ap) [e] [] cp) none pos.line (X j).env = pure false := by intro j; rfl) : XS T E X kp (.Expr (.Call (.Attribute (.Name x p) "append" ap) [e] [] cp) pos) (sApp' i fa) := by
  obtain ⟨_, a1, a2⟩ := h
  exact ⟨_, fun j => by rw [← hK j]; exact ps_expr (pe_bm PySem.F.plainAttrs_list PySem.F.slot_list_append PySem.F.type_list_append mt_append (pe_var (hN j) (hvis j) hd hcd) (pa_cons (a1 j) pa_nil (hss j)) (hbase j) (hfew j) hline (hss j) (hplain j)) (hs j), semS_app a2⟩
def sSub (i : Nat) (mi : M D) (m : M D) : MS := fun st => match m st with
  | some (.v x, s1) => (match mi s1 with
    | some (.v (.int k), s2) => (match s2[i]? with
      | some (some (.ol xs)) => (match ixN xs.length k with
        | some j => if isL s1[i]? then some (.nx, s2.set i (some (.ol (xs.set j x)))) else none
        | none => none)
      | _ => none)
    | some (.x c, s) => if isL s1[i]? then some (.x c, s) else none
    | _ => none)
  | some (.x c, s) => some (.x c, s)
  | none => none
end
abbrev CxD (P : Program) (w : World) (T : Tab) (mg : Str → Option Value) (base : Heap) (N : List Str) (qual : Str) (st : Stmt) (f : Addr) (cdv : Value) (A : Around) (outer : List Env) (s : Shared) (H : Hp) (E : XK) : Unit → Cx := fun _ => cxOf (L2.CX P w) P w T.K mg base N qual (defScope st) f cdv A outer s H E
theorem ok_def {P : Program} {w : World} {T : Tab} {mg : Str → Option Value} {base : Heap} {x qual : Str} {st : Stmt} {f : Addr} {fd : FuncData} {N ps : List Str} {k : Nat} {kp : Nat → Bool} {body : MS} (F : Fun T.K x qual st f fd) (S : FnScope N ps (defScope st))
    (h : ∀ (cdv : Value) (A : Around) (outer : List Env) (s : Shared) (H : Hp) (E : XK), Room k (A.deeper (envOfC qual (defScope st) s.heap.objs.size f cdv)) →
      XSs T (fun _ => E) (CxD P w T mg base N qual st f cdv A outer s H E) kp (defBody st) body) : FnOk P w T.K mg base (L2.CX P w) (k + 1) f fd ps (sp T ps.length (fnOf ps.length N.length kp body)) := by
  refine okR F S (fun vs H Q E h => h.1) fun cdv A outer s H vs Q E hr hsp => ?_
  obtain ⟨t, a1, a2⟩ := h cdv A outer s H E hr
  exact ⟨t, a1 (), read_fn hsp a2⟩
theorem rm_def {P : Program} {w : World} {T : Tab} {mg : Str → Option Value} {base : Heap} {N : List Str} {qual : Str} {st : Stmt} {f : Addr} {cdv : Value} {A : Around} {outer : List Env} {s : Shared} {H : Hp} {E : XK} {k : Nat} (hr : Room k (A.deeper (envOfC qual (defScope st) s.heap.objs.size f cdv))) :
    Rm (CxD P w T mg base N qual st f cdv A outer s H E) := fun _ => by
  have h : (A.deeper (envOfC qual (defScope st) s.heap.objs.size f cdv)).units + 16 * k + 200 < cLine := hr.un
  show (A.deeper (envOfC qual (defScope st) s.heap.objs.size f cdv)).units + 65 < cLine
  omega
theorem pass_def {P : Program} {w : World} {T : Tab} {mg : Str → Option Value} {base : Heap} {N : List Str} {qual : Str} {st : Stmt} {f : Addr} {cdv : Value} {A : Around} {outer : List Env} {s : Shared} {H : Hp} {E : XK} {j : Unit} (σ : L2.St) :
    PassesAt (L2.CX P w) (CxD P w T mg base N qual st f cdv A outer s H E j) σ E :=
  passAt (W := fun cls d _ H => E cls d H) (X := CxD P w T mg base N qual st f cdv A outer s H E j) (takes_of rfl rfl rfl rfl) σ
theorem own_def {P : Program} {w : World} {T : Tab} {mg : Str → Option Value} {base : Heap} {N : List Str} {qual : Str} {st : Stmt} {f : Addr} {cdv : Value} {A : Around} {outer : List Env} {s : Shared} {H : Hp} {E : XK} (j : Unit) :
    PassesOwn (model (CxD P w T mg base N qual st f cdv A outer s H E j).prog (CxD P w T mg base N qual st f cdv A outer s H E j).w) (CxD P w T mg base N qual st f cdv A outer s H E j).A (CxD P w T mg base N qual st f cdv A outer s H E j).env (CxD P w T mg base N qual st f cdv A outer s H E j).xe :=
  passes_of (X := CxD P w T mg base N qual st f cdv A outer s H E j) rfl
theorem pass_blk {Y : Cx} {P : Program} {w : World} (σ : L2.St) : PassesAt (L2.CX P w) Y σ E0 := fun _ _ _ _ _ _ h => by
  obtain ⟨_, _, _, _, _, _, _, _, _, _, _, _, z⟩ := h
  exact z.elim
end Fz
set_option Elab.async false
set_option linter.all false
set_option maxRecDepth 100000
set_option maxHeartbeats 2000000
namespace Fz
open PySem L2 PySem.Spec PyProof.Rows
section
variable (P : Program) (w : World) (T : Tab) (mg : Str → Option Value) (base : Heap)
structure FnG (x : Str) (n : Nat) (F : Fn) (k : Nat) : Prop where
  ex : ∃ f fd ps, mg x = some (.ref f) ∧ PySem.W.keepIn T.K (.ref f) = true ∧ Binds T.K fd ps [] ∧ FnOk P w T.K mg base (L2.CX P w) k f fd ps (sp T n F)
structure MtG (c : Nat) (m : Str) (n : Nat) (F : Fn) (k : Nat) : Prop where
  ex : ∃ f fd ps, Meth T.K (T.cls c) m f ∧ Binds T.K fd ps [] ∧ FnOk P w T.K mg base (L2.CX P w) k f fd ps (sp T n F)
  cl : ClsOk T c
  nf : m ∉ T.flds c
structure MkG (x : Str) (c n : Nat) (F : Fn) (k : Nat) : Prop where
  ex : ∃ f fd ps, mg x = some (.ref (T.cls c)) ∧ Mk T.K (T.cls c) f ∧ Binds T.K fd ps [] ∧ FnOk P w T.K mg base (L2.CX P w) k f fd ps (sp T n F)
end
section
variable {P : Program} {w : World} {T : Tab} {mg : Str → Option Value} {base : Heap} {N : List Str} {qual : Str} {st : Stmt} {f : Addr} {cdv : Value} {A : Around} {outer : List Env} {s : Shared} {H : Hp} {E : XK} {x m : Str} {n c k : Nat} {F : Fn}
theorem FnG.mono {j : Nat} (G : FnG P w T mg base x n F j) (h : j ≤ k) : FnG P w T mg base x n F k := let ⟨f, fd, ps, a, b, c, d⟩ := G.ex; ⟨f, fd, ps, a, b, c, d.mono h⟩
theorem FnG.sub {F' : Fn} (G : FnG P w T mg base x n F k) (h : ∀ rs o, F' rs = some o → F rs = some o) : FnG P w T mg base x n F' k := let ⟨f, fd, ps, a, b, c, d⟩ := G.ex; ⟨f, fd, ps, a, b, c, fn_sub d h⟩
theorem MtG.mono {j : Nat} (G : MtG P w T mg base c m n F j) (h : j ≤ k) : MtG P w T mg base c m n F k := ⟨let ⟨f, fd, ps, a, b, d⟩ := G.ex; ⟨f, fd, ps, a, b, d.mono h⟩, G.cl, G.nf⟩
theorem MtG.sub {F' : Fn} (G : MtG P w T mg base c m n F k) (h : ∀ rs o, F' rs = some o → F rs = some o) : MtG P w T mg base c m n F' k := ⟨let ⟨f, fd, ps, a, b, d⟩ := G.ex; ⟨f, fd, ps, a, b, fn_sub d h⟩, G.cl, G.nf⟩
theorem MkG.sub {F' : Fn} (G : MkG P w T mg base x c n F k) (h : ∀ rs o, F' rs = some o → F rs = some o) : MkG P w T mg base x c n F' k := let ⟨f, fd, ps, a, b, b', d⟩ := G.ex; ⟨f, fd, ps, a, b, b', fn_sub d h⟩
theorem FnG.d {j : Nat} (G : FnG P w T mg base x n F j) (hr : Room k (A.deeper (envOfC qual (defScope st) s.heap.objs.size f cdv))) (h : j ≤ k) (i : Unit) : FunAt (CxD P w T mg base N qual st f cdv A outer s H E i) T (fun _ => E) x n F [] :=
  let ⟨f, fd, ps, a, b, c, d⟩ := G.ex; ⟨f, fd, ps, _, j, a, b, c, d, hr.mono h, fun σ => pass_def σ⟩
theorem MtG.d {j : Nat} (G : MtG P w T mg base c m n F j) (hr : Room k (A.deeper (envOfC qual (defScope st) s.heap.objs.size f cdv))) (h : j ≤ k) (i : Unit) : MethAt (CxD P w T mg base N qual st f cdv A outer s H E i) T (fun _ => E) c m n F :=
  let ⟨f, fd, ps, a, b, d⟩ := G.ex; ⟨f, fd, ps, _, j, G.cl.cls, a, b, d, hr.mono h, fun σ => pass_def σ, G.nf⟩
theorem MkG.d {j : Nat} (G : MkG P w T mg base x c n F j) (hr : Room k (A.deeper (envOfC qual (defScope st) s.heap.objs.size f cdv))) (h : j + 1 ≤ k) (i : Unit) : MakeAt (CxD P w T mg base N qual st f cdv A outer s H E i) T (fun _ => E) x c n F :=
  let ⟨f, fd, ps, a, b, b', d⟩ := G.ex; ⟨f, fd, ps, _, j, a, b, b', d, hr.mono h, fun σ => pass_def σ⟩
theorem FunAt.blk {ι : Type} {X : ι → Cx} {E : L2.St → XK} (h : ∀ i, FunAt (X i) T E x n F []) {scope : Scope} (hc : ∀ i, (X i).prog = P) (G : FnG P w T mg base x n F k) (hr : ∀ i, Room k (X i).A) (hw : ∀ i, (X i).w = w) (hm : ∀ i, (X i).mg = mg) (hb : ∀ i, (X i).base = base) (hK : ∀ i, (X i).K = T.K) (i) : FunAt (Blk X scope i) T (fun _ => E0) x n F [] := by
  obtain ⟨f, fd, ps, a, b, c, d⟩ := G.ex
  refine ⟨f, fd, ps, _, k, ?_, ?_, ?_, ?_, hr i.1, fun σ => pass_blk (P := P) (w := w) σ⟩
  · show (X i.1).mg x = _; rw [hm]; exact a
  · show PySem.W.keepIn (X i.1).K _ = _; rw [hK]; exact b
  · show Binds (X i.1).K _ _ _; rw [hK]; exact c
  · show FnOk (X i.1).prog (X i.1).w (X i.1).K (X i.1).mg (X i.1).base _ _ _ _ _ _; rw [hc, hw, hK, hm, hb]; exact d
theorem FnG.b {j : Nat} {scope : Scope} (G : FnG P w T mg base x n F j) (hr : Room k (A.deeper (envOfC qual (defScope st) s.heap.objs.size f cdv))) (h : j ≤ k) (i) : FunAt (Blk (CxD P w T mg base N qual st f cdv A outer s H E) scope i) T (fun _ => E0) x n F [] :=
  let ⟨f, fd, ps, a, b, c, d⟩ := G.ex; ⟨f, fd, ps, _, j, a, b, c, d, hr.mono h, fun σ => pass_blk (P := P) (w := w) σ⟩
theorem MtG.b {j : Nat} {scope : Scope} (G : MtG P w T mg base c m n F j) (hr : Room k (A.deeper (envOfC qual (defScope st) s.heap.objs.size f cdv))) (h : j ≤ k) (i) : MethAt (Blk (CxD P w T mg base N qual st f cdv A outer s H E) scope i) T (fun _ => E0) c m n F :=
  let ⟨f, fd, ps, a, b, d⟩ := G.ex; ⟨f, fd, ps, _, j, G.cl.cls, a, b, d, hr.mono h, fun σ => pass_blk (P := P) (w := w) σ, G.nf⟩
theorem MkG.b {j : Nat} {scope : Scope} (G : MkG P w T mg base x c n F j) (hr : Room k (A.deeper (envOfC qual (defScope st) s.heap.objs.size f cdv))) (h : j + 1 ≤ k) (i) : MakeAt (Blk (CxD P w T mg base N qual st f cdv A outer s H E) scope i) T (fun _ => E0) x c n F :=
  let ⟨f, fd, ps, a, b, b', d⟩ := G.ex; ⟨f, fd, ps, _, j, a, b, b', d, hr.mono h, fun σ => pass_blk (P := P) (w := w) σ⟩
def MtT (P : Program) (w : World) (T : Tab) (mg : Str → Option Value) (base : Heap) (m : Str) (n k : Nat) (tab : Nat → Option Fn) : Prop := ∀ c F, tab c = some F → MtG P w T mg base c m n F k
theorem MtT.d {j : Nat} {tab : Nat → Option Fn} (G : MtT P w T mg base m n j tab) (hr : Room k (A.deeper (envOfC qual (defScope st) s.heap.objs.size f cdv))) (h : j ≤ k) : ∀ (i : Unit) c F, tab c = some F → MethAt (CxD P w T mg base N qual st f cdv A outer s H E i) T (fun _ => E) c m n F := fun i c F hc => (G c F hc).d hr h i
theorem MtT.b {j : Nat} {scope : Scope} {tab : Nat → Option Fn} (G : MtT P w T mg base m n j tab) (hr : Room k (A.deeper (envOfC qual (defScope st) s.heap.objs.size f cdv))) (h : j ≤ k) : ∀ i c F, tab c = some F → MethAt (Blk (CxD P w T mg base N qual st f cdv A outer s H E) scope i) T (fun _ => E0) c m n F := fun i c F hc => (G c F hc).b hr h i
theorem MtT.nf {j : Nat} {tab : Nat → Option Fn} (G : MtT P w T mg base m n j tab) : ∀ c F, tab c = some F → m ∉ T.flds c := fun c F hc => (G c F hc).nf
theorem MtT.mono {j : Nat} {tab : Nat → Option Fn} (G : MtT P w T mg base m n j tab) (h : j ≤ k) : MtT P w T mg base m n k tab := fun c F hc => (G c F hc).mono h
end
section
variable {ι : Type} {T : Tab} {E : L2.St → XK} {X : ι → Cx} {kp : Nat → Bool} {pos apos : Pos} {e a b c o : Expr} {es : List Expr} {fa fb : M D} {fs : M (List D)} {r : M R} {x : Str}
theorem xe_len {p : Pos} (hm : ∀ j, (X j).mg "len" = none) (ha : XA T E X [e] fs) (hK : ∀ j, (X j).K = T.K := by intro j; rfl) (hg : ∀ j, Gl (X j) "len" := by intro j; rfl) (he : ∀ j, starEach [e] (X j).env = (false, eval e (X j).env) :: starEach [] (X j).env := by intro j; rfl) (hpl : ∀ j, (backTo pos (starEach [] (X j).env)).any (·.1) = false := by intro j; rfl) : XE T E X (.Call (.Name "len" p) [e] [] pos) (eOp dLen fs) :=
  xe_callB (fun j => by rw [← hK j]; exact call_len) p_len hm PySem.boot_len ha hg (by decide +kernel) (by decide +kernel) he hpl
theorem xe_tuple {p : Pos} (hm : ∀ j, (X j).mg "tuple" = none) (ha : XA T E X [e] fs) (hK : ∀ j, (X j).K = T.K := by intro j; rfl) (hg : ∀ j, Gl (X j) "tuple" := by intro j; rfl) (he : ∀ j, starEach [e] (X j).env = (false, eval e (X j).env) :: starEach [] (X j).env := by intro j; rfl) (hpl : ∀ j, (backTo pos (starEach [] (X j).env)).any (·.1) = false := by intro j; rfl) : XE T E X (.Call (.Name "tuple" p) [e] [] pos) (eOp dTuple fs) :=
  xe_callTy (fun j => by rw [← hK j]; exact call_tuple_of) p_tuple hm (by decide +kernel) ha hg (by decide +kernel) (by decide +kernel) he hpl
theorem xr_list {p : Pos} (hm : ∀ j, (X j).mg "list" = none) (ha : XA T E X [e] fs) (hK : ∀ j, (X j).K = T.K := by intro j; rfl) (hg : ∀ j, Gl (X j) "list" := by intro j; rfl) (he : ∀ j, starEach [e] (X j).env = (false, eval e (X j).env) :: starEach [] (X j).env := by intro j; rfl) (hpl : ∀ j, (backTo pos (starEach [] (X j).env)).any (·.1) = false := by intro j; rfl) : XR T E X (.Call (.Name "list" p) [e] [] pos) (rOp dList fs) :=
  xr_callTy (fun j => by rw [← hK j]; exact call_list_of) p_list hm (by decide +kernel) ha hg (by decide +kernel) (by decide +kernel) he hpl
end
end Fz
set_option Elab.async false
set_option linter.all false
set_option maxRecDepth 100000
set_option maxHeartbeats 2000000
namespace PySem.AutoSeq1
open PySem
end PySem.AutoSeq1
namespace Fz
open PySem L2 PySem.Spec PyProof.Rows
section
variable {X : Cx}
def rCatL (K : PySem.W.Frag) : R2 := fun x y H Q => ∃ l b xs zs, x = .ref l ∧ y = .ref b ∧ SqL K H l xs ∧ SqL K H b zs ∧ xs.length + zs.length ≤ sizeLine ∧ ∀ p, H p = none → Q (.ref p) (upd H p (.lst (xs ++ zs)))
theorem op_catL : OpR X (binaryOp .Add) (rCatL X.K) := by
  intro pins s σ H x y v u Q I rx ry h
  obtain ⟨l, b, xs, zs, rfl, rfl, hH, hB, hz, q⟩ := h
  cases rx
  cases ry
  obtain ⟨its, r, ⟨⟨cls, dd, data, sl⟩, n, e, hc, hk, hd⟩, hl⟩ := I.list hH
  obtain ⟨its2, r2, ⟨⟨cls2, dd2, data2, sl2⟩, n2, e2, hc2, hk2, hd2⟩, hl2⟩ := I.list hB
  simp only at hc hd hc2 hd2
  subst hc hd hc2 hd2
  have l1 := r.length
  have l2 := r2.length
  have ea : its.toArray ++ its2.toArray = (its ++ its2).toArray := by simp
  refine concat_meets ⟨_, e, rfl⟩ ⟨_, e2, rfl⟩ noFill_list_add seq_list_add PySem.F.slot_list_add PySem.F.entry_list_add (PySem.F.args_list_add_2 _ _) (list_addW l b its.toArray its2.toArray n n2 dd dd2 sl sl2 (by rw [List.size_toArray, List.size_toArray]; omega)) ⟨e, e2, ?_⟩
  rw [ea]
  exact ⟨.ref _, _, I.lnew (t' := s.toks) (r.append r2) (by rw [List.length_append]; omega), rfl, q _ I.fresh⟩
end
end Fz
set_option Elab.async false
set_option linter.all false
set_option maxRecDepth 100000
set_option maxHeartbeats 2000000
namespace Fz
open PySem L2 PySem.Spec PyProof.Rows
def tyD : D → Option String
  | .non => some "NoneType"
  | .bl _ => some "bool"
  | .int _ => some "int"
  | .str _ => some "str"
  | .tup _ => some "tuple"
  | .lst _ => some "list"
  | .dct _ _ => some "dict"
  | .obj _ _ => none
  | .ext _ _ => none
def isTy (t c : String) : Bool := t == c || (t == "bool" && c == "int")
def dIsi (c : String) (x : D) : Option D := (tyD x).map fun t => .bl (isTy t c)
section
variable {ι : Type} {T : Tab} {E : L2.St → XK} {X : ι → Cx} {kp : Nat → Bool} {pos apos : Pos} {e a b c o : Expr} {es : List Expr} {fa fb fc : M D} {fs : M (List D)} {fl : M (List Arg)} {r : M R} {x m : Str} {te ta : TE} {t : TA}
def tFull (n : Nat → Nat) (f : M Bool) : M Bool := fun st => match f (vwN n st) with
  | some (.v b, _) => some (.v b, st)
  | some (.x c, _) => some (.x c, st)
  | none => none
theorem semT_all {tt : TT} {f : M Bool} (h : SemT T E tt f) : SemT T E tt (tFull (fun c => (T.flds c).length) f) := by
  intro st σ B F H S o s hf Q hQ
  unfold tFull at hf
  split at hf
  · rename_i x s1 e1
    cases hf
    refine h _ σ H _ H S.full _ _ e1 Q fun B1 H1 x1 S1 => ?_
    obtain ⟨b1, b2, b3⟩ := S.back (x1.trans S1.exB)
    exact hQ _ H1 b1 b2
  · rename_i c s1 e1
    cases hf
    refine h _ σ H _ H S.full _ _ e1 Q fun d B1 H1 x1 S1 => ?_
    obtain ⟨b1, b2, b3⟩ := S.back (x1.trans S1.exB)
    exact hQ d _ H1 b1 b2
  · cases hf
theorem xt_full {f : M Bool} (h : XT T E X e f) : XT T E X e (tFull (fun c => (T.flds c).length) f) := let ⟨_, h1, h2⟩ := h; ⟨_, h1, semT_all h2⟩
def Prim2L (T : Tab) (r : R2) (g : D → D → Option (List D)) : Prop := ∀ x y zs vx vy B H (Q : VK), Ex B H → Rep T B x vx → Rep T B y vy → g x y = some zs →
  (∀ p ys B1 H1, Ext B H B1 H1 → H1 p = none → Reps T B1 zs ys → Q (.ref p) (upd H1 p (.lst ys))) → r vx vy H Q
def rBin (g : D → D → Option (List D)) (fa fb : M D) : M R := bnd fa fun x => bnd fb fun y => opt ((g x y).map .ol)
theorem semR_op {rr : R2} {g : D → D → Option (List D)} {tb : TE} (hr : Prim2L T rr g) (ha : SemE T E ta fa) (hb : SemE T E tb fb) : SemR T E (tOp rr ta tb) (rBin g fa fb) := by
  intro st σ B F H S o s h Q hQ
  rcases bnd_some h with ⟨c, e1, rfl⟩ | ⟨a, s1, e1, h2⟩
  · exact ha st σ B F H S _ _ e1 _ hQ
  · refine ha st σ B F H S _ _ e1 _ fun B1 H1 x1 S1 v hv => ?_
    rcases bnd_some h2 with ⟨c, e2, rfl⟩ | ⟨b, s2, e2, h3⟩
    · exact hb s1 σ B1 F H1 S1 _ _ e2 _ fun d B2 H2 x2 S2 => hQ d B2 H2 (x1.trans x2) S2
    · refine hb s1 σ B1 F H1 S1 _ _ e2 _ fun B2 H2 x2 S2 u hu => ?_
      obtain ⟨z, hz, rfl, rfl⟩ := opt_some h3
      cases hg : g a b with
      | none => rw [hg] at hz; cases hz
      | some zs =>
        rw [hg] at hz; cases hz
        exact hr a b zs v u B2 H2 Q S2.exB (Rep.mono x2 _ hv) hu hg fun p ys B3 H3 x3 hp hy => hQ _ B3 _ (x1.trans (x2.trans x3.b)) ((S2.ext x3).alloc hp (fun _ z => nomatch z) (relR_ol upd_same hy))
def gCat : D → D → Option (List D)
  | .lst xs, .lst ys => if xs.length + ys.length ≤ sizeLine then some (xs ++ ys) else none
  | _, _ => none
theorem p_cat : Prim2L T (rCatL T.K) gCat := by
  intro x y zs vx vy B H Q e hx hy hz k
  unfold gCat at hz
  split at hz
  · rename_i xs ys
    split at hz
    · rename_i hl
      cases hz
      unfold Rep at hx hy
      obtain ⟨a, us, rfl, t1, r1⟩ := hx
      obtain ⟨b, ws, rfl, t2, r2⟩ := hy
      exact ⟨a, b, us, ws, rfl, rfl, e.sqL t1, e.sqL t2, by rw [← r1.length, ← r2.length]; exact hl, fun p hp => k p _ B H (.refl e) hp (r1.append r2)⟩
    · cases hz
  · cases hz
theorem xr_bin {op : Operator} {rr : R2} {g : D → D → Option (List D)} (ho : ∀ j, OpR (X j) (binaryOp op) rr) (hp : Prim2L T rr g) (ha : XE T E X a fa) (hb : XE T E X b fb) : XR T E X (.BinOp a op b pos) (rBin g fa fb) :=
  let ⟨_, a1, a2⟩ := ha; let ⟨_, b1, b2⟩ := hb; ⟨_, fun j => pe_op (ho j) (a1 j) (b1 j), semR_op hp a2 b2⟩
theorem xr_cat (ha : XE T E X a fa) (hb : XE T E X b fb) (hK : ∀ j, (X j).K = T.K := by intro j; rfl) : XR T E X (.BinOp a .Add b pos) (rBin gCat fa fb) := xr_bin (fun j => by rw [← hK j]; exact op_catL) p_cat ha hb
def tyOk (ty : String) (x : D) : Bool := match x with
  | .str _ => ty == "str"
  | .lst _ => ty == "list"
  | _ => false
def eMt (ty : String) (g : D → List D → Option D) (fa : M D) (fs : M (List D)) : M D := bnd fa fun x => if tyOk ty x = true then bnd fs fun xs => opt (g x xs) else fun _ => none
def rMt (ty : String) (g : D → List D → Option (List D)) (fa : M D) (fs : M (List D)) : M R := bnd fa fun x => if tyOk ty x = true then bnd fs fun xs => opt ((g x xs).map .ol) else fun _ => none
structure MtOk (X : ι → Cx) (o e : Expr) (es : List Expr) (m : Str) (apos pos : Pos) : Prop where
  base : ∀ j, attributeBase o m (X j).env (eval o (X j).env) = eval o (X j).env
  few : ∀ j, ((backTo pos (starEach (e :: es) (X j).env)).all (fun x => !x.1) && (backToKw pos (keywordEach [] (X j).env)).all (fun x => x.1.isSome)
      && decide ((e :: es).length + ([] : List Keyword).length + (if ([] : List Keyword).isEmpty then 0 else 1) < 30)) = true
  line : (apos.endLine == pos.line) = true
  st : ∀ j, starEach (e :: es) (X j).env = (false, eval e (X j).env) :: starEach es (X j).env
  pl : ∀ j, (backTo pos (starEach es (X j).env)).any (·.1) = false
theorem reps_strs {B : Hp} : ∀ {l : List Str}, (∀ s ∈ l, PyData.strOk s = true) → Reps T B (l.map D.str) (l.map V.str)
  | [], _ => reps_nil
  | s :: l, h => reps_cons ⟨rfl, h s (.head _)⟩ (reps_strs fun z hz => h z (.tail _ hz))
def sExtA (i : Nat) (m : M D) : MS := fun st => if isL st[i]? then (match m st with
  | some (.v y, s) => (match (match y with | .lst ys => some ys | .tup ys => some ys | _ => none), s[i]? with
    | some ys, some (some (.ol xs)) => if xs.length + ys.length ≤ sizeLine then some (.nx, s.set i (some (.ol (xs ++ ys)))) else none
    | _, _ => none)
  | some (.x c, s) => some (.x c, s)
  | none => none) else none
def rEqLen (K : PySem.W.Frag) : R2 := fun x y H Q => ∃ l b xs zs, x = .ref l ∧ y = .ref b ∧ SqL K H l xs ∧ SqL K H b zs ∧ xs.length ≠ zs.length ∧ Q (.bl false) H
theorem op_eqLen {Y : Cx} (hu : Y.A.units < cLine) : OpR Y (compareOp .Eq) (rEqLen Y.K) := by
  intro pins s σ H x y v u Q I rx ry h
  obtain ⟨l, b, xs, zs, rfl, rfl, hH, hB, hz, q⟩ := h
  cases rx
  cases ry
  obtain ⟨its, r, ⟨o, n, e, hc, hk, hd⟩, hl⟩ := I.list hH
  obtain ⟨its2, r2, ⟨o2, n2, e2, hc2, hk2, hd2⟩, hl2⟩ := I.list hB
  have l1 := r.length
  have l2 := r2.length
  refine SeqAt.eq_list_lengthsAt (items := its.toArray) (items2 := its2.toArray) ⟨o, e, hc, n, hd⟩ ⟨o2, e2, hc2, n2, hd2⟩ (by simp only [List.size_toArray, bne_iff_ne, ne_eq]; omega) hu ⟨.bl false, H, I, rfl, q⟩
def dEqL (x y : D) : Option D := match dEq x y with
  | some z => some z
  | none => (match x, y with
    | .lst a, .lst b => if a.length = b.length then none else some (.bl false)
    | _, _ => none)
theorem p_eqL : Prim2 T (fun x y H Q => rEqD T.K x y H Q ∨ rEqLen T.K x y H Q) dEqL := by
  intro x y z vx vy B H Q e hx hy hz k
  unfold dEqL at hz
  split at hz
  · rename_i z' h1
    cases hz
    exact .inl (p_eq x y z vx vy B H Q e hx hy h1 k)
  · split at hz
    · split at hz
      · cases hz
      · rename_i hn
        cases hz
        unfold Rep at hx hy
        obtain ⟨a, us, rfl, t1, r1⟩ := hx
        obtain ⟨b, ws, rfl, t2, r2⟩ := hy
        exact .inr ⟨a, b, us, ws, rfl, rfl, e.sqL t1, e.sqL t2, by rw [← r1.length, ← r2.length]; exact hn, k _ B H (.refl e) rfl⟩
    · cases hz
theorem xt_eqL (hu : Rm X) (hK : ∀ j, (X j).K = T.K := by intro j; rfl) (ha : XE T E X a fa) (hb : XE T E X b fb) : XT T E X (.Compare a [.Eq] [b] pos) (eTst (eBin dEqL fa fb)) := xt_cmp (fun j => by rw [← hK j]; exact (op_eqD (by have := hu j; omega)).or (op_eqLen (by have := hu j; omega))) p_eqL (nomark _) ha hb
end
end Fz
set_option Elab.async false
set_option linter.all false
set_option maxRecDepth 100000
set_option maxHeartbeats 2000000
namespace Fz
open PySem L2 PySem.Spec PyProof.Rows
section
variable (T : Tab) (mg : Str → Option Value)
def GFun (x : Str) (st : Stmt) (ps : List Str) : Prop := ∃ f fd, mg x = some (.ref f) ∧ Fun T.K x x st f fd ∧ Binds T.K fd ps []
def GMth (c : Nat) (m qual : Str) (st : Stmt) (ps : List Str) : Prop := ∃ f fd, Meth T.K (T.cls c) m f ∧ Fun T.K m qual st f fd ∧ Binds T.K fd ps []
def GMk (x : Str) (c : Nat) (qual : Str) (st : Stmt) (ps : List Str) : Prop := ∃ f fd, mg x = some (.ref (T.cls c)) ∧ Mk T.K (T.cls c) f ∧ Fun T.K "__init__" qual st f fd ∧ Binds T.K fd ps []
end
section
variable {P : Program} {w : World} {T : Tab} {mg : Str → Option Value} {base : Heap} {x m qual : Str} {st : Stmt} {N ps : List Str} {k c : Nat} {kp : Nat → Bool} {body : MS}
abbrev Does (P : Program) (w : World) (T : Tab) (mg : Str → Option Value) (base : Heap) (N : List Str) (qual : Str) (st : Stmt) (k : Nat) (kp : Nat → Bool) (body : MS) : Prop :=
  ∀ (f : Addr) (cdv : Value) (A : Around) (outer : List Env) (s : Shared) (H : Hp) (E : XK), Room k (A.deeper (envOfC qual (defScope st) s.heap.objs.size f cdv)) → XSs T (fun _ => E) (CxD P w T mg base N qual st f cdv A outer s H E) kp (defBody st) body
theorem fng_g (G : GFun T mg x st ps) (S : FnScope N ps (defScope st)) (h : Does P w T mg base N x st k kp body) : FnG P w T mg base x ps.length (fnOf ps.length N.length kp body) (k + 1) := by
  obtain ⟨f, fd, h1, h2, h3⟩ := G
  exact ⟨f, fd, ps, h1, h2.kp, h3, ok_def h2 S (h f)⟩
theorem mtg_g (G : GMth T c m qual st ps) (C : ClsOk T c) (nf : m ∉ T.flds c) (S : FnScope N ps (defScope st)) (h : Does P w T mg base N qual st k kp body) : MtG P w T mg base c m ps.length (fnOf ps.length N.length kp body) (k + 1) := by
  obtain ⟨f, fd, h1, h2, h3⟩ := G
  exact ⟨⟨f, fd, ps, h1, h3, ok_def h2 S (h f)⟩, C, nf⟩
theorem mkg_g (G : GMk T mg x c qual st ps) (S : FnScope N ps (defScope st)) (h : Does P w T mg base N qual st k kp body) : MkG P w T mg base x c ps.length (fnOf ps.length N.length kp body) (k + 1) := by
  obtain ⟨f, fd, h0, h1, h2, h3⟩ := G
  exact ⟨f, fd, ps, h0, h1, h3, ok_def h2 S (h f)⟩
end
section
variable {ι : Type} {T : Tab} {E : L2.St → XK} {X : ι → Cx} {kp : Nat → Bool} {pos apos : Pos} {e a b c o : Expr} {es : List Expr} {fa fb : M D} {fs : M (List D)} {r : M R} {x : Str}
theorem rm_blk {scope : Scope} (h : Rm X) : Rm (Blk X scope) := fun q => h q.1
end
end Fz
namespace Fz
open PySem L2 PySem.Spec PyProof.Rows
section
variable {T : Tab} {K : PySem.W.Frag} {h : Heap} {mg : Str → Option Value}
theorem fun_of {x qual : Str} {st : Stmt} {f : Addr} {fd : FuncData} (F : FunD K x qual (defArgs st) (defBody st) (defScope st) [] [] f fd) : Fun K x qual st f fd := by
  obtain ⟨oc, od, dV, kV, doc, pm, an, cdv, ct, osl, rfl, lk, hcd, hD, _⟩ := F.ex
  rcases hD with ⟨_, rfl⟩ | ⟨e, _⟩
  · exact ⟨⟨oc, od, kV, doc, pm, an, cdv, ct, osl, rfl, lk, hcd⟩, F.kp⟩
  · exact absurd rfl e
end
end Fz
set_option Elab.async false
set_option linter.all false
set_option maxRecDepth 100000
set_option maxHeartbeats 2000000
namespace Fz
open PySem L2 PySem.Spec PyProof.Rows
def LawDoes (F : Fn) : Prop := ∀ ns : List Int, ns.length ≤ 63 → ∃ rs, F [.d (.lst (ns.map D.int))] = some (.v (.d (.bl true)), rs)
theorem reps_ints {T : Tab} {B : Hp} : ∀ ns : List Int, Reps T B (ns.map D.int) (ns.map V.int)
  | [] => reps_nil
  | _ :: r => reps_cons rfl (reps_ints r)
theorem law_sp {T : Tab} {F : Fn} {H : Hp} {a : Addr} {ns : List Int} (h : LawDoes F) (hl : ns.length ≤ 63) (hO : Only H) (hS : SqL T.K H a (ns.map V.int)) : sp T 1 F [.ref a] H (fun v _ => v = .bl true) fun _ _ _ => False := by
  obtain ⟨rs, e⟩ := h ns hl
  refine ⟨rfl, [.d (.lst (ns.map D.int))], H, fun _ => none, _, rs, ?_, e, fun v B' H' _ S => ?_⟩
  · refine ⟨Ex.refl H, fun _ _ z => (nomatch z), fun _ _ z => (nomatch z), fun _ _ z => z, rfl, fun i r h => ?_, fun i r v a h1 h2 h3 => ?_, fun i j r q v u b n h1 h2 h3 h4 h5 h6 => ?_⟩
    · cases i with
      | zero =>
        simp at h; subst h
        exact ⟨_, rfl, by show Rep T H (.lst _) _; unfold Rep; exact ⟨a, _, rfl, hS, reps_ints ns⟩⟩
      | succ i => simp at h
    · cases i with
      | zero => simp at h1; subst h1; exact h3.elim
      | succ i => simp at h1
    · cases i with
      | zero => simp at h1; subst h1; exact h5.elim
      | succ i => simp at h1
  · have := S.rel 0 _ rfl
    obtain ⟨u, hu, r⟩ := this
    cases hu
    exact rep_bl (T := T) (B := B') r
theorem law_callR {P : Program} {w : World} {K : PySem.W.Frag} {mg mb : Str → Option Value} {CX : CXT} {k : Nat} {fa a : Addr} {fd : FuncData} {x : Str} {sp : Sp} {s₁ : Shared} {vs : List Value} {ns : List Int}
    (KX : K.In s₁.heap) (hns : s₁.heap.Ns mainGlobals mg) (hb : s₁.heap.Ns builtinsNs mb) (hbb : ∀ x : Str, x ≠ "__name__" → mb x = bootBuiltins x) (hlim : s₁.heap.NoLimit) (hg : s₁.gens = #[])
    (ha : s₁.heap.get? a = some { cls := .type "list", data := .seq vs.toArray }) (hi : IntsAre vs ns) (hl : ns.length ≤ sizeLine) (hr : Room k callerA)
    (F : ∀ base : Heap, K.In base → base.Ns mainGlobals mg → FnOk P w K mg base CX k fa fd [x] sp) (hbind : ∀ (s : Shared) (u : Value), BindsTo s fd ⟨[u], []⟩ [(x, u)])
    (hsp : ∀ H : Hp, Only H → SqL K H a (ns.map V.int) → sp [.ref a] H (fun v _ => v = .bl true) fun _ _ _ => False)
    (hCX : ∀ H e s', CX [] H s₁ (fun _ _ _ => False) e s' → False) :
    codeAny (model P w) callerA (.call (.ref fa) ⟨[.ref a], []⟩) (fun r s' => r = .ok (.ret (.bool true)) ∧ OldK s₁.heap s'.heap ∧ s'.os = s₁.os ∧ AllBare s'.gens) s₁ := by
  let ob : Obj := { cls := .type "list", data := .seq vs.toArray }
  have one : ∀ H : Hp, Only H → SqL K H a (ns.map V.int) → HOk P w H s₁.heap → (∀ b u, H b = some u → b = a ∧ K.lookup a = none) →
      codeAny (model P w) callerA (.call (.ref fa) ⟨[.ref a], []⟩) (fun r s' => r = .ok (.ret (.bool true)) ∧ OldK s₁.heap s'.heap ∧ s'.os = s₁.os ∧ AllBare s'.gens) s₁ := by
    intro H hO hS hok hA
    have nd : ∀ {b : Addr} {o : Obj} {es : Array DictEntry} {ep : Nat}, s₁.heap.get? b = some o → o.data = .dict es ep → H b = none := fun {b o es ep} e d => by
      cases q : H b with
      | none => rfl
      | some u =>
        obtain ⟨rfl, _⟩ := hA b u q
        rw [ha] at e; cases e; cases d
    have nsK : ∀ {b : Addr} {m : Str → Option Value}, s₁.heap.Ns b m → (hidT s₁.heap H).Ns b m := fun {b m} ⟨o, es, ep, e, d, r⟩ => ⟨o, es, ep, hidT_get e (nd e d), d, r⟩
    have hKb : K.In (hidT s₁.heap H) := fun b o e => hidT_get (KX b o e) (by
      cases q : H b with
      | none => rfl
      | some u =>
        obtain ⟨rfl, z⟩ := hA b u q
        rw [z] at e; cases e)
    have hM : Mod K mg (hidT s₁.heap H) := ⟨hKb, nsK hns, ⟨mb, nsK hb, hbb⟩, let ⟨mc, h1, h2⟩ := hlim; ⟨mc, nsK h1, h2⟩⟩
    have e0 : Env0 P w K mg (hidT s₁.heap H) callerA [] s₁ H := ⟨rfl, hM, fun b o e => of_hidT e, Nat.le_of_eq (hidT_size _ _), trivial, fun b hb => absurd (show b ∈ ([] : List Addr) from hb) (by simp), hok, .of_eq hg⟩
    refine codeAny_mono ((F _ hKb (nsK hns)).run callerA [] s₁ H ⟨[.ref a], []⟩ [.ref a] [.ref a] _ _ hr e0 (hbind s₁ (.ref a)) (.cons rfl .nil) (hsp H hO hS)) fun r s' h => ?_
    cases r with
    | error e => exact (hCX H e s' h).elim
    | ok fl =>
      cases fl with
      | next => exact False.elim h
      | brk => exact False.elim h
      | cont => exact False.elim h
      | ret u =>
        obtain ⟨v, H', os, bare, un, hok', r', q⟩ := h
        have q' : v = .bl true := q
        subst q'
        obtain rfl : u = Value.bool true := r'
        refine ⟨rfl, OldK.of_keep fun b o e => ?_, os, bare⟩
        rcases hO b with z | ⟨o2, xs, z⟩
        · exact un.keep b o e z (by intro z; exact absurd (show b ∈ ([] : List Addr) from z) (by simp)) (by simp)
        · obtain ⟨e1, _⟩ := hok b _ z
          obtain ⟨e2, _⟩ := hok' b _ (un.frzs b o2 _ z)
          rw [e] at e1; cases e1
          exact e2
  have rv := vals_ints hi
  cases hk : K.lookup a with
  | some o =>
    have e := KX a o hk
    rw [ha] at e
    cases e
    exact one (fun _ => none) (fun _ => .inl rfl) (.inr ⟨_, vs.toArray, _, hk, rfl, rfl, rfl, by rw [List.size_toArray, hi.length]; exact hl, by simpa using rv⟩) (fun b u z => by cases z) fun b u z => by cases z
  | none =>
    let H : Hp := fun b => if b = a then some (.frz ob (.lst (ns.map V.int))) else none
    have hH : ∀ b u, H b = some u → b = a ∧ u = .frz ob (.lst (ns.map V.int)) := fun b u z => by
      by_cases hb : b = a
      · exact ⟨hb, Option.some.inj (z.symm.trans (if_pos hb))⟩
      · exact absurd ((if_neg hb).symm.trans z) (by simp)
    refine one H (fun b => ?_) (.inl (.inr ⟨ob, if_pos rfl⟩)) (fun b u z => ?_) fun b u z => ⟨(hH b u z).1, hk⟩
    · by_cases hb : b = a
      · exact .inr ⟨_, _, if_pos hb⟩
      · exact .inl (if_neg hb)
    · obtain ⟨rfl, rfl⟩ := hH b u z
      exact ⟨ha, by rw [List.length_map]; exact hl, vs, _, rv, ha⟩
theorem walk_ofW {l : PySem.W.OpenLaw} {k : Nat} {q : Program} {loose : List Str} {XP : (Str → Option Value) → Heap → Prop} {YP : World → Heap → Prop} {d : DefRec} {x : Str}
    (hn : l.most = some 63) (hdf : d.params.defaults = []) (hr : Room k callerA)
    (F : ∀ (w : World) (mg : Str → Option Value) (fa : Addr) (h : Heap), YP w h → h.Ns mainGlobals mg → mg d.name = some (.ref fa) →
      ∃ (T : Tab) (fd : FuncData) (F : Fn), T.K.In h ∧ (∀ (s : Shared) (u : Value), BindsTo s fd ⟨[u], []⟩ [(x, u)]) ∧ LawDoes F ∧
        ∀ base : Heap, T.K.In base → base.Ns mainGlobals mg → FnOk l.prog w T.K mg base (L2.CX l.prog w) k fa fd [x] (sp T 1 F)) :
    PySem.W.WalkO q loose XP YP l.row.toRowW d [] (fun f vs => PySem.call f vs) := by
  refine Att.attach_call hn hdf fun w s₀ s₁ mg mb fa o pm cd doc a vs ns G Y ho hd hcd hmg hobj hints hlen hg => ?_
  obtain ⟨T, fd, F0, KX, hb, hL, hF⟩ := F w mg fa _ Y G.T.g hmg
  exact law_callR KX G.T.g G.T.b G.T.builtins G.T.nolimit hg hobj hints (Nat.le_trans hlen (by decide)) hr hF hb (fun H hO hS => law_sp hL hlen hO hS) fun H e s' h => by
    obtain ⟨_, _, _, _, _, _, _, _, _, _, _, _, z⟩ := h
    exact z.elim
section
variable {K : PySem.W.Frag} {h : Heap} {mg : Str → Option Value}
end
end Fz
set_option Elab.async false
set_option linter.all false
set_option maxRecDepth 100000
set_option maxHeartbeats 2000000
namespace Fz
open PySem L2
def wp {α : Type} (m : M α) (st : Sl) (Q : Oc α → Sl → Prop) : Prop := match m st with
  | some (o, s) => Q o s
  | none => False
def ws (m : MS) (st : Sl) (Q : Fl → Sl → Prop) : Prop := match m st with
  | some (o, s) => Q o s
  | none => False
def wf (F : Fn) (rs : List R) (Q : Oc R → List R → Prop) : Prop := match F rs with
  | some (o, s) => Q o s
  | none => False
def wpe {α : Type} (m : M α) (st : Sl) (Q : Oc α → Sl → Prop) : Prop := wp m st Q
def wse (m : MS) (st : Sl) (Q : Fl → Sl → Prop) : Prop := ws m st Q
def wo {α : Type} (o : Option α) (k : α → Prop) : Prop := ∃ a, o = some a ∧ k a
def wb (b : Bool) (p q : Prop) : Prop := if b = true then p else q
def wa (c p : Prop) : Prop := c ∧ p
def vx {α β : Type} (Q : Oc β → Sl → Prop) (k : α → Sl → Prop) : Oc α → Sl → Prop
  | .v a, s => k a s
  | .x c, s => Q (.x c) s
def vs {α : Type} (Q : Fl → Sl → Prop) (k : α → Sl → Prop) : Oc α → Sl → Prop
  | .v a, s => k a s
  | .x c, s => Q (.x c) s
def nx (Q : Fl → Sl → Prop) (k : Sl → Prop) : Fl → Sl → Prop
  | .nx, s => k s
  | f, s => Q f s
def lp (Q : Fl → Sl → Prop) (k : Sl → Prop) : Fl → Sl → Prop
  | .nx, s => k s
  | .ct, s => k s
  | .bk, s => Q .nx s
  | f, s => Q f s
def gt : Sl → Nat → Option (Option R)
  | [], _ => none
  | a :: _, 0 => some a
  | _ :: l, i + 1 => gt l i
def stt : Sl → Nat → Option R → Sl
  | [], _, _ => []
  | _ :: l, 0, x => x :: l
  | a :: l, i + 1, x => a :: stt l i x
theorem gt_eq : ∀ (s : Sl) (i : Nat), s[i]? = gt s i
  | [], _ => by simp [gt]
  | a :: _, 0 => rfl
  | _ :: l, i + 1 => by simp [gt, gt_eq l i]
theorem stt_eq : ∀ (s : Sl) (i : Nat) (x : Option R), s.set i x = stt s i x
  | [], _, _ => rfl
  | a :: _, 0, _ => rfl
  | a :: l, i + 1, x => by rw [List.set_cons_succ, stt_eq l i]; rfl
def vr (o : Option (Option R)) (i : Nat) (st : Sl) (Q : Oc D → Sl → Prop) : Prop := match o with
  | some (some (.d x)) => Q (.v x) st
  | some (some (.ol xs)) => Q (.v (.lst xs)) (stt st i (some (.d (.lst xs))))
  | some (some (.od ks vs)) => Q (.v (.dct ks vs)) (stt st i (some (.d (.dct ks vs))))
  | _ => False
section
variable {α β : Type} {st s : Sl} {Q : Oc D → Sl → Prop} {QR : Oc R → Sl → Prop} {QB : Oc Bool → Sl → Prop} {QL : Oc (List D) → Sl → Prop} {QA : Oc (List Arg) → Sl → Prop} {QS : Fl → Sl → Prop} {fa fb fc : M D} {fs : M (List D)} {r : M R}
-- ends
theorem vs_v {k : α → Sl → Prop} {a : α} : vs QS k (.v a) s = k a s := rfl
theorem lp_nx {k : Sl → Prop} : lp QS k .nx s = k s := rfl
theorem lp_rt {k : Sl → Prop} {v : R} : lp QS k (.rt v) s = QS (.rt v) s := rfl
theorem lp_bk {k : Sl → Prop} : lp QS k .bk s = QS .nx s := rfl
theorem lp_ct {k : Sl → Prop} : lp QS k .ct s = k s := rfl
theorem lp_x {k : Sl → Prop} {c : Nat} : lp QS k (.x c) s = QS (.x c) s := rfl
theorem wo_some {k : α → Prop} {a : α} : wo (some a) k = k a := propext ⟨fun ⟨_, e, h⟩ => by cases e; exact h, fun h => ⟨_, rfl, h⟩⟩
theorem wo_none {k : α → Prop} : wo (none : Option α) k = False := propext ⟨fun ⟨_, e, h⟩ => (nomatch e), fun h => h.elim⟩
theorem wo_if {c : Prop} [Decidable c] {k : α → Prop} {a : α} : wo (if c then some a else none) k = wa c (k a) := by
  refine propext ⟨fun ⟨_, e, h⟩ => ?_, fun h => ⟨_, if_pos h.1, h.2⟩⟩
  split at e
  · rename_i hc; cases e; exact ⟨hc, h⟩
  · cases e
theorem wb_t {p q : Prop} : wb true p q = p := rfl
theorem wb_f {p q : Prop} : wb false p q = q := by unfold wb; simp
theorem wb_of {b : Bool} {p q : Prop} (h1 : b = true → p) (h2 : b = false → q) : wb b p q := by
  cases b with
  | true => exact h1 rfl
  | false => rw [wb_f]; exact h2 rfl
theorem wa_t {p : Prop} : wa True p = p := by unfold wa; simp
theorem wf_of {F : Fn} {rs rs' : List R} {o : Oc R} {Q : Oc R → List R → Prop} (h : F rs = some (o, rs')) : wf F rs Q = Q o rs' := by unfold wf; rw [h]
theorem wf_get {F : Fn} {rs : List R} {Q : Oc R → List R → Prop} (h : wf F rs Q) : ∃ o rs', F rs = some (o, rs') ∧ Q o rs' := by
  unfold wf at h
  split at h
  · rename_i o s e; exact ⟨o, s, e, h⟩
  · exact h.elim
theorem wpe_eq {m : M α} {Q : Oc α → Sl → Prop} : wpe m st Q = wp m st Q := rfl
theorem wse_eq {m : MS} : wse m st QS = ws m st QS := rfl
-- terms
theorem wp_ret {a : α} {Q : Oc α → Sl → Prop} : wp (ret a) st Q = Q (.v a) st := rfl
theorem wp_bnd {m : M α} {k : α → M β} {Q : Oc β → Sl → Prop} : wp (bnd m k) st Q = wp m st (vx Q fun a s => wp (k a) s Q) := by
  unfold wp bnd
  cases m st with
  | none => rfl
  | some p => obtain ⟨o, s⟩ := p; cases o <;> rfl
theorem wp_opt {o : Option α} {Q : Oc α → Sl → Prop} : wp (opt o) st Q = wo o fun a => Q (.v a) st := by
  unfold wp opt
  cases o with
  | none => rw [wo_none]
  | some a => rw [wo_some]
theorem wp_eUn {g : D → Option D} : wp (eUn g fa) st Q = wp fa st (vx Q fun x s => wo (g x) fun z => Q (.v z) s) := by
  unfold eUn; rw [wp_bnd]; simp only [wp_opt]
theorem wp_eBin {g : D → D → Option D} : wp (eBin g fa fb) st Q = wp fa st (vx Q fun x s => wp fb s (vx Q fun y s => wo (g x y) fun z => Q (.v z) s)) := by
  unfold eBin; rw [wp_bnd]; simp only [wp_bnd, wp_opt]
theorem wp_eCons {fr : M (List D)} : wp (eCons fa fr) st QL = wp fa st (vx QL fun x s => wp fr s (vx QL fun xs s => QL (.v (x :: xs)) s)) := by
  unfold eCons; rw [wp_bnd]; simp only [wp_bnd, wp_ret]
theorem wp_eOp {g : List D → Option D} : wp (eOp g fs) st Q = wp fs st (vx Q fun x s => wo (g x) fun z => Q (.v z) s) := by
  unfold eOp; rw [wp_bnd]; simp only [wp_opt]
theorem wp_eTup : wp (eTup fs) st Q = wp fs st (vx Q fun x s => wa (x.length ≤ sizeLine) (Q (.v (.tup x)) s)) := by
  unfold eTup; rw [wp_bnd]; simp only [wp_opt, wo_if]
theorem wp_rD : wp (rD fa) st QR = wp fa st (vx QR fun x s => QR (.v (.d x)) s) := by unfold rD; rw [wp_bnd]; rfl
theorem wp_rOp {g : List D → Option (List D)} : wp (rOp g fs) st QR = wp fs st (vx QR fun x s => wo (g x) fun z => QR (.v (.ol z)) s) := by
  unfold rOp; rw [wp_bnd]; simp only [wp_opt]
  congr 1; congr 1; funext x s
  cases g x with
  | none => (simp only [Option.map_none]; rw [wo_none, wo_none])
  | some z => (simp only [Option.map_some]; rw [wo_some, wo_some])
theorem wp_rLst : wp (rLst fs) st QR = wp fs st (vx QR fun x s => wa (x.length ≤ sizeLine) (QR (.v (.ol x)) s)) := by
  unfold rLst; rw [wp_bnd]; simp only [wp_opt, wo_if]
theorem wp_eFz {n : Nat → Nat} : wp (eFz n r) st Q = wp r st (vx Q fun x s => wa (wholeB n x = true) (Q (.v (vw x)) s)) := by
  unfold eFz; rw [wp_bnd]; simp only [wp_opt, wo_if]
theorem wp_eVar {i : Nat} : wp (eVar i) st Q = vr (gt st i) i st Q := by
  unfold wp eVar vr
  rw [gt_eq]
  cases gt st i with
  | none => rfl
  | some o => cases o with
    | none => rfl
    | some r => cases r <;> first | rfl | (simp only [stt_eq])
theorem vr_d {i : Nat} {x : D} : vr (some (some (.d x))) i st Q = Q (.v x) st := rfl
theorem vr_ol {i : Nat} {xs : List D} : vr (some (some (.ol xs))) i st Q = Q (.v (.lst xs)) (stt st i (some (.d (.lst xs)))) := rfl
theorem vr_od {i : Nat} {ks vs : List D} : vr (some (some (.od ks vs))) i st Q = Q (.v (.dct ks vs)) (stt st i (some (.d (.dct ks vs)))) := rfl
theorem gt_0 {a : Option R} {l : Sl} : gt (a :: l) 0 = some a := rfl
theorem gt_s {a : Option R} {l : Sl} {i : Nat} : gt (a :: l) (i + 1) = gt l i := rfl
theorem stt_0 {a x : Option R} {l : Sl} : stt (a :: l) 0 x = x :: l := rfl
theorem stt_s {a x : Option R} {l : Sl} {i : Nat} : stt (a :: l) (i + 1) x = a :: stt l i x := rfl
def fx {α : Type} (Q : Oc α → Sl → Prop) (st : Sl) (k : α → Prop) : Oc α → Sl → Prop
  | .v x, _ => k x
  | .x c, _ => Q (.x c) st
theorem wp_eFull {n : Nat → Nat} : wp (eFull n fa) st Q = wpe fa (vwN n st) (fx Q st fun x => wa (imm x = true) (Q (.v x) st)) := by
  unfold wpe wp eFull
  cases fa (vwN n st) with
  | none => rfl
  | some p =>
    obtain ⟨o, s⟩ := p
    cases o with
    | v x =>
      simp only [fx, wa]
      cases imm x <;> simp
    | x c => rfl
theorem wp_tFull {n : Nat → Nat} {f : M Bool} : wp (tFull n f) st QB = wpe f (vwN n st) (fx QB st fun x => QB (.v x) st) := by
  unfold wpe wp tFull
  cases f (vwN n st) with
  | none => rfl
  | some p => obtain ⟨o, s⟩ := p; cases o <;> rfl
def rfx (Q : Oc R → Sl → Prop) (st : Sl) : Oc R → Sl → Prop
  | .v (.ol xs), _ => wa (imms xs = true) (Q (.v (.ol xs)) st)
  | .v (.d x), _ => wa (imm x = true) (Q (.v (.d x)) st)
  | .x c, _ => Q (.x c) st
  | _, _ => False
theorem rfx_x {c : Nat} : rfx QR st (.x c) s = QR (.x c) st := rfl
theorem wp_rFull {n : Nat → Nat} : wp (rFull n r) st QR = wpe r (vwN n st) (rfx QR st) := by
  unfold wpe wp rFull
  cases r (vwN n st) with
  | none => rfl
  | some p =>
    obtain ⟨o, s⟩ := p
    cases o with
    | v x =>
      cases x with
      | d x =>
        simp only [rfx, wa]
        cases imm x <;> simp
      | ol xs =>
        simp only [rfx, wa]
        cases imms xs <;> simp
      | _ => rfl
    | x c => rfl
theorem vwN_nil {n : Nat → Nat} : vwN n [] = [] := rfl
theorem vwN_d {n : Nat → Nat} {x : D} {l : Sl} : vwN n (some (.d x) :: l) = some (.d x) :: vwN n l := rfl
theorem vwN_ol {n : Nat → Nat} {x : List D} {l : Sl} : vwN n (some (.ol x) :: l) = some (.d (.lst x)) :: vwN n l := rfl
theorem vwN_od {n : Nat → Nat} {x y : List D} {l : Sl} : vwN n (some (.od x y) :: l) = some (.d (.dct x y)) :: vwN n l := rfl
theorem vwN_no {n : Nat → Nat} {l : Sl} : vwN n (none :: l) = none :: vwN n l := rfl
theorem vwN_oi {n : Nat → Nat} {c : Nat} {x : List D} {l : Sl} : vwN n (some (.oi c x) :: l) = (if (x.length == n c) = true then some (.d (.obj c x)) else none) :: vwN n l := rfl
-- tests
def tb (o : D) (k : Bool → Prop) : Prop := match o with
  | .bl b => k b
  | _ => False
theorem wp_eTst : wp (eTst fa) st QB = wp fa st (vx QB fun x s => tb x fun b => QB (.v b) s) := by
  unfold eTst; rw [wp_bnd]; simp only [wp_opt]
  congr 1; congr 1; funext x s
  cases x <;> first | exact wo_none | exact wo_some
theorem wp_eNot : wp (eNot fa) st Q = wp fa st (vx Q fun x s => tb x fun b => Q (.v (.bl !b)) s) := by
  unfold eNot; rw [wp_bnd]; simp only [wp_opt]
  congr 1; congr 1; funext x s
  cases x <;> first | exact wo_none | exact wo_some
theorem wp_cAnd {f g : M Bool} : wp (cAnd f g) st QB = wp f st (vx QB fun b s => wb b (wp g s QB) (QB (.v false) s)) := by
  unfold cAnd; rw [wp_bnd]; congr 1; congr 1; funext b s; cases b <;> simp [wb, wp_ret]
theorem wp_cOr {f g : M Bool} : wp (cOr f g) st QB = wp f st (vx QB fun b s => wb b (QB (.v true) s) (wp g s QB)) := by
  unfold cOr; rw [wp_bnd]; congr 1; congr 1; funext b s; cases b <;> simp [wb, wp_ret]
theorem wp_cNot {f : M Bool} : wp (cNot f) st QB = wp f st (vx QB fun b s => QB (.v !b) s) := by unfold cNot; rw [wp_bnd]; rfl
theorem wp_eAnd : wp (eAnd fa fb) st Q = wp fa st (vx Q fun x s => tb x fun b => wb b (wp fb s Q) (Q (.v (.bl false)) s)) := by
  unfold eAnd; rw [wp_bnd]; congr 1; congr 1; funext x s
  cases x <;> first | rfl | (rename_i b; cases b <;> simp [wb, tb, wp_ret])
theorem wp_eOr : wp (eOr fa fb) st Q = wp fa st (vx Q fun x s => tb x fun b => wb b (Q (.v (.bl true)) s) (wp fb s Q)) := by
  unfold eOr; rw [wp_bnd]; congr 1; congr 1; funext x s
  cases x <;> first | rfl | (rename_i b; cases b <;> simp [wb, tb, wp_ret])
theorem wp_eChain {g g' : D → D → Option D} : wp (eChain g g' fa fb fc) st Q = wp fa st (vx Q fun x s => wp fb s (vx Q fun y s => wo (g x y) fun z => tb z fun b => wb b (wp fc s (vx Q fun w s => wo (g' y w) fun z => Q (.v z) s)) (Q (.v (.bl false)) s))) := by
  unfold eChain; rw [wp_bnd]; congr 1; congr 1; funext x s; rw [wp_bnd]; congr 1; congr 1; funext y s; rw [wp_bnd, wp_opt]
  cases g x y with
  | none => rw [wo_none, wo_none]
  | some z =>
    rw [wo_some, wo_some]
    show wp _ s Q = _
    cases z <;> first | rfl | (rename_i b; cases b <;> simp [wb, tb, wp_ret, wp_bnd, wp_opt])
theorem wp_eIf {c : M Bool} {p q : M D} : wp (eIf c p q) st Q = wp c st (vx Q fun b s => wb b (wp p s Q) (wp q s Q)) := by
  unfold eIf; rw [wp_bnd]; congr 1; congr 1; funext b s; cases b <;> simp [wb]
theorem wp_rIf {c : M Bool} {p q : M R} : wp (rIf c p q) st QR = wp c st (vx QR fun b s => wb b (wp p s QR) (wp q s QR)) := by
  unfold rIf; rw [wp_bnd]; congr 1; congr 1; funext b s; cases b <;> simp [wb]
-- slices
def ti (o : D) (k : Int → Prop) : Prop := match o with
  | .int b => k b
  | _ => False
theorem ti_int {b : Int} {k : Int → Prop} : ti (.int b) k = k b := rfl
theorem wp_oSome {QO : Oc (Option Int) → Sl → Prop} : wp (oSome fa) st QO = wp fa st (vx QO fun x s => ti x fun i => QO (.v (some i)) s) := by
  unfold oSome; rw [wp_bnd]; simp only [wp_opt]
  congr 1; congr 1; funext x s
  cases x <;> first | exact wo_none | exact wo_some
theorem wp_eSl {lo hi : M (Option Int)} : wp (eSl fa lo hi) st Q = wp fa st (vx Q fun x s => wp lo s (vx Q fun l s => wp hi s (vx Q fun h s => wo (dSl x l h) fun z => Q (.v z) s))) := by
  unfold eSl; rw [wp_bnd]; simp only [wp_bnd, wp_opt]
def tl (o : D) (k : List D → Prop) : Prop := match o with
  | .lst b => k b
  | _ => False
theorem tl_l {b : List D} {k : List D → Prop} : tl (.lst b) k = k b := rfl
theorem wp_rSlL' {lo hi : M (Option Int)} : wp (rSlL' fa lo hi) st QR = wp fa st (vx QR fun x s => wp lo s (vx QR fun l s => wp hi s (vx QR fun h s => tl x fun xs => QR (.v (.ol (cutD xs l h))) s))) := by
  unfold rSlL'; rw [wp_bnd]; simp only [wp_bnd, wp_opt]
  congr 1; congr 1; funext x s; congr 1; congr 1; funext l s; congr 1; congr 1; funext h s
  cases x <;> first | exact wo_none | exact wo_some
-- methods of data
theorem wp_eMt {ty : String} {g : D → List D → Option D} : wp (eMt ty g fa fs) st Q = wp fa st (vx Q fun x s => wa (tyOk ty x = true) (wp fs s (vx Q fun xs s => wo (g x xs) fun z => Q (.v z) s))) := by
  unfold eMt; rw [wp_bnd]; congr 1; congr 1; funext x s
  unfold wa
  cases tyOk ty x with
  | false => simp [wp]
  | true => simp [wp_bnd, wp_opt]
theorem wp_rMt {ty : String} {g : D → List D → Option (List D)} : wp (rMt ty g fa fs) st QR = wp fa st (vx QR fun x s => wa (tyOk ty x = true) (wp fs s (vx QR fun xs s => wo (g x xs) fun z => QR (.v (.ol z)) s))) := by
  unfold rMt; rw [wp_bnd]; congr 1; congr 1; funext x s
  unfold wa
  cases tyOk ty x with
  | false => simp [wp]
  | true =>
    simp only [if_true, wp_bnd, wp_opt, true_and]
    congr 1; congr 1; funext y s
    cases g x y with
    | none => (simp only [Option.map_none]; rw [wo_none, wo_none])
    | some z => (simp only [Option.map_some]; rw [wo_some, wo_some])
theorem wp_rBin {g : D → D → Option (List D)} : wp (rBin g fa fb) st QR = wp fa st (vx QR fun x s => wp fb s (vx QR fun y s => wo (g x y) fun z => QR (.v (.ol z)) s)) := by
  unfold rBin; rw [wp_bnd]; simp only [wp_bnd, wp_opt]
  congr 1; congr 1; funext x s; congr 1; congr 1; funext y s
  cases g x y with
  | none => (simp only [Option.map_none]; rw [wo_none, wo_none])
  | some z => (simp only [Option.map_some]; rw [wo_some, wo_some])
def mv (o : Option (Option R)) (i : Nat) (st : Sl) (Q : Oc R → Sl → Prop) : Prop := match o with
  | some (some r) => Q (.v r) (stt st i none)
  | _ => False
theorem mv_s {i : Nat} {x : R} : mv (some (some x)) i st QR = QR (.v x) (stt st i none) := rfl
theorem wp_rMv {i : Nat} : wp (rMv i) st QR = mv (gt st i) i st QR := by
  unfold wp rMv mv
  rw [gt_eq]
  cases gt st i with
  | none => rfl
  | some o => cases o <;> first | rfl | (simp only [stt_eq])
-- what is walked
theorem wp_iLst : wp (iLst fa) st QL = wp fa st (vx QL fun x s => tl x fun xs => QL (.v xs) s) := by
  unfold iLst; rw [wp_bnd]; simp only [wp_opt]
  congr 1; congr 1; funext x s
  cases x <;> first | exact wo_none | exact wo_some
def tt (o : D) (k : List D → Prop) : Prop := match o with
  | .tup b => k b
  | _ => False
theorem tt_t {b : List D} {k : List D → Prop} : tt (.tup b) k = k b := rfl
theorem wp_iTupl : wp (iTupl fa) st QL = wp fa st (vx QL fun x s => tt x fun xs => QL (.v xs) s) := by
  unfold iTupl; rw [wp_bnd]; simp only [wp_opt]
  congr 1; congr 1; funext x s
  cases x <;> first | exact wo_none | exact wo_some
def tq (o : D) (k : List D → Prop) : Prop := match o with
  | .tup b => k b
  | .lst b => k b
  | _ => False
theorem tq_t {b : List D} {k : List D → Prop} : tq (.tup b) k = k b := rfl
theorem tq_l {b : List D} {k : List D → Prop} : tq (.lst b) k = k b := rfl
theorem wp_iSeq : wp (iSeq fa) st QL = wp fa st (vx QL fun x s => tq x fun xs => QL (.v xs) s) := by
  unfold iSeq; rw [wp_bnd]; simp only [wp_opt]
  congr 1; congr 1; funext x s
  cases x <;> first | exact wo_none | exact wo_some
def tx (o : D) (k : Str → Prop) : Prop := match o with
  | .str b => k b
  | _ => False
theorem tx_s {b : Str} {k : Str → Prop} : tx (.str b) k = k b := rfl
theorem wp_iText : wp (iText fa) st QL = wp fa st (vx QL fun x s => tx x fun z => QL (.v (sgnD z)) s) := by
  unfold iText; rw [wp_bnd]; simp only [wp_opt]
  congr 1; congr 1; funext x s
  cases x <;> first | exact wo_none | exact wo_some
def dR1 : List D → Option (List D)
  | [.int j] => if smallI j then some (rngD 0 j.toNat) else none
  | _ => none
theorem dR1_i {j : Int} : dR1 [.int j] = if smallI j then some (rngD 0 j.toNat) else none := rfl
theorem wp_iR1 : wp (iR1 fs) st QL = wp fs st (vx QL fun x s => wo (dR1 x) fun z => QL (.v z) s) := by
  unfold iR1; rw [wp_bnd]; simp only [wp_opt]; rfl
def dR2 : List D → Option (List D)
  | [.int i, .int j] => if smallI i && smallI j then some (rngD i (j - i).toNat) else none
  | _ => none
theorem dR2_i {i j : Int} : dR2 [.int i, .int j] = if smallI i && smallI j then some (rngD i (j - i).toNat) else none := rfl
theorem wp_iR2 : wp (iR2 fs) st QL = wp fs st (vx QL fun x s => wo (dR2 x) fun z => QL (.v z) s) := by
  unfold iR2; rw [wp_bnd]; simp only [wp_opt]; rfl
def dEn : List D → Option (List D)
  | [.lst xs] => some (enumD 0 xs)
  | _ => none
theorem dEn_i {j : List D} : dEn [.lst j] = some (enumD 0 j) := rfl
theorem wp_iEn : wp (iEn fs) st QL = wp fs st (vx QL fun x s => wo (dEn x) fun z => QL (.v z) s) := by
  unfold iEn; rw [wp_bnd]; simp only [wp_opt]; rfl
-- calls
theorem wp_aV {fr : M (List Arg)} : wp (aV fa fr) st QA = wp fa st (vx QA fun x s => wp fr s (vx QA fun xs s => QA (.v (.v x :: xs)) s)) := by
  unfold aV; rw [wp_bnd]; simp only [wp_bnd, wp_ret]
def isR (o : Option (Option R)) (p : Prop) : Prop := match o with
  | some (some _) => p
  | _ => False
theorem isR_s {x : R} {p : Prop} : isR (some (some x)) p = p := rfl
theorem wp_aO {i : Nat} {fr : M (List Arg)} : wp (aO i fr) st QA = isR (gt st i) (wp fr st (vx QA fun xs s => QA (.v (.o i :: xs)) s)) := by
  rw [← gt_eq]
  unfold aO isR
  cases h : st[i]? with
  | none => simp only [wp, h]
  | some o => cases o with
    | none => simp only [wp, h]
    | some r =>
      have e : wp (bnd fr fun xs => ret (.o i :: xs)) st QA = wp fr st (vx QA fun xs s => QA (.v (.o i :: xs)) s) := by rw [wp_bnd]; rfl
      rw [← e]
      simp only [wp, h]
def gA : List Arg → Sl → Option (List R)
  | [], _ => some []
  | .v x :: as, st => (gA as st).map (.d x :: ·)
  | .o i :: as, st => match gt st i, gA as st with
    | some (some r), some rs => some (r :: rs)
    | _, _ => none
theorem gA_eq : ∀ (as : List Arg) (st : Sl), getA as st = gA as st
  | [], _ => rfl
  | .v x :: as, st => by unfold getA gA; rw [gA_eq as st]
  | .o i :: as, st => by
    unfold getA gA; rw [gA_eq as st, gt_eq]
    try (cases gt st i with
      | none => rfl
      | some o => cases o <;> rfl)
def pA : List Arg → List R → Sl → Sl
  | .o i :: as, r :: rs, st => pA as rs (stt st i (some r))
  | .v _ :: as, _ :: rs, st => pA as rs st
  | _, _, st => st
theorem pA_eq : ∀ (as : List Arg) (rs : List R) (st : Sl), putA as rs st = pA as rs st
  | .o i :: as, r :: rs, st => by unfold putA pA; rw [pA_eq as rs, stt_eq]
  | .v _ :: as, _ :: rs, st => by unfold putA pA; rw [pA_eq as rs]
  | [], _, st => by unfold putA pA; rfl
  | .o i :: as, [], st => rfl
  | .v i :: as, [], st => rfl
theorem wp_callF {F : Fn} {as : List Arg} : wp (callF F as) st QR = wo (gA as st) fun rs => wa ((owns as).Nodup) (wf F rs fun o rs' => wa (rs'.length = rs.length) (QR o (pA as rs' st))) := by
  unfold wp callF wf
  rw [gA_eq]
  cases gA as st with
  | none => rw [wo_none]
  | some rs =>
    rw [wo_some]
    unfold wa
    by_cases h : (owns as).Nodup
    · simp only [h, if_true, true_and]
      cases F rs with
      | none => rfl
      | some p =>
        obtain ⟨o, rs'⟩ := p
        by_cases h2 : rs'.length = rs.length
        · simp only [h2, if_true, true_and, pA_eq]
        · simp only [h2, if_false, false_and]
    · simp only [h, if_false, false_and]
theorem wp_rCall {n : Nat} {F : Fn} {ds : List D} {fl : M (List Arg)} : wp (rCall n F ds fl) st QR = wp fl st (vx QR fun as s => wa (as.length + ds.length = n) (wp (callF F (as ++ ds.map Arg.v)) s QR)) := by
  unfold rCall; rw [wp_bnd]; congr 1; congr 1; funext as s
  unfold wa
  by_cases h : as.length + ds.length = n
  · simp only [h, if_true, true_and]
  · simp only [h, if_false, false_and]; rfl
def to (o : D) (k : Nat → List D → Prop) : Prop := match o with
  | .obj c b => k c b
  | _ => False
theorem to_o {c : Nat} {b : List D} {k : Nat → List D → Prop} : to (.obj c b) k = k c b := rfl
def nx0 {α β : Type} (k : α → Sl → Prop) : Oc α → Sl → Prop
  | .v a, s => k a s
  | _, _ => False
theorem nx0_v {k : α → Sl → Prop} {a : α} : nx0 (β := β) k (.v a) s = k a s := rfl
theorem wp_rMeth {n : Nat} {tab : Nat → Option Fn} {fl : M (List Arg)} : wp (rMeth n tab fa fl) st QR = wp fa st (nx0 (β := D) fun x s => to x fun c xs => wo (tab c) fun F => wp fl s (vx QR fun as s => wa (as.length + 1 = n) (wp (callF F (.v (.obj c xs) :: as)) s QR))) := by
  have gen : ∀ (F : Fn) (c : Nat) (xs : List D) (s : Sl), wp (bnd fl fun as => if as.length + 1 = n then callF F (.v (.obj c xs) :: as) else fun _ => none) s QR = wp fl s (vx QR fun as s => wa (as.length + 1 = n) (wp (callF F (.v (.obj c xs) :: as)) s QR)) := fun F c xs s => by
    rw [wp_bnd]; congr 1; congr 1; funext as s
    unfold wa
    by_cases h : as.length + 1 = n
    · simp only [h, if_true, true_and]
    · simp only [h, if_false, false_and]; rfl
  simp only [← gen]
  unfold wp rMeth
  cases fa st with
  | none => rfl
  | some p =>
    obtain ⟨o, s⟩ := p
    cases o with
    | x c => rfl
    | v x =>
      cases x with
      | obj c xs =>
        simp only [nx0_v, to_o]
        cases tab c with
        | none => rw [wo_none]
        | some F => rw [wo_some]
      | _ => rfl
-- a def
def oend (n : Nat) (kp : Nat → Bool) (rs : List R) (Q : Oc R → List R → Prop) : Fl → Sl → Prop
  | .rt r, s => wo (outs kp 0 rs s) fun qs => Q (.v r) qs
  | .nx, s => wo (outs kp 0 rs s) fun qs => Q (.v (.d .non)) qs
  | .x c, s => wo (outs kp 0 rs s) fun qs => Q (.x c) qs
  | _, _ => False
theorem wf_fnOf {n N : Nat} {kp : Nat → Bool} {body : MS} {rs : List R} {Q : Oc R → List R → Prop} : wf (fnOf n N kp body) rs Q = wa (rs.length = n) (wse body (rs.map some ++ List.replicate (N - n) none) (oend n kp rs Q)) := by
  unfold wf fnOf wse ws wa
  by_cases h : rs.length = n
  · simp only [h, if_true, true_and]
    have wm : ∀ (o : Oc R) (x : Option (List R)), (match (x.map fun qs => (o, qs)) with | some (o, s) => Q o s | none => False) = wo x fun qs => Q o qs := fun o x => by
      cases x with
      | none => rw [wo_none]; rfl
      | some a => rw [wo_some]; rfl
    cases body (rs.map some ++ List.replicate (N - n) none) with
    | none => rfl
    | some p =>
      obtain ⟨f, s⟩ := p
      cases f <;> first | rfl | exact wm _ _
  · simp only [h, if_false, false_and]
theorem outs_nil {kp : Nat → Bool} {i : Nat} {st : Sl} : outs kp i [] st = some [] := by cases st <;> rfl
def outs1 (o : Option R) (t : Option (List R)) : Option (List R) := match o, t with
  | some q, some qs => some (q :: qs)
  | _, _ => none
theorem outs1_s {a : R} {b : List R} : outs1 (some a) (some b) = some (a :: b) := rfl
theorem outs_cons {kp : Nat → Bool} {i : Nat} {a : R} {rs : List R} {b : Option R} {st : Sl} : outs kp i (a :: rs) (b :: st) = outs1 (if kp i = true then b else if isD a = true then some a else none) (outs kp (i + 1) rs st) := rfl
theorem isD_d {x : D} : isD (.d x) = true := rfl
-- rows
theorem ws_sSeq {f g : MS} : ws (sSeq f g) st QS = ws f st (nx QS fun s => ws g s QS) := by
  unfold ws sSeq
  cases f st with
  | none => rfl
  | some p => obtain ⟨o, s⟩ := p; cases o <;> rfl
theorem ws_sSet {i : Nat} {m : M R} : ws (sSet i m) st QS = wp m st (vs QS fun r s => QS .nx (stt s i (some r))) := by
  unfold ws wp sSet
  cases m st with
  | none => rfl
  | some p => obtain ⟨o, s⟩ := p; cases o <;> first | rfl | (simp only [stt_eq]; rfl)
theorem ws_sAsg {m : M D} {g : D → Sl → Option Sl} : ws (sAsg m g) st QS = wp m st (vs QS fun x s => wo (g x s) fun s => QS .nx s) := by
  unfold ws wp sAsg
  cases m st with
  | none => rfl
  | some p =>
    obtain ⟨o, s⟩ := p
    cases o with
    | x c => rfl
    | v x =>
      simp only [vs_v]
      cases g x s with
      | none => rw [wo_none]; rfl
      | some z => rw [wo_some]; rfl
theorem ws_sIf {c : M Bool} {f g : MS} : ws (sIf c f g) st QS = wp c st (vs QS fun b s => wb b (ws f s QS) (ws g s QS)) := by
  unfold ws wp sIf
  cases c st with
  | none => rfl
  | some p =>
    obtain ⟨o, s⟩ := p
    cases o with
    | x c => rfl
    | v b => cases b <;> simp [wb, vs]
theorem ws_sRet {m : M R} : ws (sRet m) st QS = wp m st (vs QS fun r s => QS (.rt r) s) := by
  unfold ws wp sRet
  cases m st with
  | none => rfl
  | some p => obtain ⟨o, s⟩ := p; cases o <;> rfl
theorem ws_sDrop {m : M R} : ws (sDrop m) st QS = wp m st (vs QS fun _ s => QS .nx s) := by
  unfold ws wp sDrop
  cases m st with
  | none => rfl
  | some p => obtain ⟨o, s⟩ := p; cases o <;> rfl
theorem ws_sFor {it : M (List D)} {g : D → Sl → Option Sl} {body : MS} : ws (sFor it g body) st QS = wp it st (vs QS fun ds s => ws (forL g body ds) s QS) := by
  unfold ws wp sFor
  cases it st with
  | none => rfl
  | some p => obtain ⟨o, s⟩ := p; cases o <;> rfl
theorem ws_forL_nil {g : D → Sl → Option Sl} {body : MS} : ws (forL g body []) st QS = QS .nx st := rfl
theorem ws_forL_cons {g : D → Sl → Option Sl} {body : MS} {d : D} {ds : List D} : ws (forL g body (d :: ds)) st QS = wo (g d st) fun s => ws body s (lp QS fun s => ws (forL g body ds) s QS) := by
  unfold ws
  rw [forL.eq_2]
  cases g d st with
  | none => rw [wo_none]
  | some s1 =>
    rw [wo_some]
    simp only []
    cases body s1 with
    | none => rfl
    | some p => obtain ⟨o, s⟩ := p; cases o <;> rfl
theorem wp_sub {m : M α} {Q Q' : Oc α → Sl → Prop} (h : ∀ o s, Q o s → Q' o s) (k : wp m st Q) : wp m st Q' := by
  unfold wp at *
  split at k
  · exact h _ _ k
  · exact k.elim
theorem ws_sub {m : MS} {Q Q' : Fl → Sl → Prop} (h : ∀ o s, Q o s → Q' o s) (k : ws m st Q) : ws m st Q' := by
  unfold ws at *
  split at k
  · exact h _ _ k
  · exact k.elim
theorem ws_for {g : D → Sl → Option Sl} {body : MS} (I : List D → Sl → Prop) {ds : List D} (h0 : I ds st) (hs : ∀ d r s, I (d :: r) s → wo (g d s) fun s1 => ws body s1 (lp QS fun s2 => I r s2)) (h1 : ∀ s, I [] s → QS .nx s) : ws (forL g body ds) st QS := by
  induction ds generalizing st with
  | nil => exact h1 _ h0
  | cons d r ih =>
    rw [ws_forL_cons]
    obtain ⟨s1, e, h⟩ := hs d r st h0
    refine ⟨s1, e, ws_sub (fun o s z => ?_) h⟩
    cases o with
    | nx => exact ih z
    | ct => exact ih z
    | bk => exact z
    | rt v => exact z
    | x c => exact z
theorem ws_while0 {c : M Bool} {body : MS} {n : Nat} : ws (whileL c body (n + 1)) st QS = wp c st (vs QS fun b s => wb b (ws body s (lp QS fun s => ws (whileL c body n) s QS)) (QS .nx s)) := by
  unfold wp
  unfold ws
  rw [whileL.eq_2]
  cases c st with
  | none => rfl
  | some p =>
    obtain ⟨o, s⟩ := p
    cases o with
    | x c => rfl
    | v b =>
      cases b with
      | false => simp [wb, vs]
      | true =>
        simp only [vs_v, wb_t]
        cases body s with
        | none => rfl
        | some p => obtain ⟨o, s⟩ := p; cases o <;> rfl
theorem ws_while {c : M Bool} {body : MS} (I : Nat → Sl → Prop) {n k : Nat} (hk : k < n) (h0 : I k st) (hs : ∀ k s, I k s → wp c s (vs QS fun b s1 => wb b (ws body s1 (lp QS fun s2 => ∃ j, j < k ∧ I j s2)) (QS .nx s1))) : ws (whileL c body n) st QS := by
  induction n generalizing k st with
  | zero => omega
  | succ n ih =>
    rw [ws_while0]
    refine wp_sub (fun o s z => ?_) (hs k st h0)
    cases o with
    | x c => exact z
    | v b =>
      refine wb_of (fun hb => ?_) (fun hb => ?_)
      · subst hb
        refine ws_sub (fun o s z => ?_) z
        cases o with
        | nx => obtain ⟨j, hj, z⟩ := z; exact ih (by omega) z
        | ct => obtain ⟨j, hj, z⟩ := z; exact ih (by omega) z
        | bk => exact z
        | rt v => exact z
        | x c => exact z
      · subst hb
        have z : wb false _ (QS .nx s) := z
        rw [wb_f] at z
        exact z
-- lists that are changed
def gol (o : Option (Option R)) (k : List D → Prop) : Prop := match o with
  | some (some (.ol xs)) => k xs
  | _ => False
theorem gol_s {xs : List D} {k : List D → Prop} : gol (some (some (.ol xs))) k = k xs := rfl
theorem isL_ol {xs : List D} : isL (some (some (.ol xs))) = true := rfl
theorem isL_d {xs : List D} : isL (some (some (.d (.lst xs)))) = true := rfl
theorem ws_sApp' {i : Nat} : ws (sApp' i fa) st QS = wa (isL (gt st i) = true) (wp fa st (vs QS fun x s => gol (gt s i) fun xs => wa (xs.length < sizeLine) (QS .nx (stt s i (some (.ol (xs ++ [x]))))))) := by
  unfold ws wp sApp' sApp wa
  rw [gt_eq]
  by_cases hl : isL (gt st i) = true
  · simp only [hl, if_true, true_and]
    cases fa st with
    | none => rfl
    | some p =>
      obtain ⟨o, s⟩ := p
      cases o with
      | x c => rfl
      | v x =>
        simp only [vs_v]
        rw [gt_eq]
        cases gt s i with
        | none => rfl
        | some o =>
          cases o with
          | none => rfl
          | some r =>
            cases r <;> try rfl
            rename_i xs
            simp only [gol_s, stt_eq]
            by_cases h : xs.length < sizeLine
            · simp only [h, if_true, true_and]
            · simp only [h, if_false, false_and]
  · simp [hl]
theorem ws_sExtA {i : Nat} : ws (sExtA i fa) st QS = wa (isL (gt st i) = true) (wp fa st (vs QS fun x s => tq x fun ys => gol (gt s i) fun xs => wa (xs.length + ys.length ≤ sizeLine) (QS .nx (stt s i (some (.ol (xs ++ ys))))))) := by
  unfold ws wp sExtA wa
  rw [gt_eq]
  by_cases hl : isL (gt st i) = true
  · simp only [hl, if_true, true_and]
    cases fa st with
    | none => rfl
    | some p =>
      obtain ⟨o, s⟩ := p
      cases o with
      | x c => rfl
      | v x =>
        simp only [vs_v]
        rw [gt_eq]
        cases x <;> try rfl
        all_goals
          rename_i ys
          cases gt s i with
          | none => rfl
          | some o =>
            cases o with
            | none => rfl
            | some r =>
              cases r <;> try rfl
              rename_i xs
              simp only [tq_t, tq_l, gol_s, stt_eq]
              by_cases h : xs.length + ys.length ≤ sizeLine
              · simp only [h, if_true, true_and]
              · simp only [h, if_false, false_and]
  · simp [hl]
theorem ws_sSub {i : Nat} {mi : M D} : ws (sSub i mi fa) st QS = wp fa st (vs QS fun x s1 => wa (isL (gt s1 i) = true) (wp mi s1 (vs QS fun y s2 => ti y fun k => gol (gt s2 i) fun xs => wo (ixN xs.length k) fun j => QS .nx (stt s2 i (some (.ol (xs.set j x))))))) := by
  unfold ws wp sSub
  cases fa st with
  | none => rfl
  | some p =>
    obtain ⟨o, s⟩ := p
    cases o with
    | x c => rfl
    | v x =>
      simp only [vs_v, gt_eq, wa]
      cases mi s with
      | none => simp
      | some p =>
        obtain ⟨o, s2⟩ := p
        cases o with
        | x c => cases isL (gt s i) <;> simp [vs]
        | v y =>
          simp only [vs_v, gt_eq]
          cases y <;> try (simp [ti]; done)
          rename_i k
          simp only [ti_int]
          cases gt s2 i with
          | none => simp [gol]
          | some o =>
            cases o with
            | none => simp [gol]
            | some r =>
              cases r <;> try (simp [gol]; done)
              rename_i xs
              simp only [gol_s]
              cases ixN xs.length k with
              | none => simp [wo_none]
              | some j =>
                rw [wo_some]
                cases isL (gt s i) <;> simp [stt_eq]
-- targets
theorem gN_eq {i : Nat} {d : D} : gN i d st = some (stt st i (some (.d d))) := by unfold gN; rw [stt_eq]
theorem gT_eq {n : Nat} {g : List D → Sl → Option Sl} {ds : List D} : gT n g (.tup ds) st = if ds.length = n then g ds st else none := rfl
theorem gsN_eq : gsN [] st = some st := rfl
theorem gsC_eq {f : D → Sl → Option Sl} {g : List D → Sl → Option Sl} {d : D} {r : List D} : gsC f g (d :: r) st = (f d st).bind (g r) := rfl
theorem some_bind' {a : α} {k : α → Option β} : (some a).bind k = k a := rfl
end
end Fz
set_option Elab.async false
set_option linter.all false
set_option maxRecDepth 100000
set_option maxHeartbeats 2000000
namespace Fz
open PySem L2
def wc (c : Prop) (k : Unit → Prop) : Prop := wa c (k ())
theorem wc_t {k : Unit → Prop} : wc True k = k () := wa_t
def wd (b : Bool) (k : Bool → Prop) : Prop := k b
theorem wd_t {k : Bool → Prop} : wd true k = k true := rfl
theorem wd_f {k : Bool → Prop} : wd false k = k false := rfl
theorem wd_of {b : Bool} {k : Bool → Prop} (h1 : b = true → k true) (h2 : b = false → k false) : wd b k := by
  cases b with
  | true => exact h1 rfl
  | false => exact h2 rfl
def kU {α : Type} (k : α → Prop) (a : α) : Unit → Prop := fun _ => k a
theorem kU_a {α : Type} (k : α → Prop) (a : α) : kU k a () = k a := rfl
theorem wo_ifn {α : Type} {c : Prop} [Decidable c] {k : α → Prop} {a : α} : wo (if c then some a else none) k = wc c (kU k a) := wo_if
theorem wo_of {α : Type} {o : Option α} {a : α} {k : α → Prop} (h : o = some a) (g : k a) : wo o k := ⟨a, h, g⟩
section
variable {α β : Type} {st s : Sl} {Q : Oc D → Sl → Prop} {QR : Oc R → Sl → Prop} {QB : Oc Bool → Sl → Prop} {QL : Oc (List D) → Sl → Prop} {QA : Oc (List Arg) → Sl → Prop} {QO : Oc (Option Int) → Sl → Prop} {QS : Fl → Sl → Prop} {fa fb fc : M D} {fs : M (List D)} {r : M R}
def kr {α : Type} (Q : Oc α → Sl → Prop) (s : Sl) : α → Prop := fun z => Q (.v z) s
theorem kr_a {α : Type} (Q : Oc α → Sl → Prop) (s : Sl) (z : α) : kr Q s z = Q (.v z) s := rfl
def krl (Q : Oc R → Sl → Prop) (s : Sl) : List D → Prop := fun z => Q (.v (.ol z)) s
theorem krl_a (Q : Oc R → Sl → Prop) (s : Sl) (z : List D) : krl Q s z = Q (.v (.ol z)) s := rfl
def ku {α : Type} (Q : Oc α → Sl → Prop) (z : α) (s : Sl) : Unit → Prop := fun _ => Q (.v z) s
theorem ku_a {α : Type} (Q : Oc α → Sl → Prop) (z : α) (s : Sl) : ku Q z s () = Q (.v z) s := rfl
theorem n_ret : ∀ {α : Type} {a : α} {st : Sl} {Q : Oc α → Sl → Prop}, wp (ret a) st Q = Q (.v a) st := rfl
theorem n_opt : ∀ {α : Type} {o : Option α} {st : Sl} {Q : Oc α → Sl → Prop}, wp (opt o) st Q = wo o (kr Q st) := wp_opt
def kUn (g : D → Option D) (Q : Oc D → Sl → Prop) : Oc (D) → Sl → Prop := vx Q fun x s => wo (g x) (kr Q s)
theorem kUn_v (g : D → Option D) (Q : Oc D → Sl → Prop) (x : D) (s : Sl) : kUn g Q (.v x) s = wo (g x) (kr Q s) := rfl
theorem kUn_x (g : D → Option D) (Q : Oc D → Sl → Prop) (c : Nat) (s : Sl) : kUn g Q (.x c) s = Q (.x c) s := rfl
theorem n_eUn : ∀ {g : D → Option D}, wp (eUn g fa) st Q = wp fa st (kUn g Q) := wp_eUn
def kBin2 (g : D → D → Option D) (x : D) (Q : Oc D → Sl → Prop) : Oc (D) → Sl → Prop := vx Q fun y s => wo (g x y) (kr Q s)
theorem kBin2_v (g : D → D → Option D) (x : D) (Q : Oc D → Sl → Prop) (y : D) (s : Sl) : kBin2 g x Q (.v y) s = wo (g x y) (kr Q s) := rfl
theorem kBin2_x (g : D → D → Option D) (x : D) (Q : Oc D → Sl → Prop) (c : Nat) (s : Sl) : kBin2 g x Q (.x c) s = Q (.x c) s := rfl
def kBin1 (g : D → D → Option D) (fb : M D) (Q : Oc D → Sl → Prop) : Oc (D) → Sl → Prop := vx Q fun x s => wp fb s (kBin2 g x Q)
theorem kBin1_v (g : D → D → Option D) (fb : M D) (Q : Oc D → Sl → Prop) (x : D) (s : Sl) : kBin1 g fb Q (.v x) s = wp fb s (kBin2 g x Q) := rfl
theorem kBin1_x (g : D → D → Option D) (fb : M D) (Q : Oc D → Sl → Prop) (c : Nat) (s : Sl) : kBin1 g fb Q (.x c) s = Q (.x c) s := rfl
theorem n_eBin : ∀ {g : D → D → Option D}, wp (eBin g fa fb) st Q = wp fa st (kBin1 g fb Q) := wp_eBin
def kCons2 (x : D) (Q : Oc (List D) → Sl → Prop) : Oc (List D) → Sl → Prop := vx Q fun xs s => Q (.v (x :: xs)) s
theorem kCons2_v (x : D) (Q : Oc (List D) → Sl → Prop) (xs : List D) (s : Sl) : kCons2 x Q (.v xs) s = Q (.v (x :: xs)) s := rfl
theorem kCons2_x (x : D) (Q : Oc (List D) → Sl → Prop) (c : Nat) (s : Sl) : kCons2 x Q (.x c) s = Q (.x c) s := rfl
def kCons1 (fr : M (List D)) (Q : Oc (List D) → Sl → Prop) : Oc (D) → Sl → Prop := vx Q fun x s => wp fr s (kCons2 x Q)
theorem kCons1_v (fr : M (List D)) (Q : Oc (List D) → Sl → Prop) (x : D) (s : Sl) : kCons1 fr Q (.v x) s = wp fr s (kCons2 x Q) := rfl
theorem kCons1_x (fr : M (List D)) (Q : Oc (List D) → Sl → Prop) (c : Nat) (s : Sl) : kCons1 fr Q (.x c) s = Q (.x c) s := rfl
theorem n_eCons : ∀ {fr : M (List D)}, wp (eCons fa fr) st QL = wp fa st (kCons1 fr QL) := wp_eCons
theorem n_eNil : wp eNil st QL = QL (.v []) st := rfl
def kOp (g : List D → Option D) (Q : Oc D → Sl → Prop) : Oc (List D) → Sl → Prop := vx Q fun x s => wo (g x) (kr Q s)
theorem kOp_v (g : List D → Option D) (Q : Oc D → Sl → Prop) (x : List D) (s : Sl) : kOp g Q (.v x) s = wo (g x) (kr Q s) := rfl
theorem kOp_x (g : List D → Option D) (Q : Oc D → Sl → Prop) (c : Nat) (s : Sl) : kOp g Q (.x c) s = Q (.x c) s := rfl
theorem n_eOp : ∀ {g : List D → Option D}, wp (eOp g fs) st Q = wp fs st (kOp g Q) := wp_eOp
def kTup  (Q : Oc D → Sl → Prop) : Oc (List D) → Sl → Prop := vx Q fun x s => wc (x.length ≤ sizeLine) (ku Q (.tup x) s)
theorem kTup_v  (Q : Oc D → Sl → Prop) (x : List D) (s : Sl) : kTup  Q (.v x) s = wc (x.length ≤ sizeLine) (ku Q (.tup x) s) := rfl
theorem kTup_x  (Q : Oc D → Sl → Prop) (c : Nat) (s : Sl) : kTup  Q (.x c) s = Q (.x c) s := rfl
theorem n_eTup : wp (eTup fs) st Q = wp fs st (kTup Q) := wp_eTup
def kD  (Q : Oc R → Sl → Prop) : Oc (D) → Sl → Prop := vx Q fun x s => Q (.v (.d x)) s
theorem kD_v  (Q : Oc R → Sl → Prop) (x : D) (s : Sl) : kD  Q (.v x) s = Q (.v (.d x)) s := rfl
theorem kD_x  (Q : Oc R → Sl → Prop) (c : Nat) (s : Sl) : kD  Q (.x c) s = Q (.x c) s := rfl
theorem n_rD : wp (rD fa) st QR = wp fa st (kD QR) := wp_rD
def kROp (g : List D → Option (List D)) (Q : Oc R → Sl → Prop) : Oc (List D) → Sl → Prop := vx Q fun x s => wo (g x) (krl Q s)
theorem kROp_v (g : List D → Option (List D)) (Q : Oc R → Sl → Prop) (x : List D) (s : Sl) : kROp g Q (.v x) s = wo (g x) (krl Q s) := rfl
theorem kROp_x (g : List D → Option (List D)) (Q : Oc R → Sl → Prop) (c : Nat) (s : Sl) : kROp g Q (.x c) s = Q (.x c) s := rfl
theorem n_rOp : ∀ {g : List D → Option (List D)}, wp (rOp g fs) st QR = wp fs st (kROp g QR) := wp_rOp
def kLst  (Q : Oc R → Sl → Prop) : Oc (List D) → Sl → Prop := vx Q fun x s => wc (x.length ≤ sizeLine) (ku Q (.ol x) s)
theorem kLst_v  (Q : Oc R → Sl → Prop) (x : List D) (s : Sl) : kLst  Q (.v x) s = wc (x.length ≤ sizeLine) (ku Q (.ol x) s) := rfl
theorem kLst_x  (Q : Oc R → Sl → Prop) (c : Nat) (s : Sl) : kLst  Q (.x c) s = Q (.x c) s := rfl
theorem n_rLst : wp (rLst fs) st QR = wp fs st (kLst QR) := wp_rLst
def kFz (n : Nat → Nat) (Q : Oc D → Sl → Prop) : Oc (R) → Sl → Prop := vx Q fun x s => wc (wholeB n x = true) (ku Q (vw x) s)
theorem kFz_v (n : Nat → Nat) (Q : Oc D → Sl → Prop) (x : R) (s : Sl) : kFz n Q (.v x) s = wc (wholeB n x = true) (ku Q (vw x) s) := rfl
theorem kFz_x (n : Nat → Nat) (Q : Oc D → Sl → Prop) (c : Nat) (s : Sl) : kFz n Q (.x c) s = Q (.x c) s := rfl
theorem n_eFz : ∀ {n : Nat → Nat}, wp (eFz n r) st Q = wp r st (kFz n Q) := wp_eFz
theorem n_eVar : ∀ {i : Nat}, wp (eVar i) st Q = vr (gt st i) i st Q := wp_eVar
def kFull (st : Sl) (Q : Oc D → Sl → Prop) : Oc D → Sl → Prop := fx Q st fun x => wa (imm x = true) (Q (.v x) st)
theorem kFull_v (st : Sl) (Q : Oc D → Sl → Prop) (x : D) (s : Sl) : kFull st Q (.v x) s = wc (imm x = true) (ku Q x st) := rfl
theorem kFull_x (st : Sl) (Q : Oc D → Sl → Prop) (c : Nat) (s : Sl) : kFull st Q (.x c) s = Q (.x c) st := rfl
theorem n_eFull : ∀ {n : Nat → Nat}, wp (eFull n fa) st Q = wpe fa (vwN n st) (kFull st Q) := wp_eFull
def kTFull (st : Sl) (Q : Oc Bool → Sl → Prop) : Oc Bool → Sl → Prop := fx Q st fun x => Q (.v x) st
theorem kTFull_v (st : Sl) (Q : Oc Bool → Sl → Prop) (x : Bool) (s : Sl) : kTFull st Q (.v x) s = Q (.v x) st := rfl
theorem kTFull_x (st : Sl) (Q : Oc Bool → Sl → Prop) (c : Nat) (s : Sl) : kTFull st Q (.x c) s = Q (.x c) st := rfl
theorem n_tFull : ∀ {n : Nat → Nat} {f : M Bool}, wp (tFull n f) st QB = wpe f (vwN n st) (kTFull st QB) := wp_tFull
theorem n_rfx_ol {xs : List D} : rfx QR st (.v (.ol xs)) s = wc (imms xs = true) (ku QR (.ol xs) st) := rfl
theorem n_rfx_d {x : D} : rfx QR st (.v (.d x)) s = wc (imm x = true) (ku QR (.d x) st) := rfl
theorem n_rFull : ∀ {n : Nat → Nat}, wp (rFull n r) st QR = wpe r (vwN n st) (rfx QR st) := wp_rFull
def kTst  (Q : Oc Bool → Sl → Prop) : Oc (D) → Sl → Prop := vx Q fun x s => tb x (kr Q s)
theorem kTst_v  (Q : Oc Bool → Sl → Prop) (x : D) (s : Sl) : kTst  Q (.v x) s = tb x (kr Q s) := rfl
theorem kTst_x  (Q : Oc Bool → Sl → Prop) (c : Nat) (s : Sl) : kTst  Q (.x c) s = Q (.x c) s := rfl
theorem n_eTst : wp (eTst fa) st QB = wp fa st (kTst QB) := wp_eTst
def krn (Q : Oc D → Sl → Prop) (s : Sl) : Bool → Prop := fun b => Q (.v (.bl !b)) s
theorem krn_a (Q : Oc D → Sl → Prop) (s : Sl) (b : Bool) : krn Q s b = Q (.v (.bl !b)) s := rfl
def kNot  (Q : Oc D → Sl → Prop) : Oc (D) → Sl → Prop := vx Q fun x s => tb x (krn Q s)
theorem kNot_v  (Q : Oc D → Sl → Prop) (x : D) (s : Sl) : kNot  Q (.v x) s = tb x (krn Q s) := rfl
theorem kNot_x  (Q : Oc D → Sl → Prop) (c : Nat) (s : Sl) : kNot  Q (.x c) s = Q (.x c) s := rfl
theorem n_eNot : wp (eNot fa) st Q = wp fa st (kNot Q) := wp_eNot
def wAnd (g : M Bool) (Q : Oc Bool → Sl → Prop) (s : Sl) : Bool → Prop := fun b => wb b (wp g s Q) (Q (.v false) s)
theorem wAnd_t (g : M Bool) (Q : Oc Bool → Sl → Prop) (s : Sl) : wAnd g Q s true = wp g s Q := rfl
theorem wAnd_f (g : M Bool) (Q : Oc Bool → Sl → Prop) (s : Sl) : wAnd g Q s false = Q (.v false) s := wb_f
def kAnd (g : M Bool) (Q : Oc Bool → Sl → Prop) : Oc (Bool) → Sl → Prop := vx Q fun b s => wd b (wAnd g Q s)
theorem kAnd_v (g : M Bool) (Q : Oc Bool → Sl → Prop) (b : Bool) (s : Sl) : kAnd g Q (.v b) s = wd b (wAnd g Q s) := rfl
theorem kAnd_x (g : M Bool) (Q : Oc Bool → Sl → Prop) (c : Nat) (s : Sl) : kAnd g Q (.x c) s = Q (.x c) s := rfl
theorem n_cAnd : ∀ {f g : M Bool}, wp (cAnd f g) st QB = wp f st (kAnd g QB) := wp_cAnd
def wOr (g : M Bool) (Q : Oc Bool → Sl → Prop) (s : Sl) : Bool → Prop := fun b => wb b (Q (.v true) s) (wp g s Q)
theorem wOr_t (g : M Bool) (Q : Oc Bool → Sl → Prop) (s : Sl) : wOr g Q s true = Q (.v true) s := rfl
theorem wOr_f (g : M Bool) (Q : Oc Bool → Sl → Prop) (s : Sl) : wOr g Q s false = wp g s Q := wb_f
def kOr (g : M Bool) (Q : Oc Bool → Sl → Prop) : Oc (Bool) → Sl → Prop := vx Q fun b s => wd b (wOr g Q s)
theorem kOr_v (g : M Bool) (Q : Oc Bool → Sl → Prop) (b : Bool) (s : Sl) : kOr g Q (.v b) s = wd b (wOr g Q s) := rfl
theorem kOr_x (g : M Bool) (Q : Oc Bool → Sl → Prop) (c : Nat) (s : Sl) : kOr g Q (.x c) s = Q (.x c) s := rfl
theorem n_cOr : ∀ {f g : M Bool}, wp (cOr f g) st QB = wp f st (kOr g QB) := wp_cOr
def kCNot  (Q : Oc Bool → Sl → Prop) : Oc (Bool) → Sl → Prop := vx Q fun b s => Q (.v !b) s
theorem kCNot_v  (Q : Oc Bool → Sl → Prop) (b : Bool) (s : Sl) : kCNot  Q (.v b) s = Q (.v !b) s := rfl
theorem kCNot_x  (Q : Oc Bool → Sl → Prop) (c : Nat) (s : Sl) : kCNot  Q (.x c) s = Q (.x c) s := rfl
theorem n_cNot : ∀ {f : M Bool}, wp (cNot f) st QB = wp f st (kCNot QB) := wp_cNot
theorem n_cYes : wp cYes st QB = QB (.v true) st := rfl
def wEAnd (fb : M D) (Q : Oc D → Sl → Prop) (s : Sl) : Bool → Prop := fun b => wb b (wp fb s Q) (Q (.v (.bl false)) s)
theorem wEAnd_t (fb : M D) (Q : Oc D → Sl → Prop) (s : Sl) : wEAnd fb Q s true = wp fb s Q := rfl
theorem wEAnd_f (fb : M D) (Q : Oc D → Sl → Prop) (s : Sl) : wEAnd fb Q s false = Q (.v (.bl false)) s := wb_f
def kEAnd (fb : M D) (Q : Oc D → Sl → Prop) : Oc (D) → Sl → Prop := vx Q fun x s => tb x (wEAnd fb Q s)
theorem kEAnd_v (fb : M D) (Q : Oc D → Sl → Prop) (x : D) (s : Sl) : kEAnd fb Q (.v x) s = tb x (wEAnd fb Q s) := rfl
theorem kEAnd_x (fb : M D) (Q : Oc D → Sl → Prop) (c : Nat) (s : Sl) : kEAnd fb Q (.x c) s = Q (.x c) s := rfl
theorem n_eAnd : wp (eAnd fa fb) st Q = wp fa st (kEAnd fb Q) := wp_eAnd
def wEOr (fb : M D) (Q : Oc D → Sl → Prop) (s : Sl) : Bool → Prop := fun b => wb b (Q (.v (.bl true)) s) (wp fb s Q)
theorem wEOr_t (fb : M D) (Q : Oc D → Sl → Prop) (s : Sl) : wEOr fb Q s true = Q (.v (.bl true)) s := rfl
theorem wEOr_f (fb : M D) (Q : Oc D → Sl → Prop) (s : Sl) : wEOr fb Q s false = wp fb s Q := wb_f
def kEOr (fb : M D) (Q : Oc D → Sl → Prop) : Oc (D) → Sl → Prop := vx Q fun x s => tb x (wEOr fb Q s)
theorem kEOr_v (fb : M D) (Q : Oc D → Sl → Prop) (x : D) (s : Sl) : kEOr fb Q (.v x) s = tb x (wEOr fb Q s) := rfl
theorem kEOr_x (fb : M D) (Q : Oc D → Sl → Prop) (c : Nat) (s : Sl) : kEOr fb Q (.x c) s = Q (.x c) s := rfl
theorem n_eOr : wp (eOr fa fb) st Q = wp fa st (kEOr fb Q) := wp_eOr
theorem tb_n {b : Bool} {k : Bool → Prop} : tb (.bl b) k = wd b k := rfl
def wChain (g' : D → D → Option D) (fc : M D) (y : D) (Q : Oc D → Sl → Prop) (s : Sl) : Bool → Prop := fun b => wb b (wp fc s (kBin2 g' y Q)) (Q (.v (.bl false)) s)
theorem wChain_t (g' : D → D → Option D) (fc : M D) (y : D) (Q : Oc D → Sl → Prop) (s : Sl) : wChain g' fc y Q s true = wp fc s (kBin2 g' y Q) := rfl
theorem wChain_f (g' : D → D → Option D) (fc : M D) (y : D) (Q : Oc D → Sl → Prop) (s : Sl) : wChain g' fc y Q s false = Q (.v (.bl false)) s := wb_f
def kCh3 (g' : D → D → Option D) (fc : M D) (y : D) (Q : Oc D → Sl → Prop) (s : Sl) : D → Prop := fun z => tb z (wChain g' fc y Q s)
theorem kCh3_a (g' : D → D → Option D) (fc : M D) (y : D) (Q : Oc D → Sl → Prop) (s : Sl) (z : D) : kCh3 g' fc y Q s z = tb z (wChain g' fc y Q s) := rfl
def kCh2 (g g' : D → D → Option D) (fc : M D) (x : D) (Q : Oc D → Sl → Prop) : Oc (D) → Sl → Prop := vx Q fun y s => wo (g x y) (kCh3 g' fc y Q s)
theorem kCh2_v (g g' : D → D → Option D) (fc : M D) (x : D) (Q : Oc D → Sl → Prop) (y : D) (s : Sl) : kCh2 g g' fc x Q (.v y) s = wo (g x y) (kCh3 g' fc y Q s) := rfl
theorem kCh2_x (g g' : D → D → Option D) (fc : M D) (x : D) (Q : Oc D → Sl → Prop) (c : Nat) (s : Sl) : kCh2 g g' fc x Q (.x c) s = Q (.x c) s := rfl
def kCh1 (g g' : D → D → Option D) (fb fc : M D) (Q : Oc D → Sl → Prop) : Oc (D) → Sl → Prop := vx Q fun x s => wp fb s (kCh2 g g' fc x Q)
theorem kCh1_v (g g' : D → D → Option D) (fb fc : M D) (Q : Oc D → Sl → Prop) (x : D) (s : Sl) : kCh1 g g' fb fc Q (.v x) s = wp fb s (kCh2 g g' fc x Q) := rfl
theorem kCh1_x (g g' : D → D → Option D) (fb fc : M D) (Q : Oc D → Sl → Prop) (c : Nat) (s : Sl) : kCh1 g g' fb fc Q (.x c) s = Q (.x c) s := rfl
theorem n_eChain : ∀ {g g' : D → D → Option D}, wp (eChain g g' fa fb fc) st Q = wp fa st (kCh1 g g' fb fc Q) := wp_eChain
def wEIf (p q : M D) (Q : Oc D → Sl → Prop) (s : Sl) : Bool → Prop := fun b => wb b (wp p s Q) (wp q s Q)
theorem wEIf_t (p q : M D) (Q : Oc D → Sl → Prop) (s : Sl) : wEIf p q Q s true = wp p s Q := rfl
theorem wEIf_f (p q : M D) (Q : Oc D → Sl → Prop) (s : Sl) : wEIf p q Q s false = wp q s Q := wb_f
def kEIf (p q : M D) (Q : Oc D → Sl → Prop) : Oc (Bool) → Sl → Prop := vx Q fun b s => wd b (wEIf p q Q s)
theorem kEIf_v (p q : M D) (Q : Oc D → Sl → Prop) (b : Bool) (s : Sl) : kEIf p q Q (.v b) s = wd b (wEIf p q Q s) := rfl
theorem kEIf_x (p q : M D) (Q : Oc D → Sl → Prop) (c : Nat) (s : Sl) : kEIf p q Q (.x c) s = Q (.x c) s := rfl
theorem n_eIf : ∀ {c : M Bool} {p q : M D}, wp (eIf c p q) st Q = wp c st (kEIf p q Q) := wp_eIf
def wRIf (p q : M R) (Q : Oc R → Sl → Prop) (s : Sl) : Bool → Prop := fun b => wb b (wp p s Q) (wp q s Q)
theorem wRIf_t (p q : M R) (Q : Oc R → Sl → Prop) (s : Sl) : wRIf p q Q s true = wp p s Q := rfl
theorem wRIf_f (p q : M R) (Q : Oc R → Sl → Prop) (s : Sl) : wRIf p q Q s false = wp q s Q := wb_f
def kRIf (p q : M R) (Q : Oc R → Sl → Prop) : Oc (Bool) → Sl → Prop := vx Q fun b s => wd b (wRIf p q Q s)
theorem kRIf_v (p q : M R) (Q : Oc R → Sl → Prop) (b : Bool) (s : Sl) : kRIf p q Q (.v b) s = wd b (wRIf p q Q s) := rfl
theorem kRIf_x (p q : M R) (Q : Oc R → Sl → Prop) (c : Nat) (s : Sl) : kRIf p q Q (.x c) s = Q (.x c) s := rfl
theorem n_rIf : ∀ {c : M Bool} {p q : M R}, wp (rIf c p q) st QR = wp c st (kRIf p q QR) := wp_rIf
theorem n_oNone : wp oNone st QO = QO (.v none) st := rfl
def kso (Q : Oc (Option Int) → Sl → Prop) (s : Sl) : Int → Prop := fun i => Q (.v (some i)) s
theorem kso_a (Q : Oc (Option Int) → Sl → Prop) (s : Sl) (i : Int) : kso Q s i = Q (.v (some i)) s := rfl
def kSome  (Q : Oc (Option Int) → Sl → Prop) : Oc (D) → Sl → Prop := vx Q fun x s => ti x (kso Q s)
theorem kSome_v  (Q : Oc (Option Int) → Sl → Prop) (x : D) (s : Sl) : kSome  Q (.v x) s = ti x (kso Q s) := rfl
theorem kSome_x  (Q : Oc (Option Int) → Sl → Prop) (c : Nat) (s : Sl) : kSome  Q (.x c) s = Q (.x c) s := rfl
theorem n_oSome : wp (oSome fa) st QO = wp fa st (kSome QO) := wp_oSome
def kSl3 (x : D) (l : Option Int) (Q : Oc D → Sl → Prop) : Oc (Option Int) → Sl → Prop := vx Q fun h s => wo (dSl x l h) (kr Q s)
theorem kSl3_v (x : D) (l : Option Int) (Q : Oc D → Sl → Prop) (h : Option Int) (s : Sl) : kSl3 x l Q (.v h) s = wo (dSl x l h) (kr Q s) := rfl
theorem kSl3_x (x : D) (l : Option Int) (Q : Oc D → Sl → Prop) (c : Nat) (s : Sl) : kSl3 x l Q (.x c) s = Q (.x c) s := rfl
def kSl2 (x : D) (hi : M (Option Int)) (Q : Oc D → Sl → Prop) : Oc (Option Int) → Sl → Prop := vx Q fun l s => wp hi s (kSl3 x l Q)
theorem kSl2_v (x : D) (hi : M (Option Int)) (Q : Oc D → Sl → Prop) (l : Option Int) (s : Sl) : kSl2 x hi Q (.v l) s = wp hi s (kSl3 x l Q) := rfl
theorem kSl2_x (x : D) (hi : M (Option Int)) (Q : Oc D → Sl → Prop) (c : Nat) (s : Sl) : kSl2 x hi Q (.x c) s = Q (.x c) s := rfl
def kSl1 (lo hi : M (Option Int)) (Q : Oc D → Sl → Prop) : Oc (D) → Sl → Prop := vx Q fun x s => wp lo s (kSl2 x hi Q)
theorem kSl1_v (lo hi : M (Option Int)) (Q : Oc D → Sl → Prop) (x : D) (s : Sl) : kSl1 lo hi Q (.v x) s = wp lo s (kSl2 x hi Q) := rfl
theorem kSl1_x (lo hi : M (Option Int)) (Q : Oc D → Sl → Prop) (c : Nat) (s : Sl) : kSl1 lo hi Q (.x c) s = Q (.x c) s := rfl
theorem n_eSl : ∀ {lo hi : M (Option Int)}, wp (eSl fa lo hi) st Q = wp fa st (kSl1 lo hi Q) := wp_eSl
def kcut (l h : Option Int) (Q : Oc R → Sl → Prop) (s : Sl) : List D → Prop := fun xs => Q (.v (.ol (cutD xs l h))) s
theorem kcut_a (l h : Option Int) (Q : Oc R → Sl → Prop) (s : Sl) (xs : List D) : kcut l h Q s xs = Q (.v (.ol (cutD xs l h))) s := rfl
def kRSl3 (x : D) (l : Option Int) (Q : Oc R → Sl → Prop) : Oc (Option Int) → Sl → Prop := vx Q fun h s => tl x (kcut l h Q s)
theorem kRSl3_v (x : D) (l : Option Int) (Q : Oc R → Sl → Prop) (h : Option Int) (s : Sl) : kRSl3 x l Q (.v h) s = tl x (kcut l h Q s) := rfl
theorem kRSl3_x (x : D) (l : Option Int) (Q : Oc R → Sl → Prop) (c : Nat) (s : Sl) : kRSl3 x l Q (.x c) s = Q (.x c) s := rfl
def kRSl2 (x : D) (hi : M (Option Int)) (Q : Oc R → Sl → Prop) : Oc (Option Int) → Sl → Prop := vx Q fun l s => wp hi s (kRSl3 x l Q)
theorem kRSl2_v (x : D) (hi : M (Option Int)) (Q : Oc R → Sl → Prop) (l : Option Int) (s : Sl) : kRSl2 x hi Q (.v l) s = wp hi s (kRSl3 x l Q) := rfl
theorem kRSl2_x (x : D) (hi : M (Option Int)) (Q : Oc R → Sl → Prop) (c : Nat) (s : Sl) : kRSl2 x hi Q (.x c) s = Q (.x c) s := rfl
def kRSl1 (lo hi : M (Option Int)) (Q : Oc R → Sl → Prop) : Oc (D) → Sl → Prop := vx Q fun x s => wp lo s (kRSl2 x hi Q)
theorem kRSl1_v (lo hi : M (Option Int)) (Q : Oc R → Sl → Prop) (x : D) (s : Sl) : kRSl1 lo hi Q (.v x) s = wp lo s (kRSl2 x hi Q) := rfl
theorem kRSl1_x (lo hi : M (Option Int)) (Q : Oc R → Sl → Prop) (c : Nat) (s : Sl) : kRSl1 lo hi Q (.x c) s = Q (.x c) s := rfl
theorem n_rSlL' : ∀ {lo hi : M (Option Int)}, wp (rSlL' fa lo hi) st QR = wp fa st (kRSl1 lo hi QR) := wp_rSlL'
def kMt2 (g : D → List D → Option D) (x : D) (Q : Oc D → Sl → Prop) : Oc (List D) → Sl → Prop := vx Q fun xs s => wo (g x xs) (kr Q s)
theorem kMt2_v (g : D → List D → Option D) (x : D) (Q : Oc D → Sl → Prop) (xs : List D) (s : Sl) : kMt2 g x Q (.v xs) s = wo (g x xs) (kr Q s) := rfl
theorem kMt2_x (g : D → List D → Option D) (x : D) (Q : Oc D → Sl → Prop) (c : Nat) (s : Sl) : kMt2 g x Q (.x c) s = Q (.x c) s := rfl
def kMtu (g : D → List D → Option D) (fs : M (List D)) (x : D) (Q : Oc D → Sl → Prop) (s : Sl) : Unit → Prop := fun _ => wp fs s (kMt2 g x Q)
theorem kMtu_a (g : D → List D → Option D) (fs : M (List D)) (x : D) (Q : Oc D → Sl → Prop) (s : Sl) : kMtu g fs x Q s () = wp fs s (kMt2 g x Q) := rfl
def kMt1 (ty : String) (g : D → List D → Option D) (fs : M (List D)) (Q : Oc D → Sl → Prop) : Oc (D) → Sl → Prop := vx Q fun x s => wc (tyOk ty x = true) (kMtu g fs x Q s)
theorem kMt1_v (ty : String) (g : D → List D → Option D) (fs : M (List D)) (Q : Oc D → Sl → Prop) (x : D) (s : Sl) : kMt1 ty g fs Q (.v x) s = wc (tyOk ty x = true) (kMtu g fs x Q s) := rfl
theorem kMt1_x (ty : String) (g : D → List D → Option D) (fs : M (List D)) (Q : Oc D → Sl → Prop) (c : Nat) (s : Sl) : kMt1 ty g fs Q (.x c) s = Q (.x c) s := rfl
theorem n_eMt : ∀ {ty : String} {g : D → List D → Option D}, wp (eMt ty g fa fs) st Q = wp fa st (kMt1 ty g fs Q) := wp_eMt
def kRMt2 (g : D → List D → Option (List D)) (x : D) (Q : Oc R → Sl → Prop) : Oc (List D) → Sl → Prop := vx Q fun xs s => wo (g x xs) (krl Q s)
theorem kRMt2_v (g : D → List D → Option (List D)) (x : D) (Q : Oc R → Sl → Prop) (xs : List D) (s : Sl) : kRMt2 g x Q (.v xs) s = wo (g x xs) (krl Q s) := rfl
theorem kRMt2_x (g : D → List D → Option (List D)) (x : D) (Q : Oc R → Sl → Prop) (c : Nat) (s : Sl) : kRMt2 g x Q (.x c) s = Q (.x c) s := rfl
def kRMtu (g : D → List D → Option (List D)) (fs : M (List D)) (x : D) (Q : Oc R → Sl → Prop) (s : Sl) : Unit → Prop := fun _ => wp fs s (kRMt2 g x Q)
theorem kRMtu_a (g : D → List D → Option (List D)) (fs : M (List D)) (x : D) (Q : Oc R → Sl → Prop) (s : Sl) : kRMtu g fs x Q s () = wp fs s (kRMt2 g x Q) := rfl
def kRMt1 (ty : String) (g : D → List D → Option (List D)) (fs : M (List D)) (Q : Oc R → Sl → Prop) : Oc (D) → Sl → Prop := vx Q fun x s => wc (tyOk ty x = true) (kRMtu g fs x Q s)
theorem kRMt1_v (ty : String) (g : D → List D → Option (List D)) (fs : M (List D)) (Q : Oc R → Sl → Prop) (x : D) (s : Sl) : kRMt1 ty g fs Q (.v x) s = wc (tyOk ty x = true) (kRMtu g fs x Q s) := rfl
theorem kRMt1_x (ty : String) (g : D → List D → Option (List D)) (fs : M (List D)) (Q : Oc R → Sl → Prop) (c : Nat) (s : Sl) : kRMt1 ty g fs Q (.x c) s = Q (.x c) s := rfl
theorem n_rMt : ∀ {ty : String} {g : D → List D → Option (List D)}, wp (rMt ty g fa fs) st QR = wp fa st (kRMt1 ty g fs QR) := wp_rMt
def kRBin2 (g : D → D → Option (List D)) (x : D) (Q : Oc R → Sl → Prop) : Oc (D) → Sl → Prop := vx Q fun y s => wo (g x y) (krl Q s)
theorem kRBin2_v (g : D → D → Option (List D)) (x : D) (Q : Oc R → Sl → Prop) (y : D) (s : Sl) : kRBin2 g x Q (.v y) s = wo (g x y) (krl Q s) := rfl
theorem kRBin2_x (g : D → D → Option (List D)) (x : D) (Q : Oc R → Sl → Prop) (c : Nat) (s : Sl) : kRBin2 g x Q (.x c) s = Q (.x c) s := rfl
def kRBin1 (g : D → D → Option (List D)) (fb : M D) (Q : Oc R → Sl → Prop) : Oc (D) → Sl → Prop := vx Q fun x s => wp fb s (kRBin2 g x Q)
theorem kRBin1_v (g : D → D → Option (List D)) (fb : M D) (Q : Oc R → Sl → Prop) (x : D) (s : Sl) : kRBin1 g fb Q (.v x) s = wp fb s (kRBin2 g x Q) := rfl
theorem kRBin1_x (g : D → D → Option (List D)) (fb : M D) (Q : Oc R → Sl → Prop) (c : Nat) (s : Sl) : kRBin1 g fb Q (.x c) s = Q (.x c) s := rfl
theorem n_rBin : ∀ {g : D → D → Option (List D)}, wp (rBin g fa fb) st QR = wp fa st (kRBin1 g fb QR) := wp_rBin
theorem n_rMv : ∀ {i : Nat}, wp (rMv i) st QR = mv (gt st i) i st QR := wp_rMv
def kILst  (Q : Oc (List D) → Sl → Prop) : Oc (D) → Sl → Prop := vx Q fun x s => tl x (kr Q s)
theorem kILst_v  (Q : Oc (List D) → Sl → Prop) (x : D) (s : Sl) : kILst  Q (.v x) s = tl x (kr Q s) := rfl
theorem kILst_x  (Q : Oc (List D) → Sl → Prop) (c : Nat) (s : Sl) : kILst  Q (.x c) s = Q (.x c) s := rfl
theorem n_iLst : wp (iLst fa) st QL = wp fa st (kILst QL) := wp_iLst
def kITup  (Q : Oc (List D) → Sl → Prop) : Oc (D) → Sl → Prop := vx Q fun x s => tt x (kr Q s)
theorem kITup_v  (Q : Oc (List D) → Sl → Prop) (x : D) (s : Sl) : kITup  Q (.v x) s = tt x (kr Q s) := rfl
theorem kITup_x  (Q : Oc (List D) → Sl → Prop) (c : Nat) (s : Sl) : kITup  Q (.x c) s = Q (.x c) s := rfl
theorem n_iTupl : wp (iTupl fa) st QL = wp fa st (kITup QL) := wp_iTupl
def kISeq  (Q : Oc (List D) → Sl → Prop) : Oc (D) → Sl → Prop := vx Q fun x s => tq x (kr Q s)
theorem kISeq_v  (Q : Oc (List D) → Sl → Prop) (x : D) (s : Sl) : kISeq  Q (.v x) s = tq x (kr Q s) := rfl
theorem kISeq_x  (Q : Oc (List D) → Sl → Prop) (c : Nat) (s : Sl) : kISeq  Q (.x c) s = Q (.x c) s := rfl
theorem n_iSeq : wp (iSeq fa) st QL = wp fa st (kISeq QL) := wp_iSeq
def ktx (Q : Oc (List D) → Sl → Prop) (s : Sl) : Str → Prop := fun z => Q (.v (sgnD z)) s
theorem ktx_a (Q : Oc (List D) → Sl → Prop) (s : Sl) (z : Str) : ktx Q s z = Q (.v (sgnD z)) s := rfl
def kIText  (Q : Oc (List D) → Sl → Prop) : Oc (D) → Sl → Prop := vx Q fun x s => tx x (ktx Q s)
theorem kIText_v  (Q : Oc (List D) → Sl → Prop) (x : D) (s : Sl) : kIText  Q (.v x) s = tx x (ktx Q s) := rfl
theorem kIText_x  (Q : Oc (List D) → Sl → Prop) (c : Nat) (s : Sl) : kIText  Q (.x c) s = Q (.x c) s := rfl
theorem n_iText : wp (iText fa) st QL = wp fa st (kIText QL) := wp_iText
def kIL (g : List D → Option (List D)) (Q : Oc (List D) → Sl → Prop) : Oc (List D) → Sl → Prop := vx Q fun x s => wo (g x) (kr Q s)
theorem kIL_v (g : List D → Option (List D)) (Q : Oc (List D) → Sl → Prop) (x : List D) (s : Sl) : kIL g Q (.v x) s = wo (g x) (kr Q s) := rfl
theorem kIL_x (g : List D → Option (List D)) (Q : Oc (List D) → Sl → Prop) (c : Nat) (s : Sl) : kIL g Q (.x c) s = Q (.x c) s := rfl
theorem n_iR1 : wp (iR1 fs) st QL = wp fs st (kIL dR1 QL) := wp_iR1
theorem n_iR2 : wp (iR2 fs) st QL = wp fs st (kIL dR2 QL) := wp_iR2
theorem n_iEn : wp (iEn fs) st QL = wp fs st (kIL dEn QL) := wp_iEn
theorem n_aNil : wp aNil st QA = QA (.v []) st := rfl
def kAV2 (x : D) (Q : Oc (List Arg) → Sl → Prop) : Oc (List Arg) → Sl → Prop := vx Q fun xs s => Q (.v (.v x :: xs)) s
theorem kAV2_v (x : D) (Q : Oc (List Arg) → Sl → Prop) (xs : List Arg) (s : Sl) : kAV2 x Q (.v xs) s = Q (.v (.v x :: xs)) s := rfl
theorem kAV2_x (x : D) (Q : Oc (List Arg) → Sl → Prop) (c : Nat) (s : Sl) : kAV2 x Q (.x c) s = Q (.x c) s := rfl
def kAV1 (fr : M (List Arg)) (Q : Oc (List Arg) → Sl → Prop) : Oc (D) → Sl → Prop := vx Q fun x s => wp fr s (kAV2 x Q)
theorem kAV1_v (fr : M (List Arg)) (Q : Oc (List Arg) → Sl → Prop) (x : D) (s : Sl) : kAV1 fr Q (.v x) s = wp fr s (kAV2 x Q) := rfl
theorem kAV1_x (fr : M (List Arg)) (Q : Oc (List Arg) → Sl → Prop) (c : Nat) (s : Sl) : kAV1 fr Q (.x c) s = Q (.x c) s := rfl
theorem n_aV : ∀ {fr : M (List Arg)}, wp (aV fa fr) st QA = wp fa st (kAV1 fr QA) := wp_aV
def kAO (i : Nat) (Q : Oc (List Arg) → Sl → Prop) : Oc (List Arg) → Sl → Prop := vx Q fun xs s => Q (.v (.o i :: xs)) s
theorem kAO_v (i : Nat) (Q : Oc (List Arg) → Sl → Prop) (xs : List Arg) (s : Sl) : kAO i Q (.v xs) s = Q (.v (.o i :: xs)) s := rfl
theorem kAO_x (i : Nat) (Q : Oc (List Arg) → Sl → Prop) (c : Nat) (s : Sl) : kAO i Q (.x c) s = Q (.x c) s := rfl
def isq (o : Option (Option R)) (k : Unit → Prop) : Prop := isR o (k ())
theorem isq_s {x : R} {k : Unit → Prop} : isq (some (some x)) k = k () := rfl
def kAOu (i : Nat) (fr : M (List Arg)) (Q : Oc (List Arg) → Sl → Prop) (st : Sl) : Unit → Prop := fun _ => wp fr st (kAO i Q)
theorem kAOu_a (i : Nat) (fr : M (List Arg)) (Q : Oc (List Arg) → Sl → Prop) (st : Sl) : kAOu i fr Q st () = wp fr st (kAO i Q) := rfl
theorem n_aO : ∀ {i : Nat} {fr : M (List Arg)}, wp (aO i fr) st QA = isq (gt st i) (kAOu i fr QA st) := wp_aO
def kEnd2 (o : Oc R) (as : List Arg) (rs2 : List R) (Q : Oc R → Sl → Prop) (st : Sl) : Unit → Prop := fun _ => Q o (pA as rs2 st)
theorem kEnd2_a (o : Oc R) (as : List Arg) (rs2 : List R) (Q : Oc R → Sl → Prop) (st : Sl) : kEnd2 o as rs2 Q st () = Q o (pA as rs2 st) := rfl
def kEnd (as : List Arg) (rs : List R) (Q : Oc R → Sl → Prop) (st : Sl) : Oc R → List R → Prop := fun o rs2 => wa (rs2.length = rs.length) (Q o (pA as rs2 st))
theorem kEnd_a (as : List Arg) (rs : List R) (Q : Oc R → Sl → Prop) (st : Sl) (o : Oc R) (rs2 : List R) : kEnd as rs Q st o rs2 = wc (rs2.length = rs.length) (kEnd2 o as rs2 Q st) := rfl
def kCallU (F : Fn) (as : List Arg) (rs : List R) (Q : Oc R → Sl → Prop) (st : Sl) : Unit → Prop := fun _ => wf F rs (kEnd as rs Q st)
theorem kCallU_a (F : Fn) (as : List Arg) (rs : List R) (Q : Oc R → Sl → Prop) (st : Sl) : kCallU F as rs Q st () = wf F rs (kEnd as rs Q st) := rfl
def kCall (F : Fn) (as : List Arg) (Q : Oc R → Sl → Prop) (st : Sl) : List R → Prop := fun rs => wa ((owns as).Nodup) (wf F rs (kEnd as rs Q st))
theorem kCall_a (F : Fn) (as : List Arg) (Q : Oc R → Sl → Prop) (st : Sl) (rs : List R) : kCall F as Q st rs = wc ((owns as).Nodup) (kCallU F as rs Q st) := rfl
theorem n_callF : ∀ {F : Fn} {as : List Arg}, wp (callF F as) st QR = wo (gA as st) (kCall F as QR st) := wp_callF
def kRcu (F : Fn) (ds : List D) (as : List Arg) (Q : Oc R → Sl → Prop) (s : Sl) : Unit → Prop := fun _ => wp (callF F (as ++ ds.map Arg.v)) s Q
theorem kRcu_a (F : Fn) (ds : List D) (as : List Arg) (Q : Oc R → Sl → Prop) (s : Sl) : kRcu F ds as Q s () = wp (callF F (as ++ ds.map Arg.v)) s Q := rfl
def kRc (n : Nat) (F : Fn) (ds : List D) (Q : Oc R → Sl → Prop) : Oc (List Arg) → Sl → Prop := vx Q fun as s => wc (as.length + ds.length = n) (kRcu F ds as Q s)
theorem kRc_v (n : Nat) (F : Fn) (ds : List D) (Q : Oc R → Sl → Prop) (as : List Arg) (s : Sl) : kRc n F ds Q (.v as) s = wc (as.length + ds.length = n) (kRcu F ds as Q s) := rfl
theorem kRc_x (n : Nat) (F : Fn) (ds : List D) (Q : Oc R → Sl → Prop) (c : Nat) (s : Sl) : kRc n F ds Q (.x c) s = Q (.x c) s := rfl
theorem n_rCall : ∀ {n : Nat} {F : Fn} {ds : List D} {fl : M (List Arg)}, wp (rCall n F ds fl) st QR = wp fl st (kRc n F ds QR) := wp_rCall
def kMcu (F : Fn) (c : Nat) (xs : List D) (as : List Arg) (Q : Oc R → Sl → Prop) (s : Sl) : Unit → Prop := fun _ => wp (callF F (.v (.obj c xs) :: as)) s Q
theorem kMcu_a (F : Fn) (c : Nat) (xs : List D) (as : List Arg) (Q : Oc R → Sl → Prop) (s : Sl) : kMcu F c xs as Q s () = wp (callF F (.v (.obj c xs) :: as)) s Q := rfl
def kMc (n : Nat) (F : Fn) (c : Nat) (xs : List D) (Q : Oc R → Sl → Prop) : Oc (List Arg) → Sl → Prop := vx Q fun as s => wc (as.length + 1 = n) (kMcu F c xs as Q s)
theorem kMc_v (n : Nat) (F : Fn) (c : Nat) (xs : List D) (Q : Oc R → Sl → Prop) (as : List Arg) (s : Sl) : kMc n F c xs Q (.v as) s = wc (as.length + 1 = n) (kMcu F c xs as Q s) := rfl
theorem kMc_x (n : Nat) (F : Fn) (c : Nat) (xs : List D) (Q : Oc R → Sl → Prop) (c : Nat) (s : Sl) : kMc n F c xs Q (.x c) s = Q (.x c) s := rfl
def kMf (n : Nat) (fl : M (List Arg)) (c : Nat) (xs : List D) (Q : Oc R → Sl → Prop) (s : Sl) : Fn → Prop := fun F => wp fl s (kMc n F c xs Q)
theorem kMf_a (n : Nat) (fl : M (List Arg)) (c : Nat) (xs : List D) (Q : Oc R → Sl → Prop) (s : Sl) (F : Fn) : kMf n fl c xs Q s F = wp fl s (kMc n F c xs Q) := rfl
def kMo (n : Nat) (tab : Nat → Option Fn) (fl : M (List Arg)) (Q : Oc R → Sl → Prop) (s : Sl) : Nat → List D → Prop := fun c xs => wo (tab c) (kMf n fl c xs Q s)
theorem kMo_a (n : Nat) (tab : Nat → Option Fn) (fl : M (List Arg)) (Q : Oc R → Sl → Prop) (s : Sl) (c : Nat) (xs : List D) : kMo n tab fl Q s c xs = wo (tab c) (kMf n fl c xs Q s) := rfl
def kMeth (n : Nat) (tab : Nat → Option Fn) (fl : M (List Arg)) (Q : Oc R → Sl → Prop) : Oc D → Sl → Prop := nx0 (β := D) fun x s => to x (kMo n tab fl Q s)
theorem kMeth_v (n : Nat) (tab : Nat → Option Fn) (fl : M (List Arg)) (Q : Oc R → Sl → Prop) (x : D) (s : Sl) : kMeth n tab fl Q (.v x) s = to x (kMo n tab fl Q s) := rfl
theorem n_rMeth : ∀ {n : Nat} {tab : Nat → Option Fn} {fl : M (List Arg)}, wp (rMeth n tab fa fl) st QR = wp fa st (kMeth n tab fl QR) := wp_rMeth
theorem n_rMakeN : ∀ {c : Nat}, wp (rMakeN c) st QR = QR (.v (.oi c [])) st := rfl
def kFnU (kp : Nat → Bool) (n N : Nat) (body : MS) (rs : List R) (Q : Oc R → List R → Prop) : Unit → Prop := fun _ => wse body (rs.map some ++ List.replicate (N - n) none) (oend n kp rs Q)
theorem kFnU_a (kp : Nat → Bool) (n N : Nat) (body : MS) (rs : List R) (Q : Oc R → List R → Prop) : kFnU kp n N body rs Q () = wse body (rs.map some ++ List.replicate (N - n) none) (oend n kp rs Q) := rfl
theorem n_fnOf : ∀ {n N : Nat} {kp : Nat → Bool} {body : MS} {rs : List R} {Q : Oc R → List R → Prop}, wf (fnOf n N kp body) rs Q = wc (rs.length = n) (kFnU kp n N body rs Q) := wf_fnOf
def ko (v : Oc R) (Q : Oc R → List R → Prop) : List R → Prop := fun qs => Q v qs
theorem ko_a (v : Oc R) (Q : Oc R → List R → Prop) (qs : List R) : ko v Q qs = Q v qs := rfl
theorem n_oend_rt {n : Nat} {kp : Nat → Bool} {rs : List R} {Q : Oc R → List R → Prop} {v : R} : oend n kp rs Q (.rt v) s = wo (outs kp 0 rs s) (ko (.v v) Q) := rfl
theorem n_oend_nx {n : Nat} {kp : Nat → Bool} {rs : List R} {Q : Oc R → List R → Prop} : oend n kp rs Q .nx s = wo (outs kp 0 rs s) (ko (.v (.d .non)) Q) := rfl
theorem n_oend_x {n : Nat} {kp : Nat → Bool} {rs : List R} {Q : Oc R → List R → Prop} {c : Nat} : oend n kp rs Q (.x c) s = wo (outs kp 0 rs s) (ko (.x c) Q) := rfl
theorem n_sNext : ws sNext st QS = QS .nx st := rfl
theorem n_sBrk : ws sBrk st QS = QS .bk st := rfl
theorem n_sCt : ws sCt st QS = QS .ct st := rfl
theorem n_sRetN : ws sRetN st QS = QS (.rt (.d .non)) st := rfl
def kSeq (g : MS) (Q : Fl → Sl → Prop) : Fl → Sl → Prop := nx Q fun s => ws g s Q
theorem kSeq_nx (g : MS) (Q : Fl → Sl → Prop) (s : Sl) : kSeq g Q .nx s = ws g s Q := rfl
theorem kSeq_bk (g : MS) (Q : Fl → Sl → Prop) (s : Sl) : kSeq g Q .bk s = Q .bk s := rfl
theorem kSeq_ct (g : MS) (Q : Fl → Sl → Prop) (s : Sl) : kSeq g Q .ct s = Q .ct s := rfl
theorem kSeq_rt (g : MS) (Q : Fl → Sl → Prop) (v : R) (s : Sl) : kSeq g Q (.rt v) s = Q (.rt v) s := rfl
theorem kSeq_x (g : MS) (Q : Fl → Sl → Prop) (c : Nat) (s : Sl) : kSeq g Q (.x c) s = Q (.x c) s := rfl
theorem n_sSeq : ∀ {f g : MS}, ws (sSeq f g) st QS = ws f st (kSeq g QS) := ws_sSeq
def kSet (i : Nat) (Q : Fl → Sl → Prop) : Oc (R) → Sl → Prop := vs Q fun r s => Q .nx (stt s i (some r))
theorem kSet_v (i : Nat) (Q : Fl → Sl → Prop) (r : R) (s : Sl) : kSet i Q (.v r) s = Q .nx (stt s i (some r)) := rfl
theorem kSet_x (i : Nat) (Q : Fl → Sl → Prop) (c : Nat) (s : Sl) : kSet i Q (.x c) s = Q (.x c) s := rfl
theorem n_sSet : ∀ {i : Nat} {m : M R}, ws (sSet i m) st QS = wp m st (kSet i QS) := ws_sSet
def knx (Q : Fl → Sl → Prop) : Sl → Prop := fun s => Q .nx s
theorem knx_a (Q : Fl → Sl → Prop) (s : Sl) : knx Q s = Q .nx s := rfl
def kAsg (g : D → Sl → Option Sl) (Q : Fl → Sl → Prop) : Oc (D) → Sl → Prop := vs Q fun x s => wo (g x s) (knx Q)
theorem kAsg_v (g : D → Sl → Option Sl) (Q : Fl → Sl → Prop) (x : D) (s : Sl) : kAsg g Q (.v x) s = wo (g x s) (knx Q) := rfl
theorem kAsg_x (g : D → Sl → Option Sl) (Q : Fl → Sl → Prop) (c : Nat) (s : Sl) : kAsg g Q (.x c) s = Q (.x c) s := rfl
theorem n_sAsg : ∀ {m : M D} {g : D → Sl → Option Sl}, ws (sAsg m g) st QS = wp m st (kAsg g QS) := ws_sAsg
def wIf (f g : MS) (Q : Fl → Sl → Prop) (s : Sl) : Bool → Prop := fun b => wb b (ws f s Q) (ws g s Q)
theorem wIf_t (f g : MS) (Q : Fl → Sl → Prop) (s : Sl) : wIf f g Q s true = ws f s Q := rfl
theorem wIf_f (f g : MS) (Q : Fl → Sl → Prop) (s : Sl) : wIf f g Q s false = ws g s Q := wb_f
def kIf (f g : MS) (Q : Fl → Sl → Prop) : Oc (Bool) → Sl → Prop := vs Q fun b s => wd b (wIf f g Q s)
theorem kIf_v (f g : MS) (Q : Fl → Sl → Prop) (b : Bool) (s : Sl) : kIf f g Q (.v b) s = wd b (wIf f g Q s) := rfl
theorem kIf_x (f g : MS) (Q : Fl → Sl → Prop) (c : Nat) (s : Sl) : kIf f g Q (.x c) s = Q (.x c) s := rfl
theorem n_sIf : ∀ {c : M Bool} {f g : MS}, ws (sIf c f g) st QS = wp c st (kIf f g QS) := ws_sIf
def kRet  (Q : Fl → Sl → Prop) : Oc (R) → Sl → Prop := vs Q fun r s => Q (.rt r) s
theorem kRet_v  (Q : Fl → Sl → Prop) (r : R) (s : Sl) : kRet  Q (.v r) s = Q (.rt r) s := rfl
theorem kRet_x  (Q : Fl → Sl → Prop) (c : Nat) (s : Sl) : kRet  Q (.x c) s = Q (.x c) s := rfl
theorem n_sRet : ∀ {m : M R}, ws (sRet m) st QS = wp m st (kRet QS) := ws_sRet
def kDrop  (Q : Fl → Sl → Prop) : Oc (R) → Sl → Prop := vs Q fun r s => Q .nx s
theorem kDrop_v  (Q : Fl → Sl → Prop) (r : R) (s : Sl) : kDrop  Q (.v r) s = Q .nx s := rfl
theorem kDrop_x  (Q : Fl → Sl → Prop) (c : Nat) (s : Sl) : kDrop  Q (.x c) s = Q (.x c) s := rfl
theorem n_sDrop : ∀ {m : M R}, ws (sDrop m) st QS = wp m st (kDrop QS) := ws_sDrop
def kFor (g : D → Sl → Option Sl) (body : MS) (Q : Fl → Sl → Prop) : Oc (List D) → Sl → Prop := vs Q fun ds s => ws (forL g body ds) s Q
theorem kFor_v (g : D → Sl → Option Sl) (body : MS) (Q : Fl → Sl → Prop) (ds : List D) (s : Sl) : kFor g body Q (.v ds) s = ws (forL g body ds) s Q := rfl
theorem kFor_x (g : D → Sl → Option Sl) (body : MS) (Q : Fl → Sl → Prop) (c : Nat) (s : Sl) : kFor g body Q (.x c) s = Q (.x c) s := rfl
theorem n_sFor : ∀ {it : M (List D)} {g : D → Sl → Option Sl} {body : MS}, ws (sFor it g body) st QS = wp it st (kFor g body QS) := ws_sFor
def kSt (i : Nat) (xs : List D) (Q : Fl → Sl → Prop) (s : Sl) : Unit → Prop := fun _ => Q .nx (stt s i (some (.ol xs)))
theorem kSt_a (i : Nat) (xs : List D) (Q : Fl → Sl → Prop) (s : Sl) : kSt i xs Q s () = Q .nx (stt s i (some (.ol xs))) := rfl
def kApp2 (i : Nat) (x : D) (Q : Fl → Sl → Prop) (s : Sl) : List D → Prop := fun xs => wa (xs.length < sizeLine) (Q .nx (stt s i (some (.ol (xs ++ [x])))))
theorem kApp2_a (i : Nat) (x : D) (Q : Fl → Sl → Prop) (s : Sl) (xs : List D) : kApp2 i x Q s xs = wc (xs.length < sizeLine) (kSt i (xs ++ [x]) Q s) := rfl
def kApp (i : Nat) (Q : Fl → Sl → Prop) : Oc (D) → Sl → Prop := vs Q fun x s => gol (gt s i) (kApp2 i x Q s)
theorem kApp_v (i : Nat) (Q : Fl → Sl → Prop) (x : D) (s : Sl) : kApp i Q (.v x) s = gol (gt s i) (kApp2 i x Q s) := rfl
theorem kApp_x (i : Nat) (Q : Fl → Sl → Prop) (c : Nat) (s : Sl) : kApp i Q (.x c) s = Q (.x c) s := rfl
def kAppU (i : Nat) (fa : M D) (Q : Fl → Sl → Prop) (s : Sl) : Unit → Prop := fun _ => wp fa s (kApp i Q)
theorem kAppU_a (i : Nat) (fa : M D) (Q : Fl → Sl → Prop) (s : Sl) : kAppU i fa Q s () = wp fa s (kApp i Q) := rfl
theorem n_sApp' : ∀ {i : Nat}, ws (sApp' i fa) st QS = wc (isL (gt st i) = true) (kAppU i fa QS st) := ws_sApp'
def kExt3 (i : Nat) (ys : List D) (Q : Fl → Sl → Prop) (s : Sl) : List D → Prop := fun xs => wa (xs.length + ys.length ≤ sizeLine) (Q .nx (stt s i (some (.ol (xs ++ ys)))))
theorem kExt3_a (i : Nat) (ys : List D) (Q : Fl → Sl → Prop) (s : Sl) (xs : List D) : kExt3 i ys Q s xs = wc (xs.length + ys.length ≤ sizeLine) (kSt i (xs ++ ys) Q s) := rfl
def kExt2 (i : Nat) (Q : Fl → Sl → Prop) (s : Sl) : List D → Prop := fun ys => gol (gt s i) (kExt3 i ys Q s)
theorem kExt2_a (i : Nat) (Q : Fl → Sl → Prop) (s : Sl) (ys : List D) : kExt2 i Q s ys = gol (gt s i) (kExt3 i ys Q s) := rfl
def kExt (i : Nat) (Q : Fl → Sl → Prop) : Oc (D) → Sl → Prop := vs Q fun x s => tq x (kExt2 i Q s)
theorem kExt_v (i : Nat) (Q : Fl → Sl → Prop) (x : D) (s : Sl) : kExt i Q (.v x) s = tq x (kExt2 i Q s) := rfl
theorem kExt_x (i : Nat) (Q : Fl → Sl → Prop) (c : Nat) (s : Sl) : kExt i Q (.x c) s = Q (.x c) s := rfl
def kExtU (i : Nat) (fa : M D) (Q : Fl → Sl → Prop) (s : Sl) : Unit → Prop := fun _ => wp fa s (kExt i Q)
theorem kExtU_a (i : Nat) (fa : M D) (Q : Fl → Sl → Prop) (s : Sl) : kExtU i fa Q s () = wp fa s (kExt i Q) := rfl
theorem n_sExtA : ∀ {i : Nat}, ws (sExtA i fa) st QS = wc (isL (gt st i) = true) (kExtU i fa QS st) := ws_sExtA
def kSub5 (i : Nat) (x : D) (xs : List D) (Q : Fl → Sl → Prop) (s : Sl) : Nat → Prop := fun j => Q .nx (stt s i (some (.ol (xs.set j x))))
theorem kSub5_a (i : Nat) (x : D) (xs : List D) (Q : Fl → Sl → Prop) (s : Sl) (j : Nat) : kSub5 i x xs Q s j = Q .nx (stt s i (some (.ol (xs.set j x)))) := rfl
def kSub4 (i : Nat) (x : D) (k : Int) (Q : Fl → Sl → Prop) (s : Sl) : List D → Prop := fun xs => wo (ixN xs.length k) (kSub5 i x xs Q s)
theorem kSub4_a (i : Nat) (x : D) (k : Int) (Q : Fl → Sl → Prop) (s : Sl) (xs : List D) : kSub4 i x k Q s xs = wo (ixN xs.length k) (kSub5 i x xs Q s) := rfl
def kSub3 (i : Nat) (x : D) (Q : Fl → Sl → Prop) (s : Sl) : Int → Prop := fun k => gol (gt s i) (kSub4 i x k Q s)
theorem kSub3_a (i : Nat) (x : D) (Q : Fl → Sl → Prop) (s : Sl) (k : Int) : kSub3 i x Q s k = gol (gt s i) (kSub4 i x k Q s) := rfl
def kSub2 (i : Nat) (x : D) (Q : Fl → Sl → Prop) : Oc (D) → Sl → Prop := vs Q fun y s => ti y (kSub3 i x Q s)
theorem kSub2_v (i : Nat) (x : D) (Q : Fl → Sl → Prop) (y : D) (s : Sl) : kSub2 i x Q (.v y) s = ti y (kSub3 i x Q s) := rfl
theorem kSub2_x (i : Nat) (x : D) (Q : Fl → Sl → Prop) (c : Nat) (s : Sl) : kSub2 i x Q (.x c) s = Q (.x c) s := rfl
def kSubU (i : Nat) (mi : M D) (x : D) (Q : Fl → Sl → Prop) (s : Sl) : Unit → Prop := fun _ => wp mi s (kSub2 i x Q)
theorem kSubU_a (i : Nat) (mi : M D) (x : D) (Q : Fl → Sl → Prop) (s : Sl) : kSubU i mi x Q s () = wp mi s (kSub2 i x Q) := rfl
def kSub1 (i : Nat) (mi : M D) (Q : Fl → Sl → Prop) : Oc (D) → Sl → Prop := vs Q fun x s => wc (isL (gt s i) = true) (kSubU i mi x Q s)
theorem kSub1_v (i : Nat) (mi : M D) (Q : Fl → Sl → Prop) (x : D) (s : Sl) : kSub1 i mi Q (.v x) s = wc (isL (gt s i) = true) (kSubU i mi x Q s) := rfl
theorem kSub1_x (i : Nat) (mi : M D) (Q : Fl → Sl → Prop) (c : Nat) (s : Sl) : kSub1 i mi Q (.x c) s = Q (.x c) s := rfl
theorem n_sSub : ∀ {i : Nat} {mi : M D}, ws (sSub i mi fa) st QS = wp fa st (kSub1 i mi QS) := ws_sSub
def fld (ix : Nat → Option Nat) : D → Option D
  | .obj c fs => (match ix c with
    | some i => fs[i]?
    | none => none)
  | _ => none
theorem fld_o {ix : Nat → Option Nat} {c : Nat} {fs : List D} : fld ix (.obj c fs) = (ix c).bind fun i => fs[i]? := by
  show (match ix c with | some i => fs[i]? | none => none) = _
  cases ix c <;> rfl
theorem n_eFld : ∀ {ix : Nat → Option Nat}, wp (eFld ix fa) st Q = wp fa st (kUn (fld ix) Q) := by
  intro ix
  have e : eFld ix fa = eUn (fld ix) fa := rfl
  rw [e]; exact wp_eUn
end
end Fz
set_option Elab.async false
set_option linter.all false
set_option maxRecDepth 100000
set_option maxHeartbeats 2000000
namespace Fz
open PySem L2
theorem e_sub {a b : Int} : dSub (.int a) (.int b) = some (.int (a - b)) := rfl
theorem e_addi {a b : Int} : dAdd (.int a) (.int b) = some (.int (a + b)) := rfl
theorem e_adds {a b : Str} : dAdd (.str a) (.str b) = if a.length + b.length ≤ sizeLine then some (.str (a ++ b)) else none := rfl
theorem e_addt {a b : List D} : dAdd (.tup a) (.tup b) = if a.length + b.length ≤ sizeLine then some (.tup (a ++ b)) else none := rfl
theorem e_mod {a b : Int} : dMod (.int a) (.int b) = if 0 < b then some (.int (a % b)) else none := rfl
theorem e_div {a b : Int} : dDiv (.int a) (.int b) = if 0 < b ∧ b < 1073741824 then some (.int (a / b)) else none := rfl
theorem e_mul {a b : Int} : dMul (.int a) (.int b) = if CMulB a b then some (.int (a * b)) else none := rfl
theorem e_lti {a b : Int} : dLt (.int a) (.int b) = some (.bl (decide (a < b))) := rfl
theorem e_gti {a b : Int} : dGt (.int a) (.int b) = some (.bl (decide (b < a))) := rfl
theorem e_lei {a b : Int} : dLe (.int a) (.int b) = some (.bl (decide (a ≤ b))) := rfl
theorem e_gei {a b : Int} : dGe (.int a) (.int b) = some (.bl (decide (b ≤ a))) := rfl
theorem e_lenl {xs : List D} : dLen [.lst xs] = some (.int (xs.length : Nat)) := rfl
theorem e_lent {xs : List D} : dLen [.tup xs] = some (.int (xs.length : Nat)) := rfl
theorem e_lens {s : Str} : dLen [.str s] = if s.length ≤ sizeLine then some (.int (s.length : Nat)) else none := rfl
theorem e_intb {b : Bool} : dInt [.bl b] = some (.int (if b then 1 else 0)) := by cases b <;> rfl
theorem e_tupl {xs : List D} : dTuple [.lst xs] = some (.tup xs) := rfl
theorem e_tupt {xs : List D} : dTuple [.tup xs] = some (.tup xs) := rfl
theorem e_listl {xs : List D} : dList [.lst xs] = some xs := rfl
theorem e_listt {xs : List D} : dList [.tup xs] = some xs := rfl
theorem e_isib {b : Bool} : dIsi "bool" (.bl b) = some (.bl true) := rfl
theorem szl : sizeLine = 16777216 := rfl
theorem nodup0 : ([] : List Nat).Nodup = True := by simp
theorem nodup1 {i : Nat} : [i].Nodup = True := by simp
theorem same_s (a b : Str) : same (.str a) (.str b) = decide (a = b) := by
  show (a == b) = _
  exact rfl
theorem e_eqs {a b : Str} : dEq (.str a) (.str b) = some (.bl (decide (a = b))) := by
  show some (D.bl (same (.str a) (.str b))) = _
  rw [same_s]
theorem e_nes {a b : Str} : dNe (.str a) (.str b) = some (.bl (!decide (a = b))) := by
  show some (D.bl (!same (.str a) (.str b))) = _
  rw [same_s]
theorem same_i (a b : Int) : same (.int a) (.int b) = decide (a = b) := by
  show (a == b) = _
  exact rfl
theorem e_eqi {a b : Int} : dEq (.int a) (.int b) = some (.bl (decide (a = b))) := by
  show some (D.bl (same (.int a) (.int b))) = _
  rw [same_i]
theorem e_nei {a b : Int} : dNe (.int a) (.int b) = some (.bl (!decide (a = b))) := by
  show some (D.bl (!same (.int a) (.int b))) = _
  rw [same_i]
theorem same_b (a b : Bool) : same (.bl a) (.bl b) = decide (a = b) := by cases a <;> cases b <;> rfl
theorem e_eqb {a b : Bool} : dEq (.bl a) (.bl b) = some (.bl (decide (a = b))) := by
  show some (D.bl (same (.bl a) (.bl b))) = _
  rw [same_b]
theorem e_neb {a b : Bool} : dNe (.bl a) (.bl b) = some (.bl (!decide (a = b))) := by
  show some (D.bl (!same (.bl a) (.bl b))) = _
  rw [same_b]
theorem atI_n {α : Type} (xs : List α) (k : Nat) : atI xs (k : Int) = xs[k]? := by
  unfold atI ixN
  by_cases h : k < xs.length
  · have h2 : (k : Int) < (xs.length : Int) := by omega
    have h3 : ¬ (k : Int) < 0 := by omega
    simp [h2, h3, h]
  · have h2 : ¬ (k : Int) < (xs.length : Int) := by omega
    have h3 : ¬ (k : Int) < 0 := by omega
    simp [h2, h3]
    omega
theorem e_ixn {xs : List D} {k : Nat} : dIx (.lst xs) (.int (k : Int)) = xs[k]? := atI_n xs k
theorem e_ixtn {xs : List D} {k : Nat} : dIx (.tup xs) (.int (k : Int)) = xs[k]? := atI_n xs k
theorem e_ix0 {xs : List D} : dIx (.lst xs) (.int 0) = xs[0]? := atI_n xs 0
theorem e_ix1 {xs : List D} : dIx (.lst xs) (.int 1) = xs[1]? := atI_n xs 1
theorem e_ix2 {xs : List D} : dIx (.lst xs) (.int 2) = xs[2]? := atI_n xs 2
theorem e_ix3 {xs : List D} : dIx (.lst xs) (.int 3) = xs[3]? := atI_n xs 3
theorem e_ixt0 {xs : List D} : dIx (.tup xs) (.int 0) = xs[0]? := atI_n xs 0
theorem e_ixt1 {xs : List D} : dIx (.tup xs) (.int 1) = xs[1]? := atI_n xs 1
theorem e_ixt2 {xs : List D} : dIx (.tup xs) (.int 2) = xs[2]? := atI_n xs 2
theorem e_ixt3 {xs : List D} : dIx (.tup xs) (.int 3) = xs[3]? := atI_n xs 3
theorem ixn_n (l k : Nat) : ixN l (k : Int) = if k < l then some k else none := by
  unfold ixN
  by_cases h : k < l
  · have h2 : (k : Int) < (l : Int) := by omega
    have h3 : ¬ (k : Int) < 0 := by omega
    simp [h2, h3, h]
  · have h2 : ¬ (k : Int) < (l : Int) := by omega
    have h3 : ¬ (k : Int) < 0 := by omega
    simp [h2, h3, h]
theorem ixn0 {l : Nat} : ixN l 0 = if 0 < l then some 0 else none := ixn_n l 0
theorem ixn1 {l : Nat} : ixN l 1 = if 1 < l then some 1 else none := ixn_n l 1
theorem ixn2 {l : Nat} : ixN l 2 = if 2 < l then some 2 else none := ixn_n l 2
theorem ixn3 {l : Nat} : ixN l 3 = if 3 < l then some 3 else none := ixn_n l 3
def sgn (c : Nat) : Str := ⟨#[c]⟩
theorem e_ixs {z : Str} {k : Nat} : dIx (.str z) (.int (k : Int)) = if z.length ≤ sizeLine then (z.cps.toList[k]?).map fun c => .str (sgn c) else none := by
  show (if z.length ≤ sizeLine then (atI z.cps.toList (k : Int)).map fun c => D.str (sgn c) else none) = _
  rw [atI_n]
theorem e_ixs0 {z : Str} : dIx (.str z) (.int 0) = if z.length ≤ sizeLine then (z.cps.toList[0]?).map fun c => .str (sgn c) else none := e_ixs (k := 0)
theorem plains_str (ws : List Str) : plains (ws.map D.str) = true := by
  induction ws with
  | nil => rfl
  | cons a r ih => show (true && plains (r.map D.str)) = true; rw [ih]; rfl
theorem deps_str (ws : List Str) : deps (ws.map D.str) = 0 := by
  induction ws with
  | nil => rfl
  | cons a r ih => show max 0 (deps (r.map D.str)) = 0; rw [ih]; rfl
theorem cok_strs (ws : List Str) : cok (.lst (ws.map D.str)) = true := by
  show (plains (ws.map D.str) && decide (deps (ws.map D.str) + 1 ≤ 64)) = true
  rw [plains_str, deps_str]; rfl
theorem any_str (ws : List Str) (s : Str) : ((ws.map D.str).any fun z => same z (.str s)) = decide (s ∈ ws) := by
  induction ws with
  | nil => rfl
  | cons a r ih =>
    rw [List.map_cons, List.any_cons, ih, same_s]
    by_cases h : a = s
    · subst h; simp
    · have : ¬ s = a := fun e => h e.symm
      simp [h, this]
theorem e_inw {ws : List Str} {s : Str} : dIn (.str s) (.lst (ws.map D.str)) = some (.bl (decide (s ∈ ws))) := by
  show ((if cok (.str s) && cok (.lst (ws.map D.str)) then some ((ws.map D.str).any fun z => same z (.str s)) else none).map D.bl) = _
  rw [cok_strs, any_str]; rfl
theorem e_ninw {ws : List Str} {s : Str} : dNotIn (.str s) (.lst (ws.map D.str)) = some (.bl (!decide (s ∈ ws))) := by
  show ((if cok (.str s) && cok (.lst (ws.map D.str)) then some ((ws.map D.str).any fun z => same z (.str s)) else none).map fun b => D.bl !b) = _
  rw [cok_strs, any_str]; rfl
theorem flat_strs (ws : List Str) : (ws.map D.str).all flat = true := by
  rw [List.all_eq_true]; intro x hx
  rw [List.mem_map] at hx
  obtain ⟨s, _, rfl⟩ := hx; rfl
theorem e_inwt {ws : List Str} {s : Str} : dIn (.str s) (.tup (ws.map D.str)) = some (.bl (decide (s ∈ ws))) := by
  show ((if flat (.str s) && (ws.map D.str).all flat then some ((ws.map D.str).any fun z => same z (.str s)) else none).map D.bl) = _
  rw [flat_strs, any_str]; rfl
theorem e_ninwt {ws : List Str} {s : Str} : dNotIn (.str s) (.tup (ws.map D.str)) = some (.bl (!decide (s ∈ ws))) := by
  show ((if flat (.str s) && (ws.map D.str).all flat then some ((ws.map D.str).any fun z => same z (.str s)) else none).map fun b => D.bl !b) = _
  rw [flat_strs, any_str]; rfl
theorem mod_nat (r : Int) (k : Nat) (h : 0 < k) : ∃ j : Nat, j < k ∧ r % (k : Int) = j := by
  have h1 : 0 ≤ r % (k : Int) := Int.emod_nonneg _ (by omega)
  have h2 : r % (k : Int) < k := Int.emod_lt_of_pos _ (by omega)
  exact ⟨(r % (k : Int)).toNat, by omega, by omega⟩
end Fz
set_option Elab.async false
set_option linter.all false
set_option maxRecDepth 100000
set_option maxHeartbeats 2000000
namespace Fz
open PySem L2
def W (l : List Nat) : Str := ⟨l.toArray⟩
theorem W_len {l : List Nat} : (W l).length = l.length := by show l.toArray.size = _; simp
theorem W_app {a b : List Nat} : W a ++ W b = W (a ++ b) := by
  show Str.append (W a) (W b) = _
  unfold Str.append W
  simp
theorem sgn_W {c : Nat} : sgn c = W [c] := rfl
theorem mod_natC {r k : Int} (h : 0 < k) : r % k = (((r % k).toNat : Nat) : Int) ∧ (r % k).toNat < k.toNat := by
  have h1 : 0 ≤ r % k := Int.emod_nonneg _ (by omega)
  have h2 : r % k < k := Int.emod_lt_of_pos _ (by omega)
  omega
theorem e_ixlm {xs : List D} {r k : Int} (h : 0 < k) (hk : k.toNat ≤ xs.length) : dIx (.lst xs) (.int (r % k)) = some (xs.getD (r % k).toNat .non) := by
  obtain ⟨e, h2⟩ := mod_natC (r := r) h
  have h4 : (r % k).toNat < xs.length := by omega
  have h3 : dIx (.lst xs) (.int (((r % k).toNat : Nat) : Int)) = some (xs.getD (r % k).toNat .non) := by rw [e_ixn]; simp [h4]
  rw [← e] at h3
  exact h3
theorem getD_mem {α : Type} {xs : List α} {i : Nat} {d : α} (h : i < xs.length) : xs.getD i d ∈ xs := by
  have : xs.getD i d = xs[i] := by simp [h]
  rw [this]; exact List.getElem_mem h
theorem vw_d {x : D} : vw (.d x) = x := rfl
theorem vw_ol {x : List D} : vw (.ol x) = .lst x := rfl
theorem vw_oi {c : Nat} {x : List D} : vw (.oi c x) = .obj c x := rfl
theorem vw_od {x y : List D} : vw (.od x y) = .dct x y := rfl
theorem wh_d {n : Nat → Nat} {x : D} : wholeB n (.d x) = true := rfl
theorem wh_ol {n : Nat → Nat} {x : List D} : wholeB n (.ol x) = true := rfl
theorem wh_od {n : Nat → Nat} {x y : List D} : wholeB n (.od x y) = true := rfl
theorem wh_oi {n : Nat → Nat} {c : Nat} {x : List D} : wholeB n (.oi c x) = (x.length == n c) := rfl
theorem own_no : isOwned none = false := rfl
theorem own_d {x : D} : isOwned (some (.d x)) = false := rfl
theorem e_tys {s : Str} : tyOk "str" (.str s) = true := rfl
def wl (g : D → Sl → Option Sl) (c : M Bool) (e : M D) (vs : List Nat) (ds acc : List D) (s : Sl) (k : List D → Sl → Prop) : Prop := match lcL g c e vs ds acc s with
  | some (ys, s') => k ys s'
  | none => False
def kLcB (st : Sl) (vs : List Nat) (Q : Oc R → Sl → Prop) : List D → Sl → Prop := fun ys s' => Q (.v (.ol ys)) (backS st s' vs)
def kLcU (g : D → Sl → Option Sl) (c : M Bool) (e : M D) (vs : List Nat) (ds : List D) (s : Sl) (Q : Oc R → Sl → Prop) : Unit → Prop := fun _ => wl g c e vs ds [] (wipeS s vs) (kLcB s vs Q)
theorem kLcU_a {g : D → Sl → Option Sl} {c : M Bool} {e : M D} {vs : List Nat} {ds : List D} {s : Sl} {Q : Oc R → Sl → Prop} : kLcU g c e vs ds s Q () = wl g c e vs ds [] (wipeS s vs) (kLcB s vs Q) := rfl
theorem kLcB_a {st s' : Sl} {vs : List Nat} {Q : Oc R → Sl → Prop} {ys : List D} : kLcB st vs Q ys s' = Q (.v (.ol ys)) (backS st s' vs) := rfl
def kLc (g : D → Sl → Option Sl) (c : M Bool) (e : M D) (vs : List Nat) (Q : Oc R → Sl → Prop) : Oc (List D) → Sl → Prop := vx Q fun ds s => wc (vs.all (fun i => !isOwned (s.getD i none)) = true) (kLcU g c e vs ds s Q)
theorem kLc_v {g : D → Sl → Option Sl} {c : M Bool} {e : M D} {vs : List Nat} {Q : Oc R → Sl → Prop} {ds : List D} {s : Sl} : kLc g c e vs Q (.v ds) s = wc (vs.all (fun i => !isOwned (s.getD i none)) = true) (kLcU g c e vs ds s Q) := rfl
theorem n_rLc {it : M (List D)} {g : D → Sl → Option Sl} {c : M Bool} {e : M D} {vs : List Nat} {st : Sl} {Q : Oc R → Sl → Prop} : wp (rLc it g c e vs) st Q = wp it st (kLc g c e vs Q) := by
  unfold wp rLc
  cases it st with
  | none => rfl
  | some p =>
    obtain ⟨o, s⟩ := p
    cases o with
    | x c => rfl
    | v ds =>
      simp only [kLc_v, wc, wa, kLcU_a, wl]
      by_cases h : (vs.all (fun i => !isOwned (s.getD i none))) = true
      · simp only [h, if_true, true_and]
        cases lcL g c e vs ds [] (wipeS s vs) with
        | none => rfl
        | some p => rfl
      · simp only [h, if_false, false_and]; simp
theorem wl_map {α : Type} {g : D → Sl → Option Sl} {e : M D} {vs : List Nat} {k : List D → Sl → Prop} {xs : List α} (p : α → D) (f : α → D) {acc : List D} {s : Sl} (hl : acc.length + xs.length ≤ sizeLine)
    (hs : ∀ x ∈ xs, wo (g (p x) s) fun s1 => wp e s1 fun o s3 => o = .v (f x) ∧ wipeS s3 vs = s)
    (h1 : k (acc ++ xs.map f) s) : wl g cYes e vs (xs.map p) acc s k := by
  induction xs generalizing acc with
  | nil => simp at h1; exact h1
  | cons d r ih =>
    obtain ⟨s1, e1, h⟩ := hs d (.head _)
    unfold wl
    rw [List.map_cons]
    unfold lcL
    rw [e1]
    simp only [cYes, ret]
    unfold wp at h
    revert h
    cases he : e s1 with
    | none => exact fun h => h.elim
    | some p =>
      obtain ⟨o, s3⟩ := p
      rintro ⟨rfl, h⟩
      simp only [List.length_cons] at hl
      have hl2 : acc.length < sizeLine := by omega
      simp only [hl2, if_true, h]
      refine ih (acc := acc ++ [f d]) (by simp; omega) (fun x hx => hs x (.tail _ hx)) ?_
      simpa using h1
theorem wl_filter {α : Type} {g : D → Sl → Option Sl} {c : M Bool} {e : M D} {vs : List Nat} {k : List D → Sl → Prop} {xs : List α} (p : α → D) (q : α → Bool) (f : α → D) {acc : List D} {s : Sl} (hl : acc.length + xs.length ≤ sizeLine)
    (hs : ∀ x ∈ xs, wo (g (p x) s) fun s1 => wp c s1 fun o s2 => o = .v (q x) ∧ (q x = false → wipeS s2 vs = s) ∧ (q x = true → wp e s2 fun o s3 => o = .v (f x) ∧ wipeS s3 vs = s))
    (h1 : k (acc ++ (xs.filter q).map f) s) : wl g c e vs (xs.map p) acc s k := by
  induction xs generalizing acc with
  | nil => simp at h1; exact h1
  | cons d r ih =>
    obtain ⟨s1, e1, h⟩ := hs d (.head _)
    unfold wl
    rw [List.map_cons]
    unfold lcL
    rw [e1]
    simp only []
    unfold wp at h
    revert h
    cases hc : c s1 with
    | none => exact fun h => h.elim
    | some z =>
      obtain ⟨o, s2⟩ := z
      rintro ⟨rfl, hf, ht⟩
      simp only [List.length_cons] at hl
      cases hq : q d with
      | false =>
        simp only [hf hq]
        refine ih (by omega) (fun x hx => hs x (.tail _ hx)) ?_
        rw [List.filter_cons_of_neg (by simp [hq])] at h1
        exact h1
      | true =>
        have ht := ht hq
        revert ht
        cases he : e s2 with
        | none => exact fun h => h.elim
        | some z =>
          obtain ⟨o, s3⟩ := z
          rintro ⟨rfl, h⟩
          have hl2 : acc.length < sizeLine := by omega
          simp only [he, hl2, if_true, h]
          refine ih (acc := acc ++ [f d]) (by simp; omega) (fun x hx => hs x (.tail _ hx)) ?_
          rw [List.filter_cons_of_pos (by simp [hq])] at h1
          simpa using h1
end Fz
set_option Elab.async false
set_option linter.all false
set_option maxRecDepth 100000
set_option maxHeartbeats 2000000
namespace Fz
open PySem L2 PySem.Spec PyProof.Rows
section
variable {prog : Program} {w : World} {A : Around} {Z : Result → Shared → Prop} {E : Value → Shared → Prop} {it : Addr} {tr wr : List Addr} {n : Nat} {P : Nat → Value → Prop} {G : Nat → Heap → Prop}
abbrev dfa (it b : Addr) (d : Value) : Args := ⟨[.ref it, .none, .ref b], [("default", d)]⟩
theorem mxd_on (K : Walks prog w A.in1 it tr wr n P G) (gt : Nat → Nat → Bool) (hg : CmpOf prog w A.in1 .Gt P gt) (b : Addr) (d : Value) (hb : b ∉ tr) : ∀ (m i : Nat) (t : Shared) (u : Value) (ep : Nat), m + (i + 1) = n → G (i + 1) t.heap → P (argBest gt i) u →
    t.heap.get? b = some { cls := .type "list", dict := none, data := .seq #[u, u] ep, slots := #[] } →
    (∀ v h2 tk, P (argBest gt (n - 1)) v → (∀ a o, a ∉ wr → a ≠ b → t.heap.get? a = some o → h2.get? a = some o) → Z (.ok (.ret v)) { t with heap := h2, toks := tk }) →
    codeAny (model prog w) A (.builtin "max.loop" (dfa it b d)) Z t := by
  have nb : b ∉ wr := fun z => hb (K.sub _ z)
  have nm : (toString "max" ++ toString ".loop" : String) = "max.loop" := by decide
  intro m
  induction m with
  | zero =>
    intro i t u ep hi hG hP hB z
    have e1 : i + 1 = n := by omega
    refine codeAny_builtin F.entry_max_loop ?_
    rw [Around.under_plainId F.plain_max_loop _]
    show wpAny _ A.in1 (seqItems? (.ref b) >>= _) _ _ t
    refine wpAny_bind (wpAny_seqItems hB rfl ?_)
    show wpAny _ A.in1 (tryCatch (pyNext (.ref it)) _ >>= _) _ _ t
    refine wpAny_bind (wpAny_tryCatch (K.done t _ _ (e1 ▸ hG) fun h2 tk k2 => ?_))
    have hB2 := k2 b _ nb hB
    show wpAny _ A.in1 (updateSeq b (fun _ => #[]) >>= _) _ _ _
    refine wpAny_bind (wpAny_updateSeq hB2 rfl (wpAny_bind (wpAny_letGo (wpAny_pure ?_))))
    exact z u _ tk (by rw [← e1]; exact hP) fun a o aw ab q => (Heap.get?_update_other _ _ (Ne.symm ab)).trans (k2 a o aw q)
  | succ m ih =>
    intro i t u ep hi hG hP hB z
    have lt1 : i + 1 < n := by omega
    refine codeAny_builtin F.entry_max_loop ?_
    rw [Around.under_plainId F.plain_max_loop _]
    show wpAny _ A.in1 (seqItems? (.ref b) >>= _) _ _ t
    refine wpAny_bind (wpAny_seqItems hB rfl ?_)
    show wpAny _ A.in1 (tryCatch (pyNext (.ref it)) _ >>= _) _ _ t
    refine wpAny_bind (wpAny_tryCatch (K.item (i + 1) t _ _ lt1 hG fun v h2 tk pv g2 k2 => ?_))
    have hB2 := k2 b _ nb hB
    show wpAny _ A.in1 (tryCatch (holding [v, v] (richCompare .Gt v u >>= _)) _ >>= _) _ _ _
    refine wpAny_bind (wpAny_tryCatch (wpAny_holding (wpAny_bind (hg (i + 1) (argBest gt i) v u _ _ _ pv hP ?_))))
    refine wpAny_bind (wpAny_holding (wpAny_truthy_bool (wpAny_bind (wpAny_letGo (wpAny_pure ?_)))))
    by_cases hgt : gt (i + 1) (argBest gt i) = true
    · simp only [hgt, if_true]
      refine wpAny_bind (wpAny_updateSeq hB2 rfl (wpAny_bind (wpAny_letGo ?_)))
      rw [nm]
      refine wpAny_pure ⟨plainId_quiet F.plain_max_loop _, ih (i + 1) _ v _ (by omega) (K.frame _ _ _ g2 fun a ha o q => (Heap.get?_update_other _ _ (fun y : b = a => hb (y ▸ ha))).trans q) (by simp only [argBest, hgt, if_true]; exact pv) (Heap.get?_update_self _ hB2 rfl) fun v3 h3 tk3 p3 k3 => ?_⟩
      exact z v3 h3 tk3 p3 fun a o aw ab q => k3 a o aw ab ((Heap.get?_update_other _ _ (Ne.symm ab)).trans (k2 a o aw q))
    · simp only [hgt, if_false]
      refine wpAny_bind (wpAny_letGo ?_)
      rw [nm]
      refine wpAny_pure ⟨plainId_quiet F.plain_max_loop _, ih (i + 1) _ u ep (by omega) g2 (by simp only [argBest, hgt, if_false]; exact hP) hB2 fun v3 h3 tk3 p3 k3 => ?_⟩
      exact z v3 h3 tk3 p3 fun a o aw ab q => k3 a o aw ab (k2 a o aw q)
theorem mxd_first (K : Walks prog w A.in1 it tr wr n P G) (gt : Nat → Nat → Bool) (hg : CmpOf prog w A.in1 .Gt P gt) (b : Addr) (d : Value) (hb : b ∉ tr) {t : Shared} {ep : Nat} (hG : G 0 t.heap)
    (hB : t.heap.get? b = some { cls := .type "list", dict := none, data := .seq #[] ep, slots := #[] })
    (z : ∀ v h2 tk, (if n = 0 then v = d else P (argBest gt (n - 1)) v) → (∀ a o, a ∉ wr → a ≠ b → t.heap.get? a = some o → h2.get? a = some o) → Z (.ok (.ret v)) { t with heap := h2, toks := tk }) :
    codeAny (model prog w) A (.builtin "max.loop" (dfa it b d)) Z t := by
  have nb : b ∉ wr := fun y => hb (K.sub _ y)
  have nm : (toString "max" ++ toString ".loop" : String) = "max.loop" := by decide
  refine codeAny_builtin F.entry_max_loop ?_
  rw [Around.under_plainId F.plain_max_loop _]
  show wpAny _ A.in1 (seqItems? (.ref b) >>= _) _ _ t
  refine wpAny_bind (wpAny_seqItems hB rfl ?_)
  show wpAny _ A.in1 (tryCatch (pyNext (.ref it)) _ >>= _) _ _ t
  by_cases h0 : n = 0
  · subst h0
    refine wpAny_bind (wpAny_tryCatch (K.done t _ _ hG fun h2 tk k2 => ?_))
    have hr : ∀ {α : Type} {x : String} {m : Unit → Sem α} {Y : α → Shared → Prop} {s1 : Shared}, wpAny (model prog w) A.in1 (m ()) Y (fun e s => Z (.error e) s) s1 → wpAny (model prog w) A.in1 (rule x >>= m) Y (fun e s => Z (.error e) s) s1 := fun h => wpAny_bind (wpAny_rule h)
    refine hr (wpAny_pure ?_)
    exact z d h2 tk rfl fun a o aw _ q => k2 a o aw q
  · refine wpAny_bind (wpAny_tryCatch (K.item 0 t _ _ (by omega) hG fun v h2 tk pv g2 k2 => ?_))
    have hB2 := k2 b _ nb hB
    show wpAny _ A.in1 (updateSeq b (fun _ => #[v, v]) >>= _) _ _ _
    refine wpAny_bind (wpAny_updateSeq hB2 rfl ?_)
    rw [nm]
    refine wpAny_pure ⟨plainId_quiet F.plain_max_loop _, mxd_on K gt hg b d hb (n - 1) 0 _ v _ (by omega) (K.frame _ _ _ g2 fun a ha o q => (Heap.get?_update_other _ _ (fun y : b = a => hb (y ▸ ha))).trans q) pv (Heap.get?_update_self _ hB2 rfl) fun v3 h3 tk3 p3 k3 => ?_⟩
    exact z v3 h3 tk3 (by rw [if_neg h0]; exact p3) fun a o aw ab q => k3 a o aw ab ((Heap.get?_update_other _ _ (Ne.symm ab)).trans (k2 a o aw q))
theorem maxd_args (x d : Value) : argsOk "max" ⟨[x], [("default", d)]⟩ := by unfold argsOk; kernel_rfl
theorem call_maxd {t : Shared} {x d : Value} {Q : Value → Shared → Prop}
    (h : wpAny (model prog w) A.in1 (pyIter x) (fun i t2 => ∃ it tr wr n P G gt, i = .ref it ∧ Walks prog w A.in1 it tr wr n P G ∧ G 0 t2.heap ∧ (∀ a ∈ tr, a < t2.heap.objs.size) ∧ CmpOf prog w A.in1 .Gt P gt ∧
      ∀ v h2 tk, (if n = 0 then v = d else P (argBest gt (n - 1)) v) → (∀ a o, a ∉ wr → t2.heap.get? a = some o → h2.get? a = some o) → Q v { t2 with heap := h2, toks := tk }) E t) :
    wpAny (model prog w) A (call (.builtin "max") [x] [("default", d)]) Q E t := by
  have nm : (toString "max" ++ toString ".loop" : String) = "max.loop" := by decide
  have hk := maxd_args x d
  refine wpAny_call (codeAny_call_builtin F.plain_max F.entry_max ?_)
  have tree : wpAny (model prog w) A.in1 (Builtin.«max» ⟨[x], [("default", d)]⟩) (fun fin s2 => match fin with
      | .done f => (match (Except.ok f : Result) with | .ok (.ret v) => Q v s2 | .ok _ => False | .error e => E e s2)
      | .again c2 => c2.quiet = true ∧ codeAny (model prog w) A c2 (fun r s2 => match r with | .ok (.ret v) => Q v s2 | .ok _ => False | .error e => E e s2) s2) E t := by
    show wpAny _ A.in1 (Builtin.Builtins.bindParams "max" ["key", "default"] 0 ⟨[], [("default", d)]⟩ >>= _) _ _ t
    refine wpAny_bind (wpAny_of_eq (show Builtin.Builtins.bindParams "max" ["key", "default"] 0 ⟨[], [("default", d)]⟩ = pure [none, some d] by kernel_rfl) ?_)
    refine wpAny_bind (wpAny_pure (wpAny_bind (wpAny_mono h (fun i t2 q => ?_) fun _ _ e => e)))
    obtain ⟨it, tr, wr, n, P, G, gt, rfl, K, g0, low, cm, z⟩ := q
    refine wpAny_bind (wpAny_newObj_type ?_)
    have fresh : t2.heap.objs.size ∉ tr := fun y => Nat.lt_irrefl _ (low _ y)
    rw [nm]
    refine wpAny_pure ⟨plainId_quiet F.plain_max_loop _, mxd_first K gt cm t2.heap.objs.size d fresh (K.frame _ _ _ g0 fun a _ o q => Heap.get?_push_of_some _ q) (Heap.get?_push_size _ rfl) fun v h2 tk pv k2 => ?_⟩
    exact z v h2 tk pv fun a o aw q => k2 a o aw (Nat.ne_of_lt (Heap.lt_size q)) (Heap.get?_push_of_some _ q)
  simp only [checkBuiltinCall, F.kind_max]
  cases hs : Manifest.signature? "max" with
  | none => exact wpAny_pure tree
  | some sg =>
    simp only [argsOk, hs] at hk
    have h2 : Bind.checkArgs "max" sg ⟨[x], [("default", d)]⟩ = pure () := hk
    show wpAny _ A.in1 (Bind.checkArgs "max" sg ⟨[x], [("default", d)]⟩) _ _ t
    rw [h2]; exact wpAny_pure tree
end
def maxOf (i : Int) : List Int → Int
  | [] => i
  | a :: r => r.foldl max a
theorem maxOf_of {i m : Int} {ns : List Int} (h1 : m ∈ ns) (h2 : ∀ y ∈ ns, y ≤ m) : maxOf i ns = m := by
  have gen : ∀ (r : List Int) (a : Int), (m = a ∨ m ∈ r) → a ≤ m → (∀ y ∈ r, y ≤ m) → r.foldl max a = m := by
    intro r
    induction r with
    | nil => intro a h _ _; rcases h with h | h; exact h.symm; cases h
    | cons b r ih =>
      intro a h ha hr
      rw [List.foldl_cons]
      have hb := hr b (.head _)
      refine ih (max a b) ?_ (by omega) fun y hy => hr y (.tail _ hy)
      rcases h with h | h
      · left; omega
      · rcases List.mem_cons.mp h with h | h
        · left; omega
        · exact .inr h
  cases ns with
  | nil => cases h1
  | cons a r => exact gen r a (by rcases List.mem_cons.mp h1 with h | h; exact .inl h; exact .inr h) (h2 a (.head _)) fun y hy => h2 y (.tail _ hy)
def rMaxD (K : PySem.W.Frag) : List V → List V → Hp → VK → Prop := fun xs zs H Q => ∃ (a : Addr) (ns : List Int) (i : Int), xs = [.ref a] ∧ zs = [.int i] ∧ SqL K H a (ns.map V.int) ∧ Q (.int (maxOf i ns)) H
theorem cr_maxd {X : Cx} (hc : X.calm = true) : CallRK X (.builtin "max") ["default"] (rMaxD X.K) := by
  intro pins s σ H xs zs us ws Q I r r2 h
  obtain ⟨a, ns, i, rfl, rfl, hs, q⟩ := h
  obtain ⟨its, rv, hl, _⟩ := I.list hs
  rw [Vals.ref1 r]
  obtain ⟨u, rfl, t, rfl⟩ := vals1 r2
  have hi := rv.ints
  obtain ⟨xs, e⟩ := hi.allInts.items
  have hn : numsOf (intItems xs).toList = ns := by rw [← e]; exact hi.numsOf
  rw [nums_intItems] at hn
  subst hn
  have hl := hl.isList
  rw [e] at hl
  show wpAny _ _ (call (.builtin "max") [.ref a] [("default", .int i t)]) _ _ _
  refine call_maxd (iter_intList hl fun t2 e2 st hf hlI => ?_)
  subst e2
  refine ⟨_, _, _, _, _, _, _, rfl, Walks.list (A := X.A.in1) (I.ok.hd hc) _ a hlI (intItems xs), st, hf, CmpOf.ints_gt (numAt xs) (fun _ _ => intItems_at), fun v h2 tk pv hk => ?_⟩
  have hk := old_kept hk
  by_cases h0 : (intItems xs).size = 0
  · rw [if_pos h0] at pv
    subst pv
    have hz : xs.size = 0 := by simpa [intItems] using h0
    have : (xs.toList.map Prod.fst) = [] := by
      have : xs = #[] := Array.eq_empty_of_size_eq_zero hz
      rw [this]; rfl
    rw [this] at q
    exact ⟨.int i, H, I.kept hk, ⟨_, rfl⟩, q⟩
  · rw [if_neg h0] at pv
    have hsz : (intItems xs).size = xs.size := by simp [intItems]
    have hp : 0 < xs.size := by omega
    have hv : (intItems xs)[argBest (fun i j => decide (numAt xs i > numAt xs j)) (xs.size - 1)]? = some v := by rw [← hsz]; exact pv
    obtain ⟨t3, rfl⟩ := intItems_at hv
    obtain ⟨h1, h3⟩ := argBest_gt (numAt xs) (xs.size - 1)
    refine ⟨.int (numAt xs (argBest (fun i j => decide (numAt xs i > numAt xs j)) (xs.size - 1))), H, I.kept hk, ⟨_, rfl⟩, ?_⟩
    rw [maxOf_of (m := numAt xs (argBest (fun i j => decide (numAt xs i > numAt xs j)) (xs.size - 1)))] at q
    · exact q
    · rw [numAt_eq]; exact PySem.getD_mem (by rw [List.length_map, Array.length_toList]; omega)
    · intro y hy
      obtain ⟨j, hj, rfl⟩ := mem_getD hy
      rw [List.length_map, Array.length_toList] at hj
      rw [← numAt_eq]; exact h3 j (by omega)
def dInts : List D → Option (List Int)
  | [] => some []
  | .int i :: ds => (dInts ds).map (i :: ·)
  | _ => none
theorem dInts_v {T : Tab} {B : Hp} : ∀ {ds : List D} {ns : List Int} {vs : List V}, dInts ds = some ns → Reps T B ds vs → vs = ns.map V.int
  | [], ns, vs, h, r => by cases h; unfold Reps at r; exact r
  | d :: ds, ns, vs, h, r => by
    cases d with
    | int i =>
      have h : (dInts ds).map (i :: ·) = some ns := h
      unfold Reps at r
      obtain ⟨v, us, rfl, r1, r2⟩ := r
      cases e2 : dInts ds with
      | none => rw [e2] at h; cases h
      | some ns2 =>
        rw [e2] at h; cases h
        cases rep_int r1
        rw [dInts_v e2 r2]; rfl
    | _ => cases h
theorem dInts_map : ∀ ns : List Int, dInts (ns.map D.int) = some ns
  | [] => rfl
  | n :: r => by show (dInts (r.map D.int)).map _ = _; rw [dInts_map r]; rfl
def dSum : List D → Option D
  | [.lst xs] => (dInts xs).map fun ns => .int ns.sum
  | _ => none
def dMax2 : List D → Option D
  | [.int i, .int j] => some (.int (max i j))
  | _ => none
theorem p_max2 {T : Tab} : PrimN T (fun xs H Q => ∃ i j, xs = [V.int i, V.int j] ∧ Q (.int (if j > i then j else i)) H) dMax2 := by
  intro xs z vs B H Q e hx hz k
  unfold dMax2 at hz
  split at hz
  · rename_i i j
    cases hz
    obtain ⟨v, u, rfl, r1, r2⟩ := reps2 hx
    cases rep_int r1
    cases rep_int r2
    refine ⟨i, j, rfl, ?_⟩
    have : (if j > i then j else i) = max i j := by split <;> omega
    rw [this]
    exact k _ B H (.refl e) rfl
  · cases hz
def eMaxD (fa : M (List D)) (fb : M D) : M D := bnd fa fun xs => bnd fb fun y => opt (match xs, y with
  | [.lst xs], .int i => (dInts xs).map fun ns => .int (maxOf i ns)
  | _, _ => none)
def dIsc (tab : Nat → Option Bool) : D → Option D
  | .obj c _ => (tab c).map .bl
  | _ => none
structure InsOk (K : PySem.W.Frag) (C : Addr) : Prop where
  ha : PySem.W.findIn K (.ref C) "__class__" = some (some (.builtin "object.__class__"))
  hn : PySem.W.specialIn K (.builtin "object.__class__") "__get__" = some (some (.builtin "getset_descriptor.__get__"))
  htk : PySem.W.takesIn K (.builtin "object.__class__") = some true
  hm : PySem.W.mroIn K C (.type "object") = some true
theorem insOk_of {x : Str} {K : PySem.W.Frag} (h : insB x K = true) (g : insG K = true) : InsOk K (He.ga K x) := by
  obtain ⟨h1, h2⟩ := He.ba h
  obtain ⟨g1, g2⟩ := He.ba g
  exact ⟨He.eqO_ok h1, He.eqO_ok g1, eq_of_beq g2, eq_of_beq h2⟩
def GIs (T : Tab) (S : Nat) (tab : Nat → Option Bool) : Prop := ∀ c b, tab c = some b → Cls T.K (T.cls c) ∧ InsOk T.K (T.cls c) ∧ PySem.W.kitOne T.K (.ref (T.cls c)) (.ref (T.cls S)) = some b
section
variable {ι : Type} {T : Tab} {E : L2.St → XK} {X : ι → Cx} {kp : Nat → Bool} {pos apos : Pos} {e a b c o : Expr} {es : List Expr} {fa fb fc : M D} {fs : M (List D)} {fl : M (List Arg)} {r : M R} {x m : Str} {te ta : TE} {t : TA}
theorem xe_max2 {e2 : Expr} {p : Pos} (hm : ∀ j, (X j).mg "max" = none) (ha : XA T E X [e, e2] fs) (hc : ∀ j, (X j).calm = true := by intro j; rfl) (hg : ∀ j, Gl (X j) "max" := by intro j; rfl) (he : ∀ j, starEach [e, e2] (X j).env = (false, eval e (X j).env) :: starEach [e2] (X j).env := by intro j; rfl) (hpl : ∀ j, (backTo pos (starEach [e2] (X j).env)).any (·.1) = false := by intro j; rfl) : XE T E X (.Call (.Name "max" p) [e, e2] [] pos) (eOp dMax2 fs) :=
  xe_callB (fun j => call_max2 (hc j)) p_max2 hm (by decide +kernel) ha hg (by decide +kernel) (by decide +kernel) he hpl
theorem semE_maxd {ta : TA} {tb : TE} (ha : SemA T E ta fs) (hb : SemE T E tb fb) : SemE T E (tCKw (rMaxD T.K) ta (tCons tb tNil)) (eMaxD fs fb) := by
  intro st σ B F H S o s h Q hQ
  refine okx_bnd h hQ (fun o1 s1 e1 q => ha st σ B F H S o1 s1 e1 _ q) fun xs s1 B1 H1 _ h2 e1 S1 hQ1 vs hvs => ?_
  refine okx_bnd h2 hQ1 (fun o1 s2 e2 q => hb s1 σ B1 F H1 S1 o1 s2 e2 _ q) fun y s2 B2 H2 _ h3 e2 S2 hQ2 u hu => ?_
  obtain ⟨z, hz, rfl, rfl⟩ := opt_some h3
  have hvs := Reps.mono e2 xs hvs
  match xs, y, hz, hvs, hu with
  | [.lst ys], .int i, hz, hvs, hu =>
    have hz : (dInts ys).map (fun ns => D.int (maxOf i ns)) = some z := hz
    cases hi : dInts ys with
    | none => rw [hi] at hz; cases hz
    | some ns =>
      rw [hi] at hz; cases hz
      obtain ⟨v, rfl, r⟩ := reps1 hvs
      unfold Rep at r
      obtain ⟨a, us, rfl, t1, r1⟩ := r
      cases dInts_v hi r1
      cases rep_int hu
      exact ⟨a, ns, i, rfl, rfl, S2.exB.sqL t1, hQ2 B2 H2 (Ex.refl _) S2 _ rfl⟩
theorem xe_maxd {p kpos : Pos} (hm : ∀ j, (X j).mg "max" = none) (ha : XA T E X [e] fs) (hb : XE T E X b fb) (hc : ∀ j, (X j).calm = true := by intro j; rfl) (hK : ∀ j, (X j).K = T.K := by intro j; rfl) (hg : ∀ j, Gl (X j) "max" := by intro j; rfl)
    (he : ∀ j, backTo pos (starEach [e] (X j).env) = (false, eval e (X j).env) :: backTo pos (starEach [] (X j).env) := by intro j; rfl) (hpl : ∀ j, (backTo pos (starEach [e] (X j).env)).any (·.1) = false := by intro j; rfl)
    (hall : ∀ j, (backToKw pos (keywordEach [⟨some "default", b, kpos⟩] (X j).env)).all (·.1.isSome) = true := by intro j; rfl) (hnone : ∀ j, (backToKw pos (keywordEach [⟨some "default", b, kpos⟩] (X j).env)).any (·.1.isNone) = false := by intro j; rfl) (hks : ∀ j, (backToKw pos (keywordEach [⟨some "default", b, kpos⟩] (X j).env)).filterMap (·.1) = (["default"] : List Str) := by intro j; rfl) :
    XE T E X (.Call (.Name "max" p) [e] [⟨some "default", b, kpos⟩] pos) (eMaxD fs fb) :=
  let ⟨_, a1, a2⟩ := ha; let ⟨_, b1, b2⟩ := hb
  ⟨_, fun j => by rw [← hK j]; exact pe_callBK (cr_maxd (hc j)) (hg j) (hm j) (by decide +kernel) (a1 j) (pk_cons (b1 j) pk_nil) (by decide +kernel) (by decide +kernel) (he j) (hpl j) (hall j) (hnone j) (hks j), semE_maxd a2 b2⟩
theorem semE_isc {S : Nat} {tab : Nat → Option Bool} (hi : GIs T S tab) (ha : SemE T E te fa) : SemE T E (tCB (rIsi T.K) (tCons te (tCons (tC (.ref (T.cls S))) tNil))) (eUn (dIsc tab) fa) := by
  intro st σ B F H S0 o s h Q hQ
  refine okx_bnd h hQ (fun o1 s1 e1 q => ha st σ B F H S0 o1 s1 e1 _ q) fun a s1 B1 H1 _ h2 e1 S1 hQ1 v hv => ?_
  obtain ⟨z, hz, rfl, rfl⟩ := opt_some h2
  match a, hz, hv with
  | .obj cc fs2, hz, hv =>
    have hz : (tab cc).map D.bl = some z := hz
    cases ht : tab cc with
    | none => rw [ht] at hz; cases hz
    | some bb =>
      rw [ht] at hz; cases hz
      obtain ⟨cl, io, hk⟩ := hi cc bb ht
      unfold Rep at hv
      obtain ⟨a, dx, fvs, rfl, h3, _⟩ := hv
      exact ⟨.ref a, .ref (T.cls S), .ref (T.cls cc), .ref (T.cls S), _, rfl, .own _, .base (.ins (S1.exB a _ h3) cl io.ha io.hn io.htk io.hm), hk, hQ1 B1 H1 (Ex.refl _) S1 _ rfl⟩
theorem xe_isc {S : Nat} {tab : Nat → Option Bool} {cx : Str} {p p2 : Pos} (hi : GIs T S tab) (hm : ∀ j, (X j).mg "isinstance" = none) (hm2 : ∀ j, (X j).mg cx = some (.ref (T.cls S))) (ha : XE T E X e fa) (hK : ∀ j, (X j).K = T.K := by intro j; rfl)
    (hg : ∀ j, Gl (X j) "isinstance" := by intro j; rfl) (hg2 : ∀ j, Gl (X j) cx := by intro j; rfl) (hdb2 : (cx == ("__debug__" : Str)) = false := by decide +kernel)
    (hs1 : ∀ j, starEach [e, .Name cx p2] (X j).env = (false, eval e (X j).env) :: starEach [.Name cx p2] (X j).env := by intro j; rfl) (hs2 : ∀ j, starEach [.Name cx p2] (X j).env = (false, eval (.Name cx p2) (X j).env) :: starEach [] (X j).env := by intro j; rfl)
    (hpl : ∀ j, (backTo pos (starEach [.Name cx p2] (X j).env)).any (·.1) = false := by intro j; rfl) : XE T E X (.Call (.Name "isinstance" p) [e, .Name cx p2] [] pos) (eUn (dIsc tab) fa) :=
  let ⟨_, a1, a2⟩ := ha
  ⟨_, fun j => pe_callB (by rw [← hK j]; exact call_isi) (hg j) (hm j) (by decide +kernel) (pa_cons (a1 j) (pa_cons (pe_glob (v := .ref (T.cls S)) (hg2 j) (hm2 j) rfl hdb2) pa_nil (hs2 j)) (hs1 j)) (by decide +kernel) (by decide +kernel) (hs1 j) (hpl j), semE_isc hi a2⟩
end
end Fz
set_option Elab.async false
set_option linter.all false
set_option maxRecDepth 100000
set_option maxHeartbeats 2000000
namespace Fz
open PySem L2
def eVarO (n : Nat → Nat) (i : Nat) : M D := fun st => match st[i]? with
  | some (some r) => if wholeB n r = true then some (.v (vw r), st.set i (some (.d (vw r)))) else none
  | _ => none
theorem semE_varO {T : Tab} {E : L2.St → XK} {i : Nat} : SemE T E (tVar i) (eVarO (fun c => (T.flds c).length) i) := by
  intro st σ B F H S o s h Q hQ
  unfold eVarO at h
  split at h
  · rename_i r hi
    split at h
    · rename_i hw
      cases h
      obtain ⟨v, hv, _⟩ := S.rel i _ hi
      obtain ⟨B1, e1, S1, hr⟩ := S.freeze hi (whole_of hw)
      exact ⟨v, hv, hQ B1 H e1 S1 v (hr v hv)⟩
    · cases h
  · cases h
theorem xe_varO {ι : Type} {T : Tab} {E : L2.St → XK} {X : ι → Cx} {x : Str} {pos : Pos} (i : Nat) (hN : ∀ j, (X j).N[i]? = some x := by intro j; rfl) (hv : ∀ j, Vis (X j).env.scope x := by intro j; first | exact Or.inl rfl | exact Or.inr (Or.inl rfl) | exact Or.inr (Or.inr rfl))
    (hd : (x == ("__debug__" : Str)) = false := by decide +kernel) (hcd : (x == ("__classdict__" : Str)) = false := by decide +kernel) : XE T E X (.Name x pos) (eVarO (fun c => (T.flds c).length) i) := ⟨_, fun j => pe_var (hN j) (hv j) hd hcd, semE_varO⟩
def vro (n : Nat → Nat) (o : Option (Option R)) (i : Nat) (st : Sl) (Q : Oc D → Sl → Prop) : Prop := match o with
  | some (some r) => wc (wholeB n r = true) (ku Q (vw r) (stt st i (some (.d (vw r)))))
  | _ => False
theorem vro_r {n : Nat → Nat} {r : R} {i : Nat} {st : Sl} {Q : Oc D → Sl → Prop} : vro n (some (some r)) i st Q = wc (wholeB n r = true) (ku Q (vw r) (stt st i (some (.d (vw r))))) := rfl
theorem n_eVarO {n : Nat → Nat} {i : Nat} {st : Sl} {Q : Oc D → Sl → Prop} : wp (eVarO n i) st Q = vro n (gt st i) i st Q := by
  unfold wp eVarO vro
  rw [gt_eq]
  cases gt st i with
  | none => rfl
  | some o => cases o with
    | none => rfl
    | some r =>
      simp only [wc, wa, ku, stt_eq]
      by_cases h : wholeB n r = true
      · simp [h]
      · simp [h]
theorem e_tyl {xs : List D} : tyOk "list" (.lst xs) = true := rfl
theorem wd_krn {b : Bool} {Q : Oc D → Sl → Prop} {s : Sl} : wd b (krn Q s) = Q (.v (.bl !b)) s := rfl
def dMaxD (xs : List D) (y : D) : Option D := match xs, y with
  | [.lst xs], .int i => (dInts xs).map fun ns => .int (maxOf i ns)
  | _, _ => none
theorem dMaxD_i {xs : List D} {i : Int} : dMaxD [.lst xs] (.int i) = (dInts xs).map fun ns => .int (maxOf i ns) := rfl
def kMx2 (xs : List D) (Q : Oc D → Sl → Prop) : Oc D → Sl → Prop := vx Q fun y s => wo (dMaxD xs y) (kr Q s)
theorem kMx2_v (xs : List D) (Q : Oc D → Sl → Prop) (y : D) (s : Sl) : kMx2 xs Q (.v y) s = wo (dMaxD xs y) (kr Q s) := rfl
def kMx1 (fb : M D) (Q : Oc D → Sl → Prop) : Oc (List D) → Sl → Prop := vx Q fun xs s => wp fb s (kMx2 xs Q)
theorem kMx1_v (fb : M D) (Q : Oc D → Sl → Prop) (xs : List D) (s : Sl) : kMx1 fb Q (.v xs) s = wp fb s (kMx2 xs Q) := rfl
theorem n_eMaxD {st : Sl} {fa : M (List D)} {fb : M D} {Q : Oc D → Sl → Prop} : wp (eMaxD fa fb) st Q = wp fa st (kMx1 fb Q) := by
  unfold eMaxD
  rw [wp_bnd]
  refine congrArg _ ?_
  funext o s
  cases o with
  | x c => rfl
  | v xs =>
    show wp (bnd fb _) s Q = wp fb s (kMx2 xs Q)
    rw [wp_bnd]
    refine congrArg _ ?_
    funext o s
    cases o with
    | x c => rfl
    | v y => exact wp_opt
theorem dSum_i {xs : List D} : dSum [.lst xs] = (dInts xs).map fun ns => .int ns.sum := rfl
theorem dInts_nil : dInts [] = some [] := rfl
theorem dInts_cons {i : Int} {xs : List D} : dInts (.int i :: xs) = (dInts xs).map (i :: ·) := rfl
theorem maxOf_nil {i : Int} : maxOf i [] = i := rfl
theorem maxOf_one {i a : Int} : maxOf i [a] = a := rfl
theorem maxOf_two {i a b : Int} : maxOf i [a, b] = max a b := rfl
theorem dMax2_i {i j : Int} : dMax2 [.int i, .int j] = some (.int (max i j)) := rfl
theorem isc_o {tab : Nat → Option Bool} {c : Nat} {fs : List D} : dIsc tab (.obj c fs) = (tab c).map .bl := rfl
theorem e_slt1 {x : D} {xs : List D} : dSl (.tup (x :: xs)) (some 1) none = some (.tup xs) := by
  show some (D.tup (cutD (x :: xs) (some 1) none)) = _
  unfold cutD
  have h : HT.sIx (x :: xs).length 0 (some (1 : Int)) = 1 := by
    have := HT.sIx_nat (x :: xs).length 0 1
    simpa using this
  rw [h, HT.sIx_none]
  simp
theorem cast0 : ((0 : Nat) : Int) = 0 := rfl
theorem cast1 : ((1 : Nat) : Int) = 1 := rfl
theorem cast2 : ((2 : Nat) : Int) = 2 := rfl
theorem cast3 : ((3 : Nat) : Int) = 3 := rfl
theorem isT {b : Bool} : dIs (.bl b) (.bl true) = some (.bl b) := by cases b <;> rfl
end Fz
set_option Elab.async false
set_option linter.all false
set_option maxRecDepth 100000
set_option maxHeartbeats 2000000
namespace Fz
open PySem L2
end Fz
set_option Elab.async false
set_option linter.all false
set_option maxRecDepth 100000
set_option maxHeartbeats 2000000
namespace Fz
open PySem L2 PySem.Spec PyProof.Rows
def dStrs : List D → Option (List Str)
  | [] => some []
  | .str s :: ds => (dStrs ds).map (s :: ·)
  | _ => none
theorem dStrs_map : ∀ ss : List Str, dStrs (ss.map D.str) = some ss
  | [] => rfl
  | s :: r => by show (dStrs (r.map D.str)).map _ = _; rw [dStrs_map r]; rfl
theorem dStrs_v {T : Tab} {B : Hp} : ∀ {ds : List D} {ss : List Str} {vs : List V}, dStrs ds = some ss → Reps T B ds vs → vs = ss.map V.str ∧ ∀ s ∈ ss, PyData.strOk s = true
  | [], ss, vs, h, r => by cases h; unfold Reps at r; exact ⟨r, fun _ h => by cases h⟩
  | d :: ds, ss, vs, h, r => by
    cases d with
    | str s =>
      have h : (dStrs ds).map (s :: ·) = some ss := h
      unfold Reps at r
      obtain ⟨v, us, rfl, r1, r2⟩ := r
      cases e2 : dStrs ds with
      | none => rw [e2] at h; cases h
      | some ss2 =>
        rw [e2] at h; cases h
        obtain ⟨rfl, ok⟩ := rep_str r1
        obtain ⟨rfl, ok2⟩ := dStrs_v e2 r2
        exact ⟨rfl, fun x hx => by rcases List.mem_cons.mp hx with rfl | hx; exact ok; exact ok2 x hx⟩
    | _ => cases h
def sLe (a b : Str) : Bool := !ltCps b.cps.toList a.cps.toList
theorem sLe_iff {a b : Str} : sLe a b = true ↔ ¬ b.cps.toList < a.cps.toList := by
  unfold sLe
  rw [ltCps_eq]
  simp
theorem str_ext {a b : Str} (h : a.cps.toList = b.cps.toList) : a = b := by
  cases a; cases b; simp at h; rw [h]
theorem sLe_antisymm {a b : Str} (h : sLe a b = true) (g : sLe b a = true) : a = b := by
  rw [sLe_iff] at h g
  exact str_ext (Std.le_antisymm (List.not_lt.mp h) (List.not_lt.mp g))
theorem sLe_trans {a b c : Str} (h : sLe a b = true) (g : sLe b c = true) : sLe a c = true := by
  rw [sLe_iff] at h g ⊢
  exact List.not_lt.mpr (Std.le_trans (List.not_lt.mp h) (List.not_lt.mp g))
theorem sLe_total (a b : Str) : (sLe a b || sLe b a) = true := by
  rw [Bool.or_eq_true, sLe_iff, sLe_iff, List.not_lt, List.not_lt]
  exact Std.le_total
def ssort (l : List Str) : List Str := l.mergeSort sLe
theorem ssort_perm (l : List Str) : (ssort l).Perm l := List.mergeSort_perm l sLe
theorem ssort_sorted (l : List Str) : (ssort l).Pairwise (fun a b => sLe a b = true) := List.pairwise_mergeSort (le := sLe) (fun _ _ _ h g => sLe_trans h g) (fun a b => sLe_total a b) l
theorem rising_pw : ∀ (l : List Str) (p : Str), risingS p l = true → (p :: l).Pairwise (fun a b => sLe a b = true)
  | [], p, _ => by simp
  | x :: r, p, h => by
    have h : (sLe p x && risingS x r) = true := h
    obtain ⟨h1, h2⟩ := (Bool.and_eq_true _ _).mp h
    have ih := rising_pw r x h2
    refine List.pairwise_cons.mpr ⟨fun y hy => ?_, ih⟩
    rcases List.mem_cons.mp hy with rfl | hy
    · exact h1
    · exact sLe_trans h1 ((List.pairwise_cons.mp ih).1 y hy)
theorem sortedS_pw {l : List Str} (h : sortedS l = true) : l.Pairwise (fun a b => sLe a b = true) := by
  cases l with
  | nil => exact .nil
  | cons x r => exact rising_pw r x h
theorem pw_unique : ∀ {a b : List Str}, a.Perm b → a.Pairwise (fun a b => sLe a b = true) → b.Pairwise (fun a b => sLe a b = true) → a = b
  | [], b, p, _, _ => (List.nil_perm.mp p).symm
  | x :: r, b, p, ha, hb => by
    cases b with
    | nil => exact absurd p.length_eq (by simp)
    | cons y s =>
      have hx : x ∈ y :: s := p.mem_iff.mp (.head _)
      have hy : y ∈ x :: r := p.mem_iff.mpr (.head _)
      have e : x = y := by
        rcases List.mem_cons.mp hx with h | h
        · exact h
        · rcases List.mem_cons.mp hy with g | g
          · exact g.symm
          · exact sLe_antisymm ((List.pairwise_cons.mp ha).1 y g) ((List.pairwise_cons.mp hb).1 x h)
      subst e
      rw [pw_unique (List.Perm.cons_inv p) (List.pairwise_cons.mp ha).2 (List.pairwise_cons.mp hb).2]
theorem ssort_of {a b : List Str} (p : a.Perm b) (h : a.Pairwise (fun a b => sLe a b = true)) : a = ssort b := pw_unique (p.trans (ssort_perm b).symm) h (ssort_sorted b)
def gSorted : List D → Option (List D)
  | [.lst xs] => (dStrs xs).bind fun ss => if ss.length < 64 then some ((ssort ss).map D.str) else none
  | _ => none
theorem p_sorted {T : Tab} : PrimL T (rSortedS T.K) gSorted := by
  intro xs zs vs B H Q e hx hz k
  unfold gSorted at hz
  split at hz
  · rename_i ys
    cases hb : dStrs ys with
    | none => rw [hb] at hz; cases hz
    | some ss =>
      rw [hb] at hz
      have hz : (if ss.length < 64 then some ((ssort ss).map D.str) else none) = some zs := hz
      split at hz
      · rename_i hl
        cases hz
        obtain ⟨v, rfl, r⟩ := reps1 hx
        unfold Rep at r
        obtain ⟨a, us, rfl, t1, r1⟩ := r
        obtain ⟨rfl, ok⟩ := dStrs_v hb r1
        refine ⟨a, ss, rfl, e.sqL t1, hl, fun out p hp hs hn => ?_⟩
        have ho := ssort_of hp (sortedS_pw hs)
        subst ho
        exact k p _ B H (.refl e) hn (reps_strs fun s hs => ok s ((ssort_perm ss).mem_iff.mp hs))
      · cases hz
  · cases hz
def dMax1 : List D → Option D
  | [.lst xs] => (dInts xs).bind fun ns => if 0 < ns.length then some (.int (maxOf 0 ns)) else none
  | _ => none
theorem p_max1 {T : Tab} : PrimN T (rMax T.K) dMax1 := by
  intro xs z vs B H Q e hx hz k
  unfold dMax1 at hz
  split at hz
  · rename_i ys
    cases hb : dInts ys with
    | none => rw [hb] at hz; cases hz
    | some ns =>
      rw [hb] at hz
      have hz : (if 0 < ns.length then some (D.int (maxOf 0 ns)) else none) = some z := hz
      split at hz
      · rename_i hl
        cases hz
        obtain ⟨v, rfl, r⟩ := reps1 hx
        unfold Rep at r
        obtain ⟨a, us, rfl, t1, r1⟩ := r
        cases dInts_v hb r1
        refine ⟨a, ns, rfl, e.sqL t1, hl, fun m h1 h2 => ?_⟩
        rw [maxOf_of h1 h2] at k
        exact k _ B H (.refl e) rfl
      · cases hz
  · cases hz
section
variable {ι : Type} {T : Tab} {E : L2.St → XK} {X : ι → Cx} {kp : Nat → Bool} {pos apos : Pos} {e a b c o : Expr} {es : List Expr} {fa fb fc : M D} {fs : M (List D)}
theorem xr_sorted {p : Pos} (hm : ∀ j, (X j).mg "sorted" = none) (ha : XA T E X [e] fs) (hK : ∀ j, (X j).K = T.K := by intro j; rfl) (hg : ∀ j, Gl (X j) "sorted" := by intro j; rfl) (he : ∀ j, starEach [e] (X j).env = (false, eval e (X j).env) :: starEach [] (X j).env := by intro j; rfl) (hpl : ∀ j, (backTo pos (starEach [] (X j).env)).any (·.1) = false := by intro j; rfl) : XR T E X (.Call (.Name "sorted" p) [e] [] pos) (rOp gSorted fs) :=
  xr_callB (fun j => by rw [← hK j]; exact cr_sortedS) p_sorted hm (by decide +kernel) ha hg (by decide +kernel) (by decide +kernel) he hpl
theorem xe_max1 {p : Pos} (hm : ∀ j, (X j).mg "max" = none) (ha : XA T E X [e] fs) (hc : ∀ j, (X j).calm = true := by intro j; rfl) (hK : ∀ j, (X j).K = T.K := by intro j; rfl) (hg : ∀ j, Gl (X j) "max" := by intro j; rfl) (he : ∀ j, starEach [e] (X j).env = (false, eval e (X j).env) :: starEach [] (X j).env := by intro j; rfl) (hpl : ∀ j, (backTo pos (starEach [] (X j).env)).any (·.1) = false := by intro j; rfl) : XE T E X (.Call (.Name "max" p) [e] [] pos) (eOp dMax1 fs) :=
  xe_callB (fun j => by rw [← hK j]; exact cr_max (hc j)) p_max1 hm (by decide +kernel) ha hg (by decide +kernel) (by decide +kernel) he hpl
end
end Fz
set_option Elab.async false
set_option linter.all false
set_option maxRecDepth 100000
set_option maxHeartbeats 2000000
namespace Fz
open PySem L2
def mkE (c nf : Nat) (Q : Oc R → Sl → Prop) : Oc R → Sl → Prop
  | .v (.d .non), some (.oi c2 fs) :: s => wc (c2 = c ∧ fs.length = nf) (ku Q (.oi c fs) s)
  | .x k, _ :: s => Q (.x k) s
  | _, _ => False
theorem mkE_v {c nf c2 : Nat} {Q : Oc R → Sl → Prop} {fs : List D} {s : Sl} : mkE c nf Q (.v (.d .non)) (some (.oi c2 fs) :: s) = wc (c2 = c ∧ fs.length = nf) (ku Q (.oi c fs) s) := rfl
def kMkU (c nf : Nat) (F : Fn) (as : List Arg) (Q : Oc R → Sl → Prop) (s : Sl) : Unit → Prop := fun _ => wp (callF F (.o 0 :: as.map upA)) (some (.oi c []) :: s) (mkE c nf Q)
theorem kMkU_a {c nf : Nat} {F : Fn} {as : List Arg} {Q : Oc R → Sl → Prop} {s : Sl} : kMkU c nf F as Q s () = wp (callF F (.o 0 :: as.map upA)) (some (.oi c []) :: s) (mkE c nf Q) := rfl
def kMk (c nf n : Nat) (F : Fn) (Q : Oc R → Sl → Prop) : Oc (List Arg) → Sl → Prop := vx Q fun as s => wc (as.length + 1 = n) (kMkU c nf F as Q s)
theorem kMk_v {c nf n : Nat} {F : Fn} {Q : Oc R → Sl → Prop} {as : List Arg} {s : Sl} : kMk c nf n F Q (.v as) s = wc (as.length + 1 = n) (kMkU c nf F as Q s) := rfl
theorem n_rMake {c nf n : Nat} {F : Fn} {fl : M (List Arg)} {st : Sl} {Q : Oc R → Sl → Prop} : wp (rMake c nf n F fl) st Q = wp fl st (kMk c nf n F Q) := by
  unfold rMake
  rw [wp_bnd]
  refine congrArg _ ?_
  funext o s
  cases o with
  | x k => rfl
  | v as =>
    show wp (fun st => if as.length + 1 = n then _ else none) s Q = wc (as.length + 1 = n) (kMkU c nf F as Q s)
    unfold wc wa kMkU wp
    by_cases h : as.length + 1 = n
    · simp only [h, if_true, true_and]
      cases callF F (.o 0 :: as.map upA) (some (.oi c []) :: s) with
      | none => rfl
      | some p =>
        obtain ⟨o, s2⟩ := p
        cases o with
        | x k =>
          cases s2 with
          | nil => rfl
          | cons a s2 => rfl
        | v r =>
          cases r with
          | d x =>
            cases x <;> try rfl
            cases s2 with
            | nil => rfl
            | cons a s2 =>
              cases a with
              | none => rfl
              | some r2 =>
                cases r2 <;> try rfl
                rename_i c2 fs
                simp only [mkE, wc, wa, ku]
                by_cases h2 : c2 = c ∧ fs.length = nf
                · simp [h2]
                · simp [h2]
          | _ => rfl
    · simp only [h, if_false, false_and]
theorem upA_o {i : Nat} : upA (.o i) = .o (i + 1) := rfl
theorem upA_v {x : D} : upA (.v x) = .v x := rfl
end Fz
set_option Elab.async false
set_option linter.all false
set_option maxRecDepth 100000
set_option maxHeartbeats 2000000
namespace Fz
open PySem PySem.Spec PyProof.Rows L2
section
variable {P : Program} {w : World} {K : Type} [DecidableEq K] {knd : KeyKind P w K}
def Apart (knd : KeyKind P w K) (l : List (Int × Value)) : Prop := l.Pairwise fun e f => ∀ k, knd.is k e.2 = true → knd.is k f.2 = false
theorem Apart.perm {l l' : List (Int × Value)} (h : Apart knd l) (p : l.Perm l') : Apart knd l' :=
  (p.pairwise_iff (fun {e f} h k q => by
    cases c : knd.is k e.2 with
    | false => rfl
    | true => exact absurd (h k c) (by rw [q]; exact Bool.noConfusion))).mp h
def SetG (knd : KeyKind P w K) (h : Heap) (a : Addr) (S : K → Bool) (n : Nat) : Prop :=
  ∃ o es ep t, h.get? a = some o ∧ o.ExactSet ∧ o.data = .set es ep t ∧ ElemsOf knd es.toList ∧ (∀ k, S k = true ↔ ∃ e ∈ es.toList, knd.is k e.2 = true) ∧ es.size < scanBound ∧ t.fits es.size = true ∧ es.size = n ∧
    Apart knd es.toList ∧ Ris t.place.toList ∧ (w.params.followText "set-order" = true ∨ t.led = true)
theorem SetG.at {h h' : Heap} {a : Addr} {S : K → Bool} {n : Nat} (R : SetG knd h a S n) (k : ∀ o, h.get? a = some o → h'.get? a = some o) : SetG knd h' a S n := by
  obtain ⟨o, es, ep, t, ho, r⟩ := R
  exact ⟨o, es, ep, t, k o ho, r⟩
theorem SetG.congr {h : Heap} {a : Addr} {S S' : K → Bool} {n : Nat} (R : SetG knd h a S n) (e : ∀ k, S' k = S k) : SetG knd h a S' n := by
  rw [show S' = S from funext e]; exact R
variable {A : Around} {E : Value → Shared → Prop} {s : Shared} {a : Addr} {S : K → Bool} {n : Nat}
end
section
variable {prog : Program} {w : World} {K : Type} [DecidableEq K] {knd : PySem.KeyKind prog w K}
def Some (ks : List K) (i : Nat) : K → Bool := fun k => (ks.take i).any fun x => decide (x = k)
theorem Some.succ {ks : List K} {i : Nat} {k : K} (h : ks[i]? = some k) (j : K) : Some ks (i + 1) j = (Some ks i j || decide (j = k)) := by
  unfold Some
  have hl : i < ks.length := by
    by_cases c : i < ks.length
    · exact c
    · rw [List.getElem?_eq_none (by omega)] at h; cases h
  rw [List.take_add_one, h]
  simp only [Option.toList_some, List.any_append, List.any_cons, List.any_nil, Bool.or_false]
  congr 1
  exact decide_eq_decide.mpr eq_comm
end
section
variable {prog : Program} {w : World} {A : Around} {E : Value → Shared → Prop} {s : Shared}
abbrev newSetO (w : World) : Obj := { cls := .type "set", dict := none, data := .set #[] 0 (.fresh 0 0 (!w.params.followText "set-order")) }
theorem code_set_led1 (a : Value) {Q₁ : Value → Shared → Prop} (h : Q₁ (.ref s.heap.objs.size) { s with heap := s.heap.push (newSetO w) }) :
    codeAny (model prog w) A (.call (.builtin "set.__new__") ⟨[.type "set", a], []⟩) (wants Q₁ E) s := by
  refine codeAny_of_tree ?_
  show wpAny _ A.in1 (do checkBuiltinCall "set.__new__" ⟨[.type "set", a], []⟩; again (.builtin "set.__new__" ⟨[.type "set", a], []⟩)) _ _ s
  refine wpAny_bind (wpAny_of_eq (PySem.F.newCall_set_1 a) (wpAny_pure ⟨plainId_quiet PySem.F.plain_set_new _, codeAny_builtin PySem.F.entry_set_new ?_⟩))
  rw [Around.under_plainId PySem.F.plain_set_new _]
  unfold Builtin.«set.__new__» Builtin.Frozenset.newClass
  have hsub := sub_set_self
  obtain ⟨hp, g, d, tk, os⟩ := s
  dsimp only
  wp_walk
  refine wpAny_askSetting (wpAny_pure ?_)
  dsimp only
  simp only [newObj]
  refine wpAny_bind (wpAny_alloc (wpAny_pure ?_))
  exact wpAny_pure h
end
end Fz
set_option Elab.async false
set_option linter.all false
set_option maxRecDepth 100000
set_option maxHeartbeats 2000000
namespace Fz
open PySem PySem.Spec PyProof.Rows L2
section
variable {P : Program} {w : World} {A : Around} {E : Value → Shared → Prop} {s : Shared} {a : Addr}
end
end Fz
set_option Elab.async false
set_option linter.all false
set_option maxRecDepth 100000
set_option maxHeartbeats 2000000
namespace Fz
open PySem PySem.Spec PyProof.Rows L2
section
variable {X : Cx} {e : Expr} {es : List Expr} {t : TA}
end
section
variable {ι : Type} {T : Tab} {E : L2.St → XK} {X : ι → Cx} {pos : Pos} {e : Expr} {fs : M (List D)}
end
end Fz
set_option Elab.async false
set_option linter.all false
set_option maxRecDepth 100000
set_option maxHeartbeats 2000000
namespace Fz
open PySem L2 PySem.Spec PyProof.Rows
def rDct0 : M R := fun st => some (.v (.od [] []), st)
theorem dct_of {T : Tab} {B H : Hp} {p : Addr} {ep : Nat} {kvs : List (Key × V)} {ks : List D} (h : H p = some (dG T.w p ep (ofK kvs))) (ok : DGOk p (ofK kvs)) (k : DKeys ks (kvs.map (·.1))) : DctAt T B H p ks (kvs.map (·.2)) := by
  refine ⟨ep, _, h, ok, ?_, by unfold ofK; rw [List.map_map]; rfl⟩
  clear h ok
  induction kvs generalizing ks with
  | nil =>
    cases ks with
    | nil => unfold KReps; rfl
    | cons d ds => unfold DKeys at k; obtain ⟨_, _, e, _⟩ := k; cases e
  | cons kv kvs ih =>
    cases ks with
    | nil => unfold DKeys at k; cases k
    | cons d ds =>
      unfold DKeys at k
      obtain ⟨q, r, e, k1, k2⟩ := k
      simp only [List.map_cons, List.cons.injEq] at e
      obtain ⟨rfl, rfl⟩ := e
      show KReps T B (d :: ds) (.v kv.1 :: (ofK kvs).map (·.1))
      unfold KReps
      exact ⟨_, _, rfl, k1, ih k2⟩
theorem semR_dct0 {T : Tab} {E : L2.St → XK} : SemR T E (tToG T.w tDNewK) rDct0 := by
  intro st σ B F H S o s h Q hQ
  cases h
  refine fun p hp => ⟨p, [], rfl, upd_same, fun ep ok => ?_⟩
  rw [upd_upd]
  exact hQ _ B _ (.refl _) (S.alloc hp dg_notTup (relR_od (xs := []) (dct_of upd_same ok rfl) reps_nil))
theorem xr_dct0 {ι : Type} {T : Tab} {E : L2.St → XK} {X : ι → Cx} {pos : Pos} (hW : ∀ j, (X j).w = T.w := by intro j; rfl) : XR T E X (.Dict [] [] pos) rDct0 := ⟨_, fun j => by rw [← hW j]; exact pe_toG pe_dnewK, semR_dct0⟩
theorem n_rDct0 {st : Sl} {Q : Oc R → Sl → Prop} : wp rDct0 st Q = Q (.v (.od [] [])) st := rfl
end Fz
set_option Elab.async false
set_option linter.all false
set_option maxRecDepth 100000
set_option maxHeartbeats 2000000
namespace Fz
open PySem L2 PySem.Spec PyProof.Rows
def gRev : D → Option (List D)
  | .lst xs => some xs.reverse
  | _ => none
def rRev (fa : M D) : M R := bnd fa fun x => opt ((gRev x).map .ol)
def kRev (Q : Oc R → Sl → Prop) : Oc D → Sl → Prop := vx Q fun x s => wo (gRev x) (krl Q s)
theorem kRev_v (Q : Oc R → Sl → Prop) (x : D) (s : Sl) : kRev Q (.v x) s = wo (gRev x) (krl Q s) := rfl
theorem kRev_x (Q : Oc R → Sl → Prop) (c : Nat) (s : Sl) : kRev Q (.x c) s = Q (.x c) s := rfl
theorem n_rRev {fa : M D} {st : Sl} {QR : Oc R → Sl → Prop} : wp (rRev fa) st QR = wp fa st (kRev QR) := by
  unfold rRev; rw [wp_bnd]; simp only [wp_opt]; unfold kRev
  congr 1; congr 1; funext x s
  cases gRev x with
  | none => (simp only [Option.map_none]; rw [wo_none, wo_none])
  | some z => (simp only [Option.map_some]; rw [wo_some, wo_some, krl_a])
theorem gRev_l {xs : List D} : gRev (.lst xs) = some xs.reverse := rfl
end Fz
set_option Elab.async false
set_option linter.all false
set_option maxRecDepth 100000
set_option maxHeartbeats 2000000
namespace Fz
open PySem L2 PySem.Spec PyProof.Rows
def ExQ (cls : Value) (a : Addr) : HO := .ext fun h => ∃ (oe : Obj) (vs : Array Value), h.get? a = some oe ∧ Zc cls none oe ∧ oe.data = .fields vs
def xoT (K : PySem.W.Frag) (cls : Nat → Str) : Nat → Addr → List V → HO := fun k a xs => match xs with
  | [] => ExQ (.ref (He.ga K (cls k))) a
  | _ => .ext fun _ => False
section
variable {X : Cx} {x n : Str} {c : Value} {i : Nat} {body suite orelse : List Stmt} {b₀ : Stmt} {np pos pos' : Pos} {tb : WX → TS} {ts u : TS} {Wout : WX}
end
end Fz
set_option Elab.async false
set_option linter.all false
set_option maxRecDepth 100000
set_option maxHeartbeats 2000000
namespace Fz
open PySem L2 PySem.Spec PyProof.Rows
structure RoomQ (k : Nat) (A : Around) : Prop where
  dp : A.depth + 3 * k + 5 < recursionLimit
  un : A.units + 16 * k + 200 < cLine
theorem RoomQ.mono {j k : Nat} {A : Around} (r : RoomQ k A) (h : j ≤ k) : RoomQ j A := ⟨by have := r.dp; omega, by have := r.un; omega⟩
theorem RoomQ.deeper {k : Nat} {A : Around} (r : RoomQ (k + 1) A) (env : Env) : RoomQ k (A.deeper env) :=
  ⟨by have := r.dp; show A.depth + 1 + 3 * k + 5 < _; omega, by have := r.un; show A.units + 3 + 16 * k + 200 < _; omega⟩
theorem roomQ_of {k : Nat} {A : Around} (r : Room k A) : RoomQ k A := ⟨r.dp, r.un⟩
structure FnQ (P : Program) (w : World) (K : PySem.W.Frag) (mg : Str → Option Value) (base : Heap) (k : Nat) (f : Addr) (fd : FuncData) (ps : List Str) (sp : Sp) : Prop where
  len : ∀ vs H Q E, sp vs H Q E → vs.length = ps.length
  run : ∀ (A : Around) (outer : List Env) (s : Shared) (H : Hp) (args : Args) (us : List Value) (vs : List V) (Q : VK) (E : XK), RoomQ k A → Env0 P w K mg base A outer s H → BindsTo s fd args (ps.zip us) → Vals vs us → sp vs H Q E →
    codeAny (model P w) A (.call (.ref f) args) (CR (L2.CX P w) outer P w H s Q E) s
theorem FnQ.ok {P : Program} {w : World} {K : PySem.W.Frag} {mg : Str → Option Value} {base : Heap} {k : Nat} {f : Addr} {fd : FuncData} {ps : List Str} {sp : Sp} (F : FnQ P w K mg base k f fd ps sp) : FnOk P w K mg base (L2.CX P w) k f fd ps sp :=
  ⟨F.len, fun A outer s H args us vs Q E hr => F.run A outer s H args us vs Q E (roomQ_of hr)⟩
theorem FnQ.mono {P : Program} {w : World} {K : PySem.W.Frag} {mg : Str → Option Value} {base : Heap} {j k : Nat} {f : Addr} {fd : FuncData} {ps : List Str} {sp : Sp} (F : FnQ P w K mg base j f fd ps sp) (h : j ≤ k) : FnQ P w K mg base k f fd ps sp :=
  ⟨F.len, fun A outer s H args us vs Q E hr => F.run A outer s H args us vs Q E (hr.mono h)⟩
def TkX {ι : Type} (X : ι → Cx) (E : L2.St → XK) : Prop := ∀ j, Takes (X j) (fun cls d σ H => E σ cls d H)
abbrev TrI {ι : Type} (X : ι → Cx) (W : WX) : Type := { q : ι × List (Addr × Obj) × (Value → Shared → Prop) // Takes ((X q.1).tr q.2.1 q.2.2) W ∧ PassesOwn (model (X q.1).prog (X q.1).w) (X q.1).A (X q.1).env q.2.2 }
abbrev TrX {ι : Type} (X : ι → Cx) (W : WX) : TrI X W → Cx := fun q => (X q.1.1).tr q.1.2.1 q.1.2.2
theorem tk_tr {ι : Type} {X : ι → Cx} {W : WX} : TkX (TrX X W) (WE W) := fun q => q.2.1
section
variable {P : Program} {w : World} {T : Tab} {mg : Str → Option Value} {base : Heap} {x m : Str} {n c k j : Nat} {F : Fn} {ι : Type} {X : ι → Cx} {E : L2.St → XK}
structure Here (P : Program) (w : World) (T : Tab) (mg : Str → Option Value) (base : Heap) (Y : Cx) : Prop where
  p : Y.prog = P
  w : Y.w = w
  k : Y.K = T.K
  m : Y.mg = mg
  b : Y.base = base
theorem pass_tk (tk : TkX X E) (hc : ∀ i, Here P w T mg base (X i)) (i : ι) (σ : L2.St) : PassesAt (L2.CX P w) (X i) σ (E σ) := by
  have h := passAt (tk i) σ
  rw [(hc i).p, (hc i).w] at h
  exact h
theorem FnG.at (G : FnG P w T mg base x n F j) (hc : ∀ i, Here P w T mg base (X i)) (hr : ∀ i, Room k (X i).A) (tk : TkX X E) (h : j ≤ k) (i : ι) : FunAt (X i) T E x n F [] := by
  obtain ⟨f, fd, ps, a, b, c, d⟩ := G.ex
  refine ⟨f, fd, ps, _, j, ?_, ?_, ?_, ?_, (hr i).mono h, pass_tk tk hc i⟩
  · rw [(hc i).m]; exact a
  · rw [(hc i).k]; exact b
  · rw [(hc i).k]; exact c
  · rw [(hc i).p, (hc i).w, (hc i).k, (hc i).m, (hc i).b]; exact d
theorem MtG.at (G : MtG P w T mg base c m n F j) (hc : ∀ i, Here P w T mg base (X i)) (hr : ∀ i, Room k (X i).A) (tk : TkX X E) (h : j ≤ k) (i : ι) : MethAt (X i) T E c m n F := by
  obtain ⟨f, fd, ps, a, b, d⟩ := G.ex
  refine ⟨f, fd, ps, _, j, ?_, ?_, ?_, ?_, (hr i).mono h, pass_tk tk hc i, G.nf⟩
  · rw [(hc i).k]; exact G.cl.cls
  · rw [(hc i).k]; exact a
  · rw [(hc i).k]; exact b
  · rw [(hc i).p, (hc i).w, (hc i).k, (hc i).m, (hc i).b]; exact d
theorem MtT.at {tab : Nat → Option Fn} (G : MtT P w T mg base m n j tab) (hc : ∀ i, Here P w T mg base (X i)) (hr : ∀ i, Room k (X i).A) (tk : TkX X E) (h : j ≤ k) : ∀ (i : ι) c F, tab c = some F → MethAt (X i) T E c m n F := fun i c F hc' => (G c F hc').at hc hr tk h i
theorem MkG.at (G : MkG P w T mg base x c n F j) (hc : ∀ i, Here P w T mg base (X i)) (hr : ∀ i, Room k (X i).A) (tk : TkX X E) (h : j + 1 ≤ k) (i : ι) : MakeAt (X i) T E x c n F := by
  obtain ⟨f, fd, ps, a, b, b', d⟩ := G.ex
  refine ⟨f, fd, ps, _, j, ?_, ?_, ?_, ?_, (hr i).mono h, pass_tk tk hc i⟩
  · rw [(hc i).m]; exact a
  · rw [(hc i).k]; exact b
  · rw [(hc i).k]; exact b'
  · rw [(hc i).p, (hc i).w, (hc i).k, (hc i).m, (hc i).b]; exact d
theorem here_def {N : List Str} {qual : Str} {st : Stmt} {f : Addr} {cdv : Value} {A : Around} {outer : List Env} {s : Shared} {H : Hp} {E : XK} (i : Unit) : Here P w T mg base (CxD P w T mg base N qual st f cdv A outer s H E i) := ⟨rfl, rfl, rfl, rfl, rfl⟩
theorem here_tr {W : WX} (h : ∀ i, Here P w T mg base (X i)) (q : TrI X W) : Here P w T mg base (TrX X W q) := let ⟨a, b, c, d, e⟩ := h q.1.1; ⟨a, b, c, d, e⟩
theorem room_tr {W : WX} (h : ∀ i, Room k (X i).A) (q : TrI X W) : Room k (TrX X W q).A := h q.1.1
structure FnGQ (P : Program) (w : World) (T : Tab) (mg : Str → Option Value) (base : Heap) (x : Str) (n : Nat) (F : Fn) (k : Nat) : Prop where
  ex : ∃ f fd ps, mg x = some (.ref f) ∧ PySem.W.keepIn T.K (.ref f) = true ∧ Binds T.K fd ps [] ∧ FnQ P w T.K mg base k f fd ps (sp T n F)
theorem FnGQ.g (G : FnGQ P w T mg base x n F k) : FnG P w T mg base x n F k := let ⟨f, fd, ps, a, b, c, d⟩ := G.ex; ⟨f, fd, ps, a, b, c, d.ok⟩
theorem FnGQ.mono (G : FnGQ P w T mg base x n F j) (h : j ≤ k) : FnGQ P w T mg base x n F k := let ⟨f, fd, ps, a, b, c, d⟩ := G.ex; ⟨f, fd, ps, a, b, c, d.mono h⟩
end
structure FunAtQ (Y : Cx) (T : Tab) (E : L2.St → XK) (x : Str) (n : Nat) (F : Fn) : Prop where
  ex : ∃ f fd ps k, Y.mg x = some (.ref f) ∧ PySem.W.keepIn Y.K (.ref f) = true ∧ Binds Y.K fd ps [] ∧ FnQ Y.prog Y.w Y.K Y.mg Y.base k f fd ps (sp T n F) ∧ RoomQ k Y.A ∧ (∀ σ, PassesAt (L2.CX Y.prog Y.w) Y σ (E σ))
section
variable {X : Cx} {k : Nat} {f : Addr} {fd : FuncData} {ps : List Str} {sp : Sp} {E : L2.St → XK} {x : Str} {p pos : Pos} {e : Expr} {es : List Expr} {t : TA}
end
section
variable {ι : Type} {T : Tab} {E : L2.St → XK} {X : ι → Cx} {kp : Nat → Bool} {pos apos : Pos} {e a b c o : Expr} {es : List Expr} {fa fb fc : M D} {fs : M (List D)} {fl : M (List Arg)} {r : M R} {x m : Str} {st : Sl} {σ : L2.St} {B F H B' H' : Hp}
theorem FnGQ.q {P : Program} {w : World} {mg : Str → Option Value} {base : Heap} {n k j : Nat} {F : Fn} (G : FnGQ P w T mg base x n F j) (hc : ∀ i, Here P w T mg base (X i)) (hr : ∀ i, RoomQ k (X i).A) (ps : ∀ i σ, PassesAt (L2.CX P w) (X i) σ (E σ)) (h : j ≤ k) (i : ι) : FunAtQ (X i) T E x n F := by
  obtain ⟨f, fd, ps', a, b, c, d⟩ := G.ex
  refine ⟨f, fd, ps', j, ?_, ?_, ?_, ?_, (hr i).mono h, fun σ => ?_⟩
  · rw [(hc i).m]; exact a
  · rw [(hc i).k]; exact b
  · rw [(hc i).k]; exact c
  · rw [(hc i).p, (hc i).w, (hc i).k, (hc i).m, (hc i).b]; exact d
  · rw [(hc i).p, (hc i).w]; exact ps i σ
def sRaise (c : Nat) : MS := fun st => some (.x c, st)
structure GExc (T : Tab) (mg : Str → Option Value) (x : Str) (c : Nat) : Prop where
  g : mg x = some (.ref (T.cls c))
  kp : PySem.W.keepIn T.K (.ref (T.cls c)) = true
  ex : ∃ bmB newId initId, ExcBaseFacts "ValueError" newId initId bmB ∧ PySem.W.excIn T.K (T.cls c) bmB newId = true
  sb : PySem.W.subIn T.K (.ref (T.cls c)) (.type "BaseException") = some true
  ty : PySem.W.typeIn T.K (.ref (T.cls c)) = some (.type "type")
def sTry (i : Option Nat) (body : MS) (mt : Nat → Option Bool) (suite orelse : MS) : MS := fun st => match body st with
  | some (.x c, s) => (match mt c with
    | some true => (match i with
      | some i => (match suite (s.set i (some (.d (.ext c [])))) with
        | some (.x _, _) => none
        | some (.rt r, s2) => some (.rt r, s2)
        | some (f, s2) => some (f, s2.set i none)
        | none => none)
      | none => (match suite s with
        | some (.x _, _) => none
        | r => r))
    | some false => some (.x c, s)
    | none => none)
  | some (.nx, s) => orelse s
  | r => r
def dIsq (tab : Nat → Option Bool) : D → Option D
  | .ext c [] => (tab c).map .bl
  | _ => none
end
end Fz
set_option Elab.async false
set_option linter.all false
set_option maxRecDepth 100000
set_option maxHeartbeats 2000000
namespace Fz
open PySem L2 PySem.Spec PyProof.Rows
section
variable {P : Program} {w : World} {T : Tab} {mg : Str → Option Value} {base : Heap} {N : List Str} {qual : Str} {st : Stmt} {f : Addr} {cdv : Value} {A : Around} {outer : List Env} {s : Shared} {H : Hp} {E : XK} {x m : Str} {n c k j : Nat} {F : Fn} {W : WX}
theorem FnG.t (G : FnG P w T mg base x n F j) (hr : Room k (A.deeper (envOfC qual (defScope st) s.heap.objs.size f cdv))) (h : j ≤ k) (i : TrI (CxD P w T mg base N qual st f cdv A outer s H E) W) : FunAt (TrX (CxD P w T mg base N qual st f cdv A outer s H E) W i) T (WE W) x n F [] :=
  G.at (here_tr here_def) (room_tr fun _ => hr) tk_tr h i
theorem MtT.t {tab : Nat → Option Fn} (G : MtT P w T mg base m n j tab) (hr : Room k (A.deeper (envOfC qual (defScope st) s.heap.objs.size f cdv))) (h : j ≤ k) (i : TrI (CxD P w T mg base N qual st f cdv A outer s H E) W) : ∀ c F, tab c = some F → MethAt (TrX (CxD P w T mg base N qual st f cdv A outer s H E) W i) T (WE W) c m n F :=
  G.at (here_tr here_def) (room_tr fun _ => hr) tk_tr h i
theorem MkG.t (G : MkG P w T mg base x c n F j) (hr : Room k (A.deeper (envOfC qual (defScope st) s.heap.objs.size f cdv))) (h : j + 1 ≤ k) (i : TrI (CxD P w T mg base N qual st f cdv A outer s H E) W) : MakeAt (TrX (CxD P w T mg base N qual st f cdv A outer s H E) W i) T (WE W) x c n F :=
  G.at (here_tr here_def) (room_tr fun _ => hr) tk_tr h i
end
section
variable {w : World} {K : PySem.W.Frag} {h : Heap} {mg : Str → Option Value}
end
section
variable {X : Cx}
end
def sAug (i : Nat) (g : D → D → Option D) (m : M D) : MS := fun st => match st[i]? with
  | some (some (.d x)) => (match m st with
    | some (.v y, s) => (match g x y with
      | some z => some (.nx, s.set i (some (.d z)))
      | none => none)
    | some (.x c, s) => some (.x c, s)
    | none => none)
  | _ => none
section
variable {ι : Type} {T : Tab} {E : L2.St → XK} {X : ι → Cx} {kp : Nat → Bool} {pos : Pos} {e : Expr} {fa : M D} {te : TE} {x : Str}
def dAddIS : D → D → Option D
  | .int i, .int j => some (.int (i + j))
  | .str a, .str b => if a.length + b.length ≤ sizeLine then some (.str (a ++ b)) else none
  | _, _ => none
end
def kTrS (i : Option Nat) (Q : Fl → Sl → Prop) : Fl → Sl → Prop
  | .x _, _ => False
  | .rt r, s => Q (.rt r) s
  | f, s => Q f (match i with | some i => stt s i none | none => s)
theorem kTrS_rt {i : Option Nat} {Q : Fl → Sl → Prop} {r : R} {s : Sl} : kTrS i Q (.rt r) s = Q (.rt r) s := rfl
theorem kTrS_nx {i : Nat} {Q : Fl → Sl → Prop} {s : Sl} : kTrS (some i) Q .nx s = Q .nx (stt s i none) := rfl
theorem kTrS_ct {i : Nat} {Q : Fl → Sl → Prop} {s : Sl} : kTrS (some i) Q .ct s = Q .ct (stt s i none) := rfl
theorem kTrS_nx0 {Q : Fl → Sl → Prop} {s : Sl} : kTrS none Q .nx s = Q .nx s := rfl
def uTr (i : Option Nat) (suite : MS) (Q : Fl → Sl → Prop) (c : Nat) (s : Sl) : Bool → Prop
  | true => ws suite (match i with | some i => stt s i (some (.d (.ext c []))) | none => s) (kTrS i Q)
  | false => Q (.x c) s
theorem uTr_f {i : Option Nat} {suite : MS} {Q : Fl → Sl → Prop} {c : Nat} {s : Sl} : uTr i suite Q c s false = Q (.x c) s := rfl
theorem uTr_t {i : Nat} {suite : MS} {Q : Fl → Sl → Prop} {c : Nat} {s : Sl} : uTr (some i) suite Q c s true = ws suite (stt s i (some (.d (.ext c [])))) (kTrS (some i) Q) := rfl
theorem uTr_t0 {suite : MS} {Q : Fl → Sl → Prop} {c : Nat} {s : Sl} : uTr none suite Q c s true = ws suite s (kTrS none Q) := rfl
def kTr (i : Option Nat) (mt : Nat → Option Bool) (suite orelse : MS) (Q : Fl → Sl → Prop) : Fl → Sl → Prop
  | .x c, s => wo (mt c) (uTr i suite Q c s)
  | .nx, s => ws orelse s Q
  | f, s => Q f s
theorem kTr_x {i : Option Nat} {mt : Nat → Option Bool} {suite orelse : MS} {Q : Fl → Sl → Prop} {c : Nat} {s : Sl} : kTr i mt suite orelse Q (.x c) s = wo (mt c) (uTr i suite Q c s) := rfl
theorem kTr_nx {i : Option Nat} {mt : Nat → Option Bool} {suite orelse : MS} {Q : Fl → Sl → Prop} {s : Sl} : kTr i mt suite orelse Q .nx s = ws orelse s Q := rfl
theorem kTr_rt {i : Option Nat} {mt : Nat → Option Bool} {suite orelse : MS} {Q : Fl → Sl → Prop} {r : R} {s : Sl} : kTr i mt suite orelse Q (.rt r) s = Q (.rt r) s := rfl
theorem n_sTry {i : Option Nat} {mt : Nat → Option Bool} {body suite orelse : MS} {st : Sl} {QS : Fl → Sl → Prop} : ws (sTry i body mt suite orelse) st QS = ws body st (kTr i mt suite orelse QS) := by
  unfold ws sTry
  cases body st with
  | none => rfl
  | some p =>
    obtain ⟨f, s⟩ := p
    cases f with
    | nx => rfl
    | rt r => rfl
    | bk => rfl
    | ct => rfl
    | x c =>
      show _ = wo (mt c) (uTr i suite QS c s)
      dsimp only
      cases mt c with
      | none => rw [wo_none]
      | some b =>
        rw [wo_some]
        cases b with
        | false => rfl
        | true =>
          cases i with
          | none =>
            rw [uTr_t0]; unfold ws
            cases e : suite s with
            | none => simp only [e]
            | some p => obtain ⟨f, s2⟩ := p; cases f <;> simp only [e] <;> rfl
          | some i =>
            rw [uTr_t, ← stt_eq]; unfold ws
            dsimp only
            cases e : suite (s.set i (some (.d (.ext c [])))) with
            | none => simp only [e]
            | some p => obtain ⟨f, s2⟩ := p; cases f <;> simp only [e, stt_eq] <;> rfl
theorem n_sRaise {c : Nat} {st : Sl} {QS : Fl → Sl → Prop} : ws (sRaise c) st QS = QS (.x c) st := rfl
def kAug2 (i : Nat) (g : D → D → Option D) (x : D) (Q : Fl → Sl → Prop) (s : Sl) : D → Prop := fun z => Q .nx (stt s i (some (.d z)))
theorem kAug2_a {i : Nat} {g : D → D → Option D} {x : D} {Q : Fl → Sl → Prop} {s : Sl} {z : D} : kAug2 i g x Q s z = Q .nx (stt s i (some (.d z))) := rfl
def kAug (i : Nat) (g : D → D → Option D) (x : D) (Q : Fl → Sl → Prop) : Oc D → Sl → Prop := vs Q fun y s => wo (g x y) (kAug2 i g x Q s)
theorem kAug_v {i : Nat} {g : D → D → Option D} {x y : D} {Q : Fl → Sl → Prop} {s : Sl} : kAug i g x Q (.v y) s = wo (g x y) (kAug2 i g x Q s) := rfl
theorem kAug_x {i c : Nat} {g : D → D → Option D} {x : D} {Q : Fl → Sl → Prop} {s : Sl} : kAug i g x Q (.x c) s = Q (.x c) s := rfl
def gD (o : Option (Option R)) (k : D → Prop) : Prop := match o with
  | some (some (.d x)) => k x
  | _ => False
theorem gD_d {x : D} {k : D → Prop} : gD (some (some (.d x))) k = k x := rfl
def kAug1 (i : Nat) (g : D → D → Option D) (m : M D) (st : Sl) (Q : Fl → Sl → Prop) : D → Prop := fun x => wp m st (kAug i g x Q)
theorem kAug1_a {i : Nat} {g : D → D → Option D} {m : M D} {st : Sl} {Q : Fl → Sl → Prop} {x : D} : kAug1 i g m st Q x = wp m st (kAug i g x Q) := rfl
theorem n_sAug {i : Nat} {g : D → D → Option D} {m : M D} {st : Sl} {QS : Fl → Sl → Prop} : ws (sAug i g m) st QS = gD (gt st i) (kAug1 i g m st QS) := by
  unfold ws sAug
  rw [gt_eq]
  cases e : gt st i with
  | none => rfl
  | some o =>
    cases o with
    | none => rfl
    | some r =>
      cases r with
      | d x =>
        rw [gD_d, kAug1_a]; unfold wp
        dsimp only
        cases m st with
        | none => rfl
        | some p =>
          obtain ⟨o, s⟩ := p
          cases o with
          | x c => rfl
          | v y =>
            show _ = wo (g x y) (kAug2 i g x QS s)
            dsimp only
            cases g x y with
            | none => rw [wo_none]
            | some z => rw [wo_some, kAug2_a, ← stt_eq]
      | _ => rfl
theorem dAddIS_i {i j : Int} : dAddIS (.int i) (.int j) = some (.int (i + j)) := rfl
theorem dIsq_e {tab : Nat → Option Bool} {c : Nat} : dIsq tab (.ext c []) = (tab c).map .bl := rfl
end Fz
namespace Fz
open PySem L2 PySem.Spec PyProof.Rows
end Fz
namespace Fz
open PySem L2
theorem smallI_n {n : Nat} (h : n ≤ 1000000000) : smallI (n : Int) = true := by
  unfold smallI
  rw [decide_eq_true_eq]
  omega
theorem dR1_n {n : Nat} (h : n ≤ 1000000000) : dR1 [.int (n : Int)] = some (rngD 0 n) := by
  rw [dR1_i, smallI_n h, Int.toNat_natCast]; rfl
end Fz
namespace Fz
open PySem L2 PySem.Spec PyProof.Rows
section
variable {ι : Type} {T : Tab} {E : L2.St → XK} {X : ι → Cx} {pos : Pos} {a b : Expr} {fa fb : M D}
end
theorem e_eqL0 {xs : List D} : dEqL (.lst xs) (.lst []) = some (.bl (decide (xs.length = 0))) := by
  unfold dEqL
  cases xs with
  | nil => rfl
  | cons x xs =>
    cases h : dEq (.lst (x :: xs)) (.lst []) with
    | none => simp
    | some z =>
      unfold dEq at h
      split at h
      · cases h
        have : same (.lst (x :: xs)) (.lst []) = false := by simp [same, py, pys, PyData.eqv, PyData.eqvAll]
        simp [this]
      · cases h
end Fz
namespace Fz
open PySem L2
end Fz
namespace Fz
theorem mkE_x {c nf k : Nat} {Q : Oc R → Sl → Prop} {o : Option R} {s : Sl} : mkE c nf Q (.x k) (o :: s) = Q (.x k) s := rfl
end Fz
set_option Elab.async false
set_option linter.all false
set_option maxRecDepth 100000
set_option maxHeartbeats 2000000
namespace Fz
open PySem L2 PySem.Spec PyProof.Rows
section
variable {prog : Program} {w : World} {h : Heap} {T : Tab} {H : Hp}
end
structure Nicp (p : PyData) (n k : Nat) : Prop where
  sh : p.leavesShort 24 = true
  wt : p.weight ≤ n
  dp : p.depth ≤ k
  ok : PyData.strOk p.shown = true
structure Nicps (ps : List PyData) (n k : Nat) : Prop where
  sh : PyData.leavesShortAll 24 ps = true
  wt : PyData.weightAll ps ≤ n
  dp : PyData.depthAll ps ≤ k
  ok : ∀ t ∈ PyData.shownAll ps, PyData.strOk t = true
theorem Nicp.len {p : PyData} {n k : Nat} (h : Nicp p n k) (hn : n ≤ 600000) : p.shown.length ≤ sizeLine := by
  have a := PyData.shown_le 24 (by decide) p h.sh
  have := h.wt
  have e : sizeLine = 16777216 := by decide
  omega
end Fz
set_option Elab.async false
set_option linter.all false
set_option maxRecDepth 100000
set_option maxHeartbeats 4000000
namespace PySem.AutoSeq1
open PySem
theorem int_rmul_listW (a : Int) (t : Tok) (l : Addr) (items : Array Value) (n : Nat) (dd : Option Addr) (sl : Array (Option Value)) :
    Meets (Builtin.«int.__rmul__» ⟨[.int a t, .ref l], []⟩) (fun _ R s => s.heap.get? l = some { cls := .type "list", dict := dd, data := .seq items n, slots := sl } ∧ R (.ok (.ret Value.notImplemented)) s) :=
  .of_wp fun prog w A R s h => by obtain ⟨hp, g, d, tk, os⟩ := s; obtain ⟨hl, h⟩ := h; wp_walk using wpAny_loadPart' hl; exact ⟨_, rfl, h⟩
theorem list_mulW (l : Addr) (items : Array Value) (n : Nat) (dd : Option Addr) (sl : Array (Option Value)) (x : Int) (u : Tok) (hc0 : ¬(!Builtin.List.listFitsIndex x) = true) (hc1 : ¬items.size * x.toNat > (2 ^ 63 - 1) / 8) (hc2 : ¬Builtin.List.listTooLong (items.size * x.toNat) = true) :
    Meets (Builtin.«list.__mul__» ⟨[.ref l, .int x u], []⟩) (fun _ R s => s.heap.get? l = some { cls := .type "list", dict := dd, data := .seq items n, slots := sl } ∧ R (.ok (.ret (Value.ref s.heap.objs.size))) { s with heap := s.heap.push { cls := Value.type "list", data := Data.seq (List.foldl (fun x1 x2 => x1 ++ x2) #[] (List.replicate (if items.isEmpty = true then 0 else x.toNat) items)) }, toks := s.toks }) :=
  .of_wp fun prog w A R s h => by
    obtain ⟨hp, g, d, tk, os⟩ := s; obtain ⟨hl, h⟩ := h
    have hsz := AutoListH.joined_fits hc2
    wp_walk using wpAny_loadPart' hl; refine wpAny_ite_false (decide_eq_false (Nat.not_lt.mpr hsz)) ?_; wp_walk using wpAny_loadPart' hl; exact ⟨_, rfl, h⟩
end PySem.AutoSeq1
namespace Fz
open PySem L2 PySem.Spec PyProof.Rows
def rRepL (K : PySem.W.Frag) : R2 := fun x y H Q => ∃ l k xs, x = .ref l ∧ y = .int k ∧ SqL K H l xs ∧ k.natAbs ≤ 1000000 ∧ xs.length * k.toNat ≤ sizeLine ∧ ∀ p, H p = none → Q (.ref p) (upd H p (.lst (List.replicate k.toNat xs).flatten))
theorem op_repL {X : Cx} : OpR X (binaryOp .Mult) (rRepL X.K) := by
  intro pins s σ H x y v u Q I rx ry h
  obtain ⟨l, k, xs, rfl, rfl, hH, h1, hz, q⟩ := h
  cases rx
  obtain ⟨t, rfl⟩ := ry
  obtain ⟨its, r, ⟨⟨cls, dd, data, sl⟩, n, e, hc, hk, hd⟩, hs⟩ := I.list hH
  simp only at hc hd
  subst hc hd
  have hl := r.length
  have hlen : its.toArray.size * k.toNat ≤ sizeLine := by rw [List.size_toArray, ← hl]; exact hz
  have hcap : ¬ its.toArray.size * k.toNat > (2 ^ 63 - 1) / 8 := by
    have : (sizeLine : Nat) ≤ (2 ^ 63 - 1) / 8 := by decide
    omega
  have hfit : ¬ (!Builtin.List.listFitsIndex k) = true := by
    rw [fitsIndex_both (by omega) (by omega)]
    exact Bool.false_ne_true
  have hlong : ¬ Builtin.List.listTooLong (its.toArray.size * k.toNat) = true := by
    rw [notLongL hlen]
    exact Bool.false_ne_true
  have hnew : List.foldl (fun x1 x2 => x1 ++ x2) #[] (List.replicate (if its.toArray.isEmpty = true then 0 else k.toNat) its.toArray) = (List.replicate k.toNat its).flatten.toArray := by
    rw [size_rep]
    cases its with
    | nil => simp
    | cons a r' => rw [if_neg (by simp)]
  refine wpAny_binaryOp_repeat_ref (T := "list") (U := "int") (by decide) ⟨_, e, rfl⟩ (fun s' => typeIs_int s' k t) noFill_list_mul F.fills_int_mul F.slot_int_rmul repeat_list F.slot_int_index.lookup
    (call_meets F.slot_int_rmul (typeIs_int s k t) F.entry_int_rmul (F.args_int_rmul_2 _ _) (AutoSeq1.int_rmul_listW k t l its.toArray n dd sl)
      ⟨e, rfl, ⟨_, e, rfl⟩, call_meets F.slot_list_mul ⟨_, e, rfl⟩ F.entry_list_mul (F.args_list_mul_2 _ _) (AutoSeq1.list_mulW l its.toArray n dd sl k t hfit hcap hlong) ⟨e, ?_⟩⟩)
  rw [hnew]
  exact ⟨.ref _, _, I.lnew (t' := s.toks) (r.rep k.toNat) (by rw [PyProof.Rows.lm_len_rep_flat, Nat.mul_comm]; exact hz), rfl, q _ I.fresh⟩
def gMul : D → D → Option (List D)
  | .lst xs, .int k => if k.natAbs ≤ 1000000 ∧ xs.length * k.toNat ≤ sizeLine then some (List.replicate k.toNat xs).flatten else none
  | _, _ => none
theorem reps_rep {T : Tab} {B : Hp} {xs : List D} {vs : List V} (r : Reps T B xs vs) : ∀ n : Nat, Reps T B (List.replicate n xs).flatten (List.replicate n vs).flatten
  | 0 => reps_nil
  | n + 1 => by rw [List.replicate_succ, List.replicate_succ, List.flatten_cons, List.flatten_cons]; exact r.append (reps_rep r n)
theorem p_mulL {T : Tab} : Prim2L T (rRepL T.K) gMul := by
  intro x y zs vx vy B H Q e hx hy hz k
  unfold gMul at hz
  split at hz
  · rename_i xs i
    split at hz
    · rename_i hl
      cases hz
      unfold Rep at hx
      obtain ⟨a, us, rfl, t1, r1⟩ := hx
      cases rep_int hy
      exact ⟨a, i, us, rfl, rfl, e.sqL t1, hl.1, by rw [← r1.length]; exact hl.2, fun p hp => k p _ B H (.refl e) hp (reps_rep r1 _)⟩
    · cases hz
  · cases hz
section
variable {ι : Type} {T : Tab} {E : L2.St → XK} {X : ι → Cx} {pos : Pos} {a b : Expr} {fa fb : M D}
theorem xr_mulL (ha : XE T E X a fa) (hb : XE T E X b fb) (hK : ∀ j, (X j).K = T.K := by intro j; rfl) : XR T E X (.BinOp a .Mult b pos) (rBin gMul fa fb) := xr_bin (fun j => by rw [← hK j]; exact op_repL) p_mulL ha hb
end
end Fz
set_option Elab.async false
set_option linter.all false
set_option maxRecDepth 100000
set_option maxHeartbeats 4000000
namespace PySem.AutoSeq1
open PySem
end PySem.AutoSeq1
namespace Fz
open PySem L2 PySem.Spec PyProof.Rows
end Fz
set_option Elab.async false
set_option linter.all false
set_option maxRecDepth 100000
set_option maxHeartbeats 1000000
namespace Fz
open PySem L2 PySem.Spec PyProof.Rows
section
variable {prog : Program} {w : World} {A : Around} {E : Value → Shared → Prop} {s : Shared}
end
end Fz
set_option Elab.async false
set_option linter.all false
set_option maxRecDepth 100000
set_option maxHeartbeats 2000000
namespace Fz
open PySem L2
def ixR : Option (Option R) → D → Option D
  | some (some (.ol xs)), y => dIx (.lst xs) y
  | some (some (.d x)), y => dIx x y
  | _, _ => none
def eIxO (i : Nat) (fb : M D) : M D := fun st => match st[i]? with
  | some (some _) => bnd fb (fun y s => opt (ixR s[i]? y) s) st
  | _ => none
section
variable {T : Tab} {E : L2.St → XK} {fb : M D} {tb : TE}
end
section
variable {ι : Type} {T : Tab} {E : L2.St → XK} {X : ι → Cx} {pos p2 : Pos} {b : Expr} {fb : M D} {x : Str}
end
def kIxO (i : Nat) (Q : Oc D → Sl → Prop) : Oc D → Sl → Prop := vx Q fun y s => wo (ixR (gt s i) y) (kr Q s)
theorem kIxO_v {i : Nat} {Q : Oc D → Sl → Prop} {y : D} {s : Sl} : kIxO i Q (.v y) s = wo (ixR (gt s i) y) (kr Q s) := rfl
theorem kIxO_x {i : Nat} {Q : Oc D → Sl → Prop} {c : Nat} {s : Sl} : kIxO i Q (.x c) s = Q (.x c) s := rfl
theorem n_eIxO {i : Nat} {fb : M D} {st : Sl} {Q : Oc D → Sl → Prop} : wp (eIxO i fb) st Q = isR (gt st i) (wp fb st (kIxO i Q)) := by
  rw [← gt_eq]
  unfold eIxO isR
  cases h : st[i]? with
  | none => simp only [wp, h]
  | some o => cases o with
    | none => simp only [wp, h]
    | some r =>
      have e : wp (bnd fb fun y s => opt (ixR s[i]? y) s) st Q = wp fb st (kIxO i Q) := by
        rw [wp_bnd]
        refine congrArg _ ?_
        funext o s
        cases o with
        | x c => rfl
        | v y =>
          show wp (opt (ixR s[i]? y)) s Q = wo (ixR (gt s i) y) (kr Q s)
          rw [gt_eq]
          exact wp_opt
      rw [← e]
      simp only [wp, h]
theorem ixR_ol {xs : List D} {y : D} : ixR (some (some (.ol xs))) y = dIx (.lst xs) y := rfl
theorem ixR_d {x y : D} : ixR (some (some (.d x))) y = dIx x y := rfl
end Fz
set_option Elab.async false
set_option linter.all false
set_option maxRecDepth 100000
set_option maxHeartbeats 1000000
namespace Fz
open PySem L2 PySem.Spec PyProof.Rows
section
variable {prog : Program} {w : World} {A : Around} {E : Value → Shared → Prop} {s : Shared}
end
end Fz
set_option Elab.async false
set_option linter.all false
set_option maxRecDepth 100000
set_option maxHeartbeats 2000000
namespace Fz
open PySem L2 PySem.Spec PyProof.Rows
section
variable {ι : Type} {T : Tab} {E : L2.St → XK} {X : ι → Cx} {pos : Pos} {a b : Expr} {fa fb : M D}
end
end Fz
set_option Elab.async false
set_option linter.all false
set_option maxRecDepth 100000
set_option maxHeartbeats 2000000
namespace Fz
open PySem L2
def rngC (lo c : Int) (n : Nat) : List D := (List.range n).map fun (i : Nat) => D.int (lo + (i : Nat) * c)
section
variable {T : Tab} {E : L2.St → XK} {ta : TA} {fs : M (List D)}
def dR3 : List D → Option (List D)
  | [.int i, .int j, .int c] => if c ≠ 0 ∧ c.natAbs < 1073741824 ∧ Builtin.Range.small i j c = true ∧ Builtin.Range.rangeSize i j c = ((Builtin.Range.rangeSize i j c).toNat : Int) then some (rngC i c (Builtin.Range.rangeSize i j c).toNat) else none
  | _ => none
def iR3 (fa : M (List D)) : M (List D) := bnd fa fun xs => opt (dR3 xs)
end
def kR3 (Q : Oc (List D) → Sl → Prop) : Oc (List D) → Sl → Prop := vx Q fun xs s => wo (dR3 xs) (kr Q s)
theorem kR3_v {Q : Oc (List D) → Sl → Prop} {xs : List D} {s : Sl} : kR3 Q (.v xs) s = wo (dR3 xs) (kr Q s) := rfl
theorem n_iR3 {fa : M (List D)} {st : Sl} {Q : Oc (List D) → Sl → Prop} : wp (iR3 fa) st Q = wp fa st (kR3 Q) := by
  unfold iR3
  rw [wp_bnd]
  refine congrArg _ ?_
  funext o s
  cases o with
  | x c => rfl
  | v xs => exact wp_opt
end Fz
set_option Elab.async false
set_option linter.all false
set_option maxRecDepth 100000
set_option maxHeartbeats 2000000
namespace Fz
open PySem L2
def rMethX (c0 n : Nat) (tab : Nat → Option Fn) (fa : M D) (fl : M (List Arg)) : M R := fun st => match fa st with
  | some (.x c, s) => if (tab c0).isSome = true then some (.x c, s) else none
  | _ => rMeth n tab fa fl st
section
variable {ι : Type} {T : Tab} {E : L2.St → XK} {X : ι → Cx} {pos apos : Pos} {o : Expr} {fa : M D} {fl : M (List Arg)} {m : Str} {ta : TE} {t : TA}
end
def kMeX (c0 n : Nat) (tab : Nat → Option Fn) (fl : M (List Arg)) (Q : Oc R → Sl → Prop) : Oc D → Sl → Prop := fun o s => match o with
  | .v x => kMeth n tab fl Q (.v x) s
  | .x c => wc ((tab c0).isSome = true) (fun _ => Q (.x c) s)
theorem kMeX_v {c0 n : Nat} {tab : Nat → Option Fn} {fl : M (List Arg)} {Q : Oc R → Sl → Prop} {x : D} {s : Sl} : kMeX c0 n tab fl Q (.v x) s = kMeth n tab fl Q (.v x) s := rfl
theorem kMeX_x {c0 n : Nat} {tab : Nat → Option Fn} {fl : M (List Arg)} {Q : Oc R → Sl → Prop} {c : Nat} {s : Sl} : kMeX c0 n tab fl Q (.x c) s = ((tab c0).isSome = true ∧ Q (.x c) s) := rfl
theorem n_rMethX {c0 n : Nat} {tab : Nat → Option Fn} {fa : M D} {fl : M (List Arg)} {st : Sl} {Q : Oc R → Sl → Prop} : wp (rMethX c0 n tab fa fl) st Q = wp fa st (kMeX c0 n tab fl Q) := by
  have base := n_rMeth (n := n) (tab := tab) (fl := fl) (fa := fa) (st := st) (QR := Q)
  unfold wp at base ⊢
  unfold rMethX
  cases h : fa st with
  | none =>
    rw [h] at base
    exact base
  | some p =>
    obtain ⟨o, s⟩ := p
    cases o with
    | x c =>
      by_cases hs : (tab c0).isSome = true
      · simp only [hs, if_true]
        show Q (.x c) s = ((tab c0).isSome = true ∧ Q (.x c) s)
        simp [hs]
      · simp only [hs, if_false]
        show False = ((tab c0).isSome = true ∧ Q (.x c) s)
        simp [hs]
    | v x =>
      rw [h] at base
      exact base
end Fz
set_option Elab.async false
set_option linter.all false
set_option maxRecDepth 100000
set_option maxHeartbeats 2000000
namespace Fz
open PySem L2 PySem.Spec PyProof.Rows
section
variable {ι : Type} (T : Tab) (E : L2.St → XK) (X : ι → Cx)
end
section
variable {X : Cx} {o e : Expr} {es : List Expr} {to : TE} {t : TA} {name : Str} {apos cpos : Pos} {Ty id : String} {r : V → List V → Hp → VK → Prop}
structure FnOkT (P : Program) (w : World) (K : PySem.W.Frag) (mg : Str → Option Value) (base : Heap) (CX : CXT) (k : Nat) (f : Addr) (fd : FuncData) (ps : List Str) (sp : Sp) : Prop where
  len : ∀ vs H Q E, sp vs H Q E → vs.length = ps.length
  run : ∀ (A : Around) (outer : List Env) (s : Shared) (H : Hp) (args : Args) (us : List Value) (vs : List V) (Q : VK) (E : XK), 1 ≤ s.toks → Room k A → Env0 P w K mg base A outer s H → BindsTo s fd args (ps.zip us) → Vals vs us → sp vs H Q E →
    codeAny (model P w) A (.call (.ref f) args) (CR CX outer P w H s Q E) s
section
variable {P : Program} {w : World} {K : PySem.W.Frag} {mg : Str → Option Value} {base : Heap} {CX : CXT} {k : Nat} {f : Addr} {fd : FuncData} {ps : List Str} {sp sp' : Sp}
end
section
variable {X : Cx} {CX : CXT} {k : Nat} {f : Addr} {fd : FuncData} {ps : List Str} {sp : Sp} {dvs : List V} {ds : List Value} {E : L2.St → XK} {x : Str} {p pos : Pos} {e : Expr} {es : List Expr} {t : TA}
end
section
variable {X : Cx} {pos : Pos}
end
end
section
variable {ι : Type} {T : Tab} {E : L2.St → XK} {X : ι → Cx} {kp : Nat → Bool} {pos apos : Pos} {e a b c o tg : Expr} {es : List Expr} {fa fb fc : M D} {fs : M (List D)} {fl : M (List Arg)} {r : M R} {x m : Str} {te ta to : TE} {t : TA}
variable {st : Stmt} {rest : List Stmt} {f g : MS}
structure FunAtT (Y : Cx) (T : Tab) (E : L2.St → XK) (x : Str) (n : Nat) (F : Fn) : Prop where
  ex : ∃ f fd ps CX k, Y.mg x = some (.ref f) ∧ PySem.W.keepIn Y.K (.ref f) = true ∧ Binds Y.K fd ps [] ∧ FnOkT Y.prog Y.w Y.K Y.mg Y.base CX k f fd ps (sp T n F) ∧ Room k Y.A ∧ (∀ σ, PassesAt CX Y σ (E σ))
end
section
variable {P : Program} {w : World} {T : Tab} {mg : Str → Option Value} {base : Heap} {x m qual : Str} {st : Stmt} {N ps : List Str} {k n : Nat} {kp : Nat → Bool} {body : MS} {F : Fn}
structure FnGT (P : Program) (w : World) (T : Tab) (mg : Str → Option Value) (base : Heap) (x : Str) (n : Nat) (F : Fn) (k : Nat) : Prop where
  ex : ∃ f fd ps, mg x = some (.ref f) ∧ PySem.W.keepIn T.K (.ref f) = true ∧ Binds T.K fd ps [] ∧ FnOkT P w T.K mg base (L2.CX P w) k f fd ps (sp T n F)
theorem FnOkT.mono {CX : CXT} {f : Addr} {fd : FuncData} {sp : Sp} {j : Nat} {K : PySem.W.Frag} (F : FnOkT P w K mg base CX j f fd ps sp) (h : j ≤ k) : FnOkT P w K mg base CX k f fd ps sp :=
  ⟨F.len, fun A outer s H args us vs Q E h0 hr => F.run A outer s H args us vs Q E h0 (hr.mono h)⟩
variable {f : Addr} {cdv : Value} {A : Around} {outer : List Env} {s : Shared} {H : Hp} {E : XK}
theorem FnGT.d {j : Nat} (G : FnGT P w T mg base x n F j) (hr : Room k (A.deeper (envOfC qual (defScope st) s.heap.objs.size f cdv))) (h : j ≤ k) (i : Unit) : FunAtT (CxD P w T mg base N qual st f cdv A outer s H E i) T (fun _ => E) x n F :=
  let ⟨f, fd, ps, a, b, c, d⟩ := G.ex; ⟨f, fd, ps, _, j, a, b, c, d, hr.mono h, fun σ => pass_def σ⟩
end
end Fz
set_option Elab.async false
set_option linter.all false
set_option maxRecDepth 100000
set_option maxHeartbeats 2000000
namespace Fz
open PySem L2
def kids : R → List R
  | .nl cs => cs
  | .nt cs => cs
  | .ni _ cs => cs
  | .nd _ cs => cs
  | _ => []
def setKids : R → List R → R
  | .nl _, cs => .nl cs
  | .nt _, cs => .nt cs
  | .ni c _, cs => .ni c cs
  | .nd ks _, cs => .nd ks cs
  | r, _ => r
def rAt : R → List Nat → Option R
  | r, [] => some r
  | r, k :: p => (kids r)[k]?.bind fun c => rAt c p
def rSet : R → List Nat → R → R
  | _, [], q => q
  | r, k :: p, q => match (kids r)[k]? with
    | some c => setKids r ((kids r).set k (rSet c p q))
    | none => r
def VAt (H : Hp) : V → List Nat → V → Prop
  | v, [], u => u = v
  | v, k :: p, u => ∃ a xs w, v = .ref a ∧ HeldAt H a xs ∧ xs[k]? = some w ∧ VAt H w p u
section
variable {T : Tab} {B B' H H' : Hp}
theorem RelRs.length : ∀ {cs : List R} {xs : List V}, RelRs T B H cs xs → cs.length = xs.length
  | [], xs, h => by unfold RelRs at h; subst h; rfl
  | c :: cs, xs, h => by unfold RelRs at h; obtain ⟨y, t, rfl, _, h3, _⟩ := h; simp [RelRs.length h3]
theorem RelRs.get : ∀ {cs : List R} {xs : List V} {k : Nat} {c : R}, RelRs T B H cs xs → cs[k]? = some c → ∃ w, xs[k]? = some w ∧ RelR T B H c w ∧ ∀ b, Ow H c w b → OwL H cs xs b
  | [], xs, k, c, h, e => by simp at e
  | c0 :: cs, xs, k, c, h, e => by
    unfold RelRs at h
    obtain ⟨y, t, rfl, h2, h3, _⟩ := h
    cases k with
    | zero => simp at e; subst e; exact ⟨y, rfl, h2, fun b z => by unfold OwL; exact ⟨y, t, rfl, .inl z⟩⟩
    | succ k =>
      obtain ⟨w, g1, g2, g3⟩ := RelRs.get (k := k) h3 (by simpa using e)
      exact ⟨w, by simpa using g1, g2, fun b z => by unfold OwL; exact ⟨y, t, rfl, .inr (g3 b z)⟩⟩
theorem RelRs.set (e : Ex B B') (tk : Tk H H') {X : Addr → Prop} {c' : R} {w : V} : ∀ {cs : List R} {xs : List V} {k : Nat} {c : R}, RelRs T B H cs xs → cs[k]? = some c → xs[k]? = some w → RelR T B' H' c' w → (∀ b, Ow H' c' w b → Ow H c w b ∨ X b) → (∀ b, X b → ¬ OwL H cs xs b) →
    (∀ b o, ¬ Ow H c w b → H b = some o → H' b = some o) → RelRs T B' H' (cs.set k c') xs ∧ ∀ b, OwL H' (cs.set k c') xs b → OwL H cs xs b ∨ X b
  | [], xs, k, c, h, e1, e2, h1, h2, h3, h4 => by simp at e1
  | c0 :: cs, xs, k, c, h, e1, e2, h1, h2, h3, h4 => by
    unfold RelRs at h
    obtain ⟨y, t, rfl, g2, g3, g4⟩ := h
    cases k with
    | zero =>
      simp at e1 e2; subst e1; subst e2
      have kt : ∀ p o, OwL H cs t p → H p = some o → H' p = some o := fun p o z q => h4 p o (fun z' => g4 p z' z) q
      have bt : ∀ b, OwL H' cs t b → OwL H cs t b := fun b => OwL.back tk g3 kt
      refine ⟨?_, fun b z => ?_⟩
      · show RelRs T B' H' (c' :: cs) (y :: t)
        unfold RelRs
        refine ⟨y, t, rfl, h1, g3.keep e tk kt, fun b z1 z2 => ?_⟩
        have z2 := OwL.back tk g3 kt z2
        rcases h2 b z1 with z | z
        · exact g4 b z z2
        · exact h3 b z (by unfold OwL; exact ⟨y, t, rfl, .inr z2⟩)
      · have z : OwL H' (c' :: cs) (y :: t) b := z
        unfold OwL at z
        obtain ⟨y', t', e', z⟩ := z
        cases e'
        rcases z with z | z
        · rcases h2 b z with q | q
          · exact .inl (by unfold OwL; exact ⟨y, t, rfl, .inl q⟩)
          · exact .inr q
        · exact .inl (by unfold OwL; exact ⟨y, t, rfl, .inr (OwL.back tk g3 kt z)⟩)
    | succ k =>
      have e1 : cs[k]? = some c := by simpa using e1
      have e2 : t[k]? = some w := by simpa using e2
      obtain ⟨w', q1, _, q3⟩ := RelRs.get g3 e1
      rw [e2] at q1; cases q1
      have ky : ∀ p o, Ow H c0 y p → H p = some o → H' p = some o := fun p o z q => h4 p o (fun z' => g4 p z (q3 p z')) q
      obtain ⟨r1, r2⟩ := RelRs.set e tk g3 e1 e2 h1 h2 (fun b z z' => h3 b z (by unfold OwL; exact ⟨y, t, rfl, .inr z'⟩)) h4
      refine ⟨?_, fun b z => ?_⟩
      · show RelRs T B' H' (c0 :: cs.set k c') (y :: t)
        unfold RelRs
        refine ⟨y, t, rfl, g2.keep e tk ky, r1, fun b z1 z2 => ?_⟩
        have z1 := Ow.back tk g2 ky z1
        rcases r2 b z2 with z | z
        · exact g4 b z1 z
        · exact h3 b z (by unfold OwL; exact ⟨y, t, rfl, .inl z1⟩)
      · have z : OwL H' (c0 :: cs.set k c') (y :: t) b := z
        unfold OwL at z
        obtain ⟨y', t', e', z⟩ := z
        cases e'
        rcases z with z | z
        · exact .inl (by unfold OwL; exact ⟨y, t, rfl, .inl (Ow.back tk g2 ky z)⟩)
        · rcases r2 b z with q | q
          · exact .inl (by unfold OwL; exact ⟨y, t, rfl, .inr q⟩)
          · exact .inr q
theorem node {r : R} {v : V} {k : Nat} {c : R} (h : RelR T B H r v) (hc : (kids r)[k]? = some c) : ∃ a xs, v = .ref a ∧ HeldAt H a xs ∧ RelRs T B H (kids r) xs ∧ (∀ b, OwL H (kids r) xs b → Ow H r v b) ∧
    (∀ {B' H' : Hp} {X : Addr → Prop} {cs' : List R}, Ex B B' → Tk H H' → (∀ o, ¬ OwL H (kids r) xs a → H a = some o → H' a = some o) → (∀ b, X b → ¬ Ow H r v b) → cs'.length = (kids r).length → RelRs T B' H' cs' xs → (∀ b, OwL H' cs' xs b → OwL H (kids r) xs b ∨ X b) →
      RelR T B' H' (setKids r cs') v ∧ ∀ b, Ow H' (setKids r cs') v b → Ow H r v b ∨ X b) := by
  have nx : ∀ {cs : List R} {xs : List V} {H' : Hp} {X : Addr → Prop} {cs' : List R} {a : Addr}, ¬ OwL H cs xs a → (∀ b, OwL H' cs' xs b → OwL H cs xs b ∨ X b) → ¬ X a → ¬ OwL H' cs' xs a := fun n s x z => (s _ z).elim n x
  cases r with
  | d _ => simp [kids] at hc
  | ol _ => simp [kids] at hc
  | oi _ _ => simp [kids] at hc
  | od _ _ => simp [kids] at hc
  | nl cs =>
    unfold RelR at h
    obtain ⟨a, ys, rfl, h2, h3, h4⟩ := h
    have ho : ∀ b, OwL H cs ys b → Ow H (.nl cs) (.ref a) b := fun b z => by unfold Ow; exact .inr ⟨a, ys, rfl, .inl h2, z⟩
    refine ⟨a, ys, rfl, .inl h2, h3, ho, fun e tk k x l r s => ?_⟩
    have k' := k _ h4 h2
    have na := nx h4 s fun z => x a z (by unfold Ow; exact .inl rfl)
    refine ⟨by show RelR _ _ _ (.nl _) _; unfold RelR; exact ⟨a, ys, rfl, k', r, na⟩, fun b z => ?_⟩
    have z : Ow _ (.nl _) (.ref a) b := z
    unfold Ow at z
    rcases z with z | ⟨a', xs', e1, e2, e3⟩
    · exact .inl (by unfold Ow; exact .inl z)
    · cases e1; cases HeldAt.inj (.inl k') e2
      exact (s b e3).imp (ho b) id
  | nt cs =>
    unfold RelR at h
    obtain ⟨a, ys, rfl, h2, h3⟩ := h
    have ho : ∀ b, OwL H cs ys b → Ow H (.nt cs) (.ref a) b := fun b z => by unfold Ow; exact ⟨a, ys, rfl, .inr (.inl h2.2), z⟩
    refine ⟨a, ys, rfl, .inr (.inl h2.2), h3, ho, fun e tk k x l r s => ?_⟩
    have k' := tk _ _ h2.2
    refine ⟨by show RelR _ _ _ (.nt _) _; unfold RelR; exact ⟨a, ys, rfl, ⟨e a _ h2.1, k'⟩, r⟩, fun b z => ?_⟩
    have z : Ow _ (.nt _) (.ref a) b := z
    unfold Ow at z
    obtain ⟨a', xs', e1, e2, e3⟩ := z
    cases e1; cases HeldAt.inj (.inr (.inl k')) e2
    exact (s b e3).imp (ho b) id
  | ni c0 cs =>
    unfold RelR at h
    obtain ⟨a, dx, fvs, rfl, h2, h5, h3, h4⟩ := h
    have ho : ∀ b, OwL H cs (fvs.map (·.2)) b → Ow H (.ni c0 cs) (.ref a) b := fun b z => by unfold Ow; exact .inr ⟨a, _, rfl, .inr (.inr (.inl ⟨_, _, _, h2, rfl⟩)), z⟩
    refine ⟨a, _, rfl, .inr (.inr (.inl ⟨_, _, _, h2, rfl⟩)), h3, ho, fun e tk k x l r s => ?_⟩
    have k' := k _ h4 h2
    have na := nx h4 s fun z => x a z (by unfold Ow; exact .inl rfl)
    refine ⟨by show RelR _ _ _ (.ni _ _) _; unfold RelR; exact ⟨a, dx, fvs, rfl, k', by rw [h5]; exact congrArg (List.take · _) l.symm, r, na⟩, fun b z => ?_⟩
    have z : Ow _ (.ni _ _) (.ref a) b := z
    unfold Ow at z
    rcases z with z | ⟨a', xs', e1, e2, e3⟩
    · exact .inl (by unfold Ow; exact .inl z)
    · cases e1; cases HeldAt.inj (.inr (.inr (.inl ⟨_, _, _, k', rfl⟩))) e2
      exact (s b e3).imp (ho b) id
  | nd ks cs =>
    unfold RelR at h
    obtain ⟨a, ys, rfl, h2, h3, h4⟩ := h
    have ho : ∀ b, OwL H cs ys b → Ow H (.nd ks cs) (.ref a) b := fun b z => by unfold Ow; exact .inr ⟨a, ys, rfl, h2.held, z⟩
    refine ⟨a, ys, rfl, h2.held, h3, ho, fun e tk k x l r s => ?_⟩
    have k' := h2.keep e fun o z => k o h4 z
    have na := nx h4 s fun z => x a z (by unfold Ow; exact .inl rfl)
    refine ⟨by show RelR _ _ _ (.nd _ _) _; unfold RelR; exact ⟨a, ys, rfl, k', r, na⟩, fun b z => ?_⟩
    have z : Ow _ (.nd _ _) (.ref a) b := z
    unfold Ow at z
    rcases z with z | ⟨a', xs', e1, e2, e3⟩
    · exact .inl (by unfold Ow; exact .inl z)
    · cases e1; cases HeldAt.inj k'.held e2
      exact (s b e3).imp (ho b) id
theorem at_val : ∀ {p : List Nat} {r q : R} {v u : V}, RelR T B H r v → rAt r p = some q → VAt H v p u → RelR T B H q u ∧ ∀ b, Ow H q u b → Ow H r v b
  | [], r, q, v, u, h, e, z => by cases e; cases z; exact ⟨h, fun _ z => z⟩
  | k :: p, r, q, v, u, h, e, z => by
    unfold rAt at e
    obtain ⟨c, hc, e⟩ := Option.bind_eq_some_iff.mp e
    obtain ⟨a, xs, rfl, h1, h2, h3, _⟩ := node h hc
    obtain ⟨w, g1, g2, g3⟩ := h2.get hc
    obtain ⟨a', xs', w', z1, z2, z3, z4⟩ := z
    cases z1; cases HeldAt.inj h1 z2
    rw [g1] at z3; cases z3
    obtain ⟨k2, k3⟩ := at_val g2 e z4
    exact ⟨k2, fun b z => h3 b (g3 b (k3 b z))⟩
theorem at_put (e : Ex B B') (tk : Tk H H') {X : Addr → Prop} {q q' : R} {u : V} : ∀ {p : List Nat} {r : R} {v : V}, RelR T B H r v → rAt r p = some q → VAt H v p u → RelR T B' H' q' u → (∀ b, Ow H' q' u b → Ow H q u b ∨ X b) → (∀ b, X b → ¬ Ow H r v b) →
    (∀ b o, ¬ Ow H q u b → H b = some o → H' b = some o) → RelR T B' H' (rSet r p q') v ∧ ∀ b, Ow H' (rSet r p q') v b → Ow H r v b ∨ X b
  | [], r, v, h, e1, z, h1, h2, h3, h4 => by cases e1; cases z; exact ⟨h1, h2⟩
  | k :: p, r, v, h, e1, z, h1, h2, h3, h4 => by
    unfold rAt at e1
    obtain ⟨c, hc, e1⟩ := Option.bind_eq_some_iff.mp e1
    obtain ⟨a, xs, rfl, g1, g2, g3, g4⟩ := node h hc
    obtain ⟨w, w1, w2, w3⟩ := g2.get hc
    obtain ⟨a', xs', w', z1, z2, z3, z4⟩ := z
    cases z1; cases HeldAt.inj g1 z2
    rw [w1] at z3; cases z3
    obtain ⟨_, qs⟩ := at_val w2 e1 z4
    obtain ⟨k1, k2⟩ := at_put e tk w2 e1 z4 h1 h2 (fun b z z' => h3 b z (g3 b (w3 b z'))) h4
    obtain ⟨l1, l2⟩ := RelRs.set e tk g2 hc w1 k1 k2 (fun b z z' => h3 b z (g3 b z')) fun b o n => h4 b o fun z => n (qs b z)
    unfold rSet
    rw [hc]
    exact g4 e tk (fun o n => h4 a o fun z => n (w3 a (qs a z))) h3 (by rw [List.length_set]) l1 l2
end
end Fz
set_option Elab.async false
set_option linter.all false
set_option maxRecDepth 100000
set_option maxHeartbeats 2000000
namespace Fz
open PySem L2
section
variable {T : Tab} {E : L2.St → XK} {kp : Nat → Bool} {st s' : Sl} {σ σ' : L2.St} {B B' F H H' : Hp} {i : Nat} {r : R} {v : V}
theorem Sim.hid (S : Sim T st σ B F H) (h : st[i]? = some (some r)) (hv : σ[i]? = some (some v)) : Sim T (st.set i none) σ B (addS F H (Ow H r v)) H := by
  have Sf := S.forget i
  have ne : ∀ {j : Nat} {q : R}, (st.set i none)[j]? = some (some q) → i ≠ j ∧ st[j]? = some (some q) := fun {j q} e => by
    rw [List.getElem?_set] at e
    split at e
    · split at e <;> cases e
    · rename_i z; exact ⟨z, e⟩
  refine ⟨Sf.exB, fun b o q => ?_, fun b o q => ?_, Sf.tup, Sf.len, Sf.rel, fun j q u a h1 h2 h3 => ?_, Sf.sep⟩
  · by_cases z : Ow H r v b
    · rw [addS_in z] at q; exact q
    · rw [addS_out z] at q; exact S.exF b o q
  · by_cases z : Ow H r v b
    · exact (S.own i r v b h hv z).1
    · rw [addS_out z] at q; exact S.dis b o q
  · obtain ⟨n, g1⟩ := ne h1
    obtain ⟨z1, z2⟩ := S.own j q u a g1 h2 h3
    refine ⟨z1, ?_⟩
    rw [addS_out fun z => S.sep i j r q v u a n h hv g1 h2 z h3]
    exact z2
theorem Sim.unhid (S : Sim T st σ B F H) (h : st[i]? = some (some r)) (hv : σ[i]? = some (some v)) (e : Ex B B') (S' : Sim T s' σ B' (addS F H (Ow H r v)) H') : Sim T (s'.set i (some r)) σ B' F H' ∧ Tk H H' ∧ ∀ b o, Ow H r v b → H b = some o → H' b = some o := by
  have tk : Tk H H' := fun b xs z => S'.exB b _ (e b _ (S.tup b xs z))
  have k : ∀ b o, Ow H r v b → H b = some o → H' b = some o := fun b o z q => S'.exF b o (by rw [addS_in z]; exact q)
  obtain ⟨v', hv', rel⟩ := S.rel i r h
  rw [hv] at hv'; cases hv'
  have bk : ∀ b, Ow H' r v b → Ow H r v b := fun b => Ow.back tk rel k
  have inF : ∀ b, Ow H r v b → ∃ o, addS F H (Ow H r v) b = some o := fun b z => by
    rw [addS_in z]; exact (rel.ow z).1
  have frF : ∀ b, addS F H (Ow H r v) b = none → F b = none := fun b z => by
    by_cases y : Ow H r v b
    · obtain ⟨o, w⟩ := inF b y; rw [w] at z; cases z
    · rwa [addS_out y] at z
  have outF : ∀ b o, F b = some o → addS F H (Ow H r v) b = some o := fun b o z => by
    rw [addS_out fun y => by rw [(S.own i r v b h hv y).2] at z; cases z]; exact z
  have at_ : ∀ {j : Nat} {q : R}, (s'.set i (some r))[j]? = some (some q) → (i = j ∧ q = r) ∨ (i ≠ j ∧ s'[j]? = some (some q)) := fun {j q} g => by
    rw [List.getElem?_set] at g
    split at g
    · rename_i z
      split at g
      · cases g; exact .inl ⟨z, rfl⟩
      · cases g
    · rename_i z; exact .inr ⟨z, g⟩
  have cross : ∀ {j : Nat} {q : R} {u : V} {b : Addr}, s'[j]? = some (some q) → σ[j]? = some (some u) → Ow H' r v b → Ow H' q u b → False := fun {j q u b} g1 g2 g3 g4 => by
    obtain ⟨o, w⟩ := inF b (bk b g3)
    rw [(S'.own j q u b g1 g2 g4).2] at w; cases w
  refine ⟨⟨S'.exB, fun b o z => S'.exF b o (outF b o z), fun b o z => S'.dis b o (outF b o z), S'.tup, by rw [List.length_set]; exact S'.len, fun j q g => ?_, fun j q u b g1 g2 g3 => ?_, fun j k' q p u w b n g1 g2 g3 g4 g5 g6 => ?_⟩, tk, k⟩
  · rcases at_ g with ⟨rfl, rfl⟩ | ⟨_, g⟩
    · exact ⟨v, hv, rel.keep e tk k⟩
    · exact S'.rel j q g
  · rcases at_ g1 with ⟨rfl, rfl⟩ | ⟨_, g1⟩
    · rw [hv] at g2; cases g2
      have z := bk b g3
      obtain ⟨o, w⟩ := inF b z
      exact ⟨S'.dis b o w, (S.own i _ v b h hv z).2⟩
    · obtain ⟨z1, z2⟩ := S'.own j q u b g1 g2 g3
      exact ⟨z1, frF b z2⟩
  · rcases at_ g1 with ⟨e1, e2⟩ | ⟨n1, g1⟩
    · rw [e2] at g5
      rw [← e1, hv] at g2; cases g2
      rcases at_ g3 with ⟨e3, e4⟩ | ⟨_, g3⟩
      · exact n (e1.symm.trans e3)
      · exact cross g3 g4 g5 g6
    · rcases at_ g3 with ⟨e1, e2⟩ | ⟨_, g3⟩
      · rw [e2] at g6
        rw [← e1, hv] at g4; cases g4
        exact cross g1 g2 g6 g5
      · exact S'.sep j k' q p u w b n g1 g2 g3 g4 g5 g6
theorem VAt.keep : ∀ {p : List Nat} {r q : R} {v u : V}, RelR T B H r v → rAt r p = some q → Tk H H' → (∀ b o, Ow H r v b → H b = some o → H' b = some o) → VAt H v p u → VAt H' v p u
  | [], r, q, v, u, h, e, tk, k, z => z
  | j :: p, r, q, v, u, h, e, tk, k, z => by
    unfold rAt at e
    obtain ⟨c, hc, e⟩ := Option.bind_eq_some_iff.mp e
    obtain ⟨a, xs, rfl, h1, h2, h3, _⟩ := node h hc
    obtain ⟨w, g1, g2, g3⟩ := h2.get hc
    obtain ⟨a', xs', w', z1, z2, z3, z4⟩ := z
    cases z1; cases HeldAt.inj h1 z2
    rw [g1] at z3; cases z3
    refine ⟨a, xs, w, rfl, ?_, g1, VAt.keep g2 e tk (fun b o z q => k b o (h3 b (g3 b z)) q) z4⟩
    rcases h1 with h1 | h1 | ⟨C, dx, fs, h1, e'⟩ | ⟨w, ep, es, h1, e'⟩
    · exact .inl (k a _ (own_self h (kids_some hc) (by intro ys z; rw [h1] at z; cases z)) h1)
    · exact .inr (.inl (tk a _ h1))
    · exact .inr (.inr (.inl ⟨C, dx, fs, k a _ (own_self h (kids_some hc) (by intro ys z; rw [h1] at z; cases z)) h1, e'⟩))
    · exact .inr (.inr (.inr ⟨w, ep, es, k a _ (own_self h (kids_some hc) (by intro ys z; rw [h1] at z; unfold dG at z; cases z)) h1, e'⟩))
where
  kids_some {r : R} {k : Nat} {c : R} (h : (kids r)[k]? = some c) : kids r ≠ [] := by intro z; rw [z] at h; simp at h
  own_self {r : R} {a : Addr} (h : RelR T B H r (.ref a)) (hk : kids r ≠ []) (nt : ∀ ys, H a ≠ some (.tup ys)) : Ow H r (.ref a) a := by
    cases r with
    | nl cs => unfold Ow; exact .inl rfl
    | ni c cs => unfold Ow; exact .inl rfl
    | nd ks cs => unfold Ow; exact .inl rfl
    | nt cs => unfold RelR at h; obtain ⟨b, ys, e, h2, _⟩ := h; cases e; exact (nt ys h2.2).elim
    | _ => exact (hk rfl).elim
def KeepArgs (T : Tab) (i : Nat) (ta : TA) (f : M (List D)) : Prop := ∀ st σ B F H r v, Sim T st σ B F H → st[i]? = some (some r) → σ[i]? = some (some v) → ∀ xs s, f st = some (.v xs, s) → ∀ Q : List V → Hp → Prop,
  (∀ B' H' vs, Ex B B' → Sim T s σ B' F H' → s[i]? = some (some r) → Tk H H' → (∀ b o, Ow H r v b → H b = some o → H' b = some o) → Reps T B' xs vs → Q vs H') → ta σ H Q
def aHid (i : Nat) (f : M (List D)) : M (List D) := fun st => match st[i]? with
  | some (some r) => (match f (st.set i none) with
    | some (.v xs, s) => some (.v xs, s.set i (some r))
    | _ => none)
  | _ => none
theorem keep_hid {ta : TA} {f : M (List D)} (h : SemA T E ta f) : KeepArgs T i ta (aHid i f) := by
  intro st σ B F H r v S hi hv xs s e Q hQ
  unfold aHid at e
  rw [hi] at e
  simp only at e
  split at e
  · rename_i ys s0 e0
    cases e
    refine h _ σ B _ H (S.hid hi hv) _ _ e0 Q fun B' H' x S' vs hvs => ?_
    obtain ⟨U, tk, k⟩ := S.unhid hi hv x S'
    refine hQ B' H' vs x U ?_ tk k hvs
    rw [List.getElem?_set_self]
    have := S.len
    have l1 := (List.getElem?_eq_some_iff.mp hv).1
    have l2 := S'.len
    omega
  · cases e
def aFull (n : Nat → Nat) (f : M (List D)) : M (List D) := fun st => match f (vwN n st) with
  | some (.v xs, _) => if imms xs = true then some (.v xs, st) else none
  | _ => none
theorem imms_rep' {B B' : Hp} (e : ∀ a xs, B a = some (.tup xs) → B' a = some (.tup xs)) {ds : List D} {xs : List V} (i : imms ds = true) (h : Reps T B ds xs) : Reps T B' ds xs := imms_rep e ds i h
theorem keep_full {ta : TA} {f : M (List D)} (h : SemA T E ta f) : KeepArgs T i ta (aFull (fun c => (T.flds c).length) f) := by
  intro st σ B F H r v S hi hv xs s e Q hQ
  unfold aFull at e
  split at e
  · rename_i ys s0 e0
    split at e
    · rename_i im
      cases e
      refine h _ σ H _ H S.full _ _ e0 Q fun B1 H1 x1 S1 vs hvs => ?_
      obtain ⟨b1, b2, b3⟩ := S.back (x1.trans S1.exB)
      exact hQ _ H1 vs b1 b2 hi (x1.trans S1.exB).tk (fun b o _ q => (x1.trans S1.exB) b o q) (imms_rep' (fun a xs z => b3 a xs (S1.exB a _ z)) im hvs)
    · cases e
  · cases e
def SemP (T : Tab) (i : Nat) (te : TE) (m : Sl → Option (List Nat)) : Prop := ∀ st σ B F H, Sim T st σ B F H → ∀ p, m st = some p → ∀ Q : VK,
  (∀ B' H' u v, Ex B B' → Ex H H' → Sim T st σ B' F H' → σ[i]? = some (some v) → VAt H' v p u → Q u H') → te σ H Q
def pName (i : Nat) : Sl → Option (List Nat) := fun st => match st[i]? with
  | some (some _) => some []
  | _ => none
theorem semP_name : SemP T i (tVar i) (pName i) := by
  intro st σ B F H S p e Q hQ
  unfold pName at e
  split at e
  · rename_i r hi
    cases e
    obtain ⟨v, hv, _⟩ := S.rel i r hi
    exact ⟨v, hv, hQ B H v v (.refl B) (.refl H) S hv rfl⟩
  · cases e
def rGIx (T : Tab) : R2 := fun x y H Q => ∃ a ks xs d j v, x = .ref a ∧ DctAt T H H a ks xs ∧ Rep T H d y ∧ dkOk ks d = true ∧ kpos ks d = some j ∧ xs[j]? = some v ∧ Q v H
def rIxA (T : Tab) : R2 := fun x y H Q => rIx T.K x y H Q ∨ rGIx T x y H Q
def kidAt : R → D → Option Nat
  | .nl cs, .int k => ixN cs.length k
  | .nt cs, .int k => ixN cs.length k
  | .nd ks _, d => if dkOk ks d = true then kpos ks d else none
  | _, _ => none
def pIx (n : Nat → Nat) (i : Nat) (mp : Sl → Option (List Nat)) (fb : M D) : Sl → Option (List Nat) := fun st => match mp st, st[i]? with
  | some p, some (some r) => (match rAt r p, fb (vwN n st) with
    | some q, some (.v d, _) => (kidAt q d).bind fun k => (kids q)[k]?.map fun _ => p ++ [k]
    | _, _ => none)
  | _, _ => none
theorem VAt.snoc {H : Hp} {k : Nat} {w : V} : ∀ {p : List Nat} {v u : V}, VAt H v p u → (∃ a xs, u = .ref a ∧ HeldAt H a xs ∧ xs[k]? = some w) → VAt H v (p ++ [k]) w
  | [], v, u, h, ⟨a, xs, e, h1, h2⟩ => by cases h; exact ⟨a, xs, w, e, h1, h2, rfl⟩
  | j :: p, v, u, h, g => by
    obtain ⟨a, xs, w', e, h1, h2, h3⟩ := h
    exact ⟨a, xs, w', e, h1, h2, VAt.snoc h3 g⟩
theorem kid_val {q : R} {u : V} {d : D} {y : V} {k : Nat} {c : R} {B1 : Hp} (e : Ex B H) (rel : RelR T B H q u) (hk : kidAt q d = some k) (hc : (kids q)[k]? = some c) (ry : Rep T H d y) {Q : VK}
    (h : ∀ a xs w, u = .ref a → HeldAt H a xs → xs[k]? = some w → Q w H) : rIxA T u y H Q := by
  obtain ⟨a, xs, rfl, h1, h2, _, _⟩ := node rel hc
  obtain ⟨w, g1, _, _⟩ := h2.get hc
  have l := h2.length
  unfold kidAt at hk
  split at hk
  · cases rep_int ry
    unfold RelR at rel
    obtain ⟨a', ys, e', q1, _⟩ := rel
    cases e'; cases HeldAt.inj h1 (.inl q1)
    refine .inl (.inl ⟨a, xs, _, w, rfl, rfl, .inl (.inl q1), ?_, h a xs w rfl h1 g1⟩)
    unfold atI
    rw [← l]; erw [hk]; exact g1
  · cases rep_int ry
    unfold RelR at rel
    obtain ⟨a', ys, e', q1, _⟩ := rel
    cases e'; cases HeldAt.inj h1 (.inr (.inl q1.2))
    refine .inl (.inr (.inl ⟨a, xs, _, w, rfl, rfl, .inl (.inl q1.2), ?_, h a xs w rfl h1 g1⟩))
    unfold atI
    rw [← l]; erw [hk]; exact g1
  · split at hk
    · rename_i hd
      unfold RelR at rel
      obtain ⟨a', ys, e', q1, _⟩ := rel
      cases e'; cases HeldAt.inj h1 q1.held
      exact .inr ⟨a, _, xs, d, k, w, rfl, q1.keep e fun o z => z, ry, hd, hk, g1, h a xs w rfl h1 g1⟩
    · cases hk
  · cases hk
theorem semP_ix {te tb : TE} {mp : Sl → Option (List Nat)} {fb : M D} (hp : SemP T i te mp) (hb : SemE T E tb fb) : SemP T i (tOp (rIxA T) te tb) (pIx (fun c => (T.flds c).length) i mp fb) := by
  intro st σ B F H S p e Q hQ
  unfold pIx at e
  split at e
  · rename_i p0 r e1 hi
    split at e
    · rename_i q d s0 e2 e3
      obtain ⟨k, hk, e⟩ := Option.bind_eq_some_iff.mp e
      obtain ⟨c, hc, rfl⟩ := Option.map_eq_some_iff.mp e
      refine hp st σ B F H S p0 e1 _ fun B1 H1 u v x1 y1 S1 hv z => ?_
      refine hb _ σ H1 _ H1 S1.full _ _ e3 _ fun B2 H2 x2 S2 y ry => ?_
      have ex := x2.trans S2.exB
      obtain ⟨b1, b2, b3⟩ := S1.back ex
      obtain ⟨v', hv', rel⟩ := b2.rel i r hi
      rw [hv] at hv'; cases hv'
      obtain ⟨v', hv', rel1⟩ := S1.rel i r hi
      rw [hv] at hv'; cases hv'
      have z2 : VAt H2 v p0 u := VAt.keep rel1 e2 ex.tk (fun b o _ q => ex b o q) z
      obtain ⟨relq, _⟩ := at_val rel e2 z2
      exact kid_val (B1 := B1) b2.exB relq hk hc (Rep.mono S2.exB d ry) fun a xs w e4 e5 e6 => hQ _ H2 w v (x1.trans b1) (y1.trans ex) b2 hv (VAt.snoc z2 ⟨a, xs, e4, e5, e6⟩)
    · cases e
  · cases e
def TyAt (T : Tab) (ty : String) (x : V) (H : Hp) : Prop := tyV T.K ty x H ∨ (ty = "dict" ∧ ∃ a w ep es, x = .ref a ∧ H a = some (dG w a ep es))
def tBZ (T : Tab) (ty : String) (r : V → List V → Hp → VK → Prop) (to : TE) (t : TA) : TE := fun σ H Q => to σ H fun x H1 => TyAt T ty x H1 ∧ t σ H1 fun xs H2 => r x xs H2 Q
structure MutOp (T : Tab) (ty : String) (rr : V → List V → Hp → VK → Prop) (op : R → List D → Option (R × D)) : Prop where
  ty : ∀ {q : R} {xs : List D} {q' : R × D} {u : V} {B H : Hp}, op q xs = some q' → RelR T B H q u → TyAt T ty u H
  run : ∀ {q : R} {xs : List D} {q' : R × D} {u : V} {vs : List V} {B H : Hp}, op q xs = some q' → Ex B H → RelR T B H q u → Reps T B xs vs →
    ∃ a, Ow H q u a ∧ ∀ Q : VK, (∀ o w, (∀ zs, o ≠ .tup zs) → RelR T B (upd H a o) q'.1 u → (∀ b, Ow (upd H a o) q'.1 u b → Ow H q u b) → Rep T B q'.2 w → Q w (upd H a o)) → rr u vs H Q
def eMut (i : Nat) (mp : Sl → Option (List Nat)) (fa : M (List D)) (op : R → List D → Option (R × D)) : M D := fun st => match mp st, st[i]? with
  | some p, some (some r) => (match rAt r p, fa st with
    | some q, some (.v xs, s) => (op q xs).map fun q' => (.v q'.2, s.set i (some (rSet r p q'.1)))
    | _, _ => none)
  | _, _ => none
theorem semE_mut {te : TE} {ta : TA} {mp : Sl → Option (List Nat)} {fa : M (List D)} {ty : String} {rr : V → List V → Hp → VK → Prop} {op : R → List D → Option (R × D)} (hp : SemP T i te mp) (ha : KeepArgs T i ta fa) (ho : MutOp T ty rr op) :
    SemE T E (tBZ T ty rr te ta) (eMut i mp fa op) := by
  intro st σ B F H S fl s hf D hD
  unfold eMut at hf
  split at hf
  · rename_i p r e1 hi
    split at hf
    · rename_i q xs s1 e2 e3
      obtain ⟨q', hq, e⟩ := Option.map_eq_some_iff.mp hf
      cases e
      refine hp st σ B F H S p e1 _ fun B1 H1 u v x1 y1 S1 hv z => ?_
      obtain ⟨v', hv', rel1⟩ := S1.rel i r hi
      rw [hv] at hv'; cases hv'
      obtain ⟨relq, _⟩ := at_val rel1 e2 z
      refine ⟨ho.ty hq relq, ?_⟩
      refine ha st σ B1 F H1 r v S1 hi hv xs s1 e3 _ fun B2 H2 vs x2 S2 hi2 tk k hvs => ?_
      obtain ⟨v', hv', rel2⟩ := S2.rel i r hi2
      rw [hv] at hv'; cases hv'
      have z2 := VAt.keep rel1 e2 tk k z
      obtain ⟨relq2, sub2⟩ := at_val rel2 e2 z2
      obtain ⟨a, g1, g5⟩ := ho.run hq S2.exB relq2 hvs
      refine g5 _ fun o w g2 g3 g4 rw' => ?_
      have nt : ∀ xs, H2 a ≠ some (.tup xs) := (relq2.ow g1).2
      have tk' : Tk H2 (upd H2 a o) := fun b xs w => by rw [upd_ne (by intro e; subst e; exact nt xs w)]; exact w
      obtain ⟨r1, r2⟩ := at_put (X := fun _ => False) (Ex.refl B2) tk' rel2 e2 z2 g3 (fun b w => .inl (g4 b w)) (fun _ w => w.elim) fun b ob n w => by rw [upd_ne (by intro e; subst e; exact n g1)]; exact w
      exact hD B2 _ (x1.trans x2) (S2.change hi2 hv (sub2 a g1) g2 r1 fun b w => (r2 b w).resolve_right id) w rw'
    · cases hf
  · cases hf
end
end Fz
set_option Elab.async false
set_option linter.all false
set_option maxRecDepth 100000
set_option maxHeartbeats 2000000
namespace Fz
open PySem L2 PySem.Spec PyProof.Rows
section
variable {X : Cx} {T : Tab} {pins : List (Addr × Obj)} {σ : L2.St} {H : Hp} {s : Shared}
theorem tyAt_is {ty : String} {x : V} {v : Value} (hK : X.K = T.K) (I : Inv X pins σ H s) (r : RelV x v) (h : TyAt T ty x H) : s.TypeIs v ty ∧ ∀ a, v = .ref a → ∃ ob, s.heap.get? a = some ob ∧ ob.dict = none := by
  rcases h with h | ⟨rfl, a, w, ep, es, rfl, h⟩
  · exact tyV_is I r (by rw [hK]; exact h)
  · cases (show v = Value.ref a from r)
    obtain ⟨⟨o, en, h1, h2, _⟩, _⟩ := (show ObjOk X.prog X.w H s.heap a (dG w a ep es) from I.hok a _ h)
    exact ⟨⟨o, h1, h2.1⟩, fun b e => by cases e; exact ⟨o, h1, h2.2.1⟩⟩
variable {o e : Expr} {es : List Expr} {to : TE} {t : TA} {name : Str} {apos cpos : Pos} {ty id : String} {r : V → List V → Hp → VK → Prop}
theorem pe_bz0 (hK : X.K = T.K) (pa : PlainAttrs ty) (slot : Slot ty name id) (hty : typeOf (.builtin id) = pure (.type "method_descriptor")) (hm : MtR X id r) (ho : PE X o to)
    (hbase : attributeBase o name X.env (eval o X.env) = eval o X.env := by rfl) (hline : (apos.endLine == cpos.line) = true := by rfl) : PE X (.Call (.Attribute o name apos) [] [] cpos) (tBZ T ty r to tNil) := by
  refine ⟨fun pins s σ H Q I h => ?_⟩
  refine wpAny_Call_method0_late hbase hline (thn (ho.run pins s σ H _ I h) fun v s1 ⟨x, H1, I1, r1, ty, q1⟩ => ?_)
  obtain ⟨h1, h2⟩ := tyAt_is hK I1 r1 ty
  exact ⟨_, id, pa, slot, hty, h1, h2, Calls.callWith_builtin rfl (PySem.evalArgs_none (hm pins s1 σ H1 x [] v [] Q I1 r1 .nil q1))⟩
theorem pe_bz (hK : X.K = T.K) (pa : PlainAttrs ty) (slot : Slot ty name id) (hty : typeOf (.builtin id) = pure (.type "method_descriptor")) (hm : MtR X id r) (ho : PE X o to) (ha : PA X (e :: es) t)
    (hbase : attributeBase o name X.env (eval o X.env) = eval o X.env := by rfl)
    (hfew : ((backTo cpos (starEach (e :: es) X.env)).all (fun x => !x.1) && (backToKw cpos (keywordEach [] X.env)).all (fun x => x.1.isSome)
      && decide ((e :: es).length + ([] : List Keyword).length + (if ([] : List Keyword).isEmpty then 0 else 1) < 30)) = true := by rfl)
    (hline : (apos.endLine == cpos.line) = true := by rfl) (hs : starEach (e :: es) X.env = (false, eval e X.env) :: starEach es X.env := by rfl) (hplain : (backTo cpos (starEach es X.env)).any (·.1) = false := by rfl) :
    PE X (.Call (.Attribute o name apos) (e :: es) [] cpos) (tBZ T ty r to t) := by
  refine ⟨fun pins s σ H Q I h => ?_⟩
  refine wpAny_Call_method_late hbase hfew hline rfl (thn (ho.run pins s σ H _ I h) fun v s1 ⟨x, H1, I1, r1, ty, q1⟩ => ?_)
  obtain ⟨h1, h2⟩ := tyAt_is hK I1 r1 ty
  refine ⟨_, id, pa, slot, hty, h1, h2, ?_⟩
  have hA := ha.run cpos pins s1 σ H1 _ I1 q1
  rw [hs] at hA ⊢
  refine Calls.callWith_builtin (by show (false || (backTo cpos (starEach es X.env)).any (·.1)) = false; rw [hplain] <;> rfl) (Calls.evalArgs_plain ?_)
  exact thn hA fun us s2 ⟨vs, H2, I2, r2, q2⟩ => hm pins s2 σ H2 x vs v us Q I2 r1 r2 q2
theorem ix_g (hu : X.A.units + 65 < cLine) (hK : X.K = T.K) (hw : X.w = T.w) : IxR X (rGIx T) := by
  intro value slice pins s σ H x y v u Q I rx ry h hs
  obtain ⟨a, ks, xs, d, j, w, rfl, c, rd, hd, hj, hx, q⟩ := h
  cases (show v = Value.ref a from rx)
  have hT : s.TypeIs (.ref a) "dict" := by
    obtain ⟨ep, es, h1, _⟩ := c
    obtain ⟨⟨o, en, g1, g2, _⟩, _⟩ := (show ObjOk X.prog X.w H s.heap a (dG T.w a ep es) from I.hok a _ h1)
    exact ⟨o, g1, g2.1⟩
  unfold subscriptTail
  refine wpAny_bind ?_
  rw [getitemInPython_of_ne hT.not_modules]
  refine wpAny_bind (wpAny_specialOf hT PySem.F.slot_dict_getitem.lookup ?_)
  have fin : wpAny (model X.prog X.w) X.A (subscripted slice false (.ref a) u) (fun r s₃ => wpAny (model X.prog X.w) X.A (letTemporaryGo value (.ref a) r >>= fun _ => pure r) (EP X pins σ Q) X.xe s₃) X.xe s := by
    rw [hs]
    refine wpAny_operating (g_get (by omega) I hK hw c hd rd ry hj hx fun w' s' I' rw' => ?_)
    exact wpAny_bind (wpAny_letTemporaryGo (wpAny_pure ⟨w, H, I', rw', q⟩))
  first
    | exact wpAny_pure (wpAny_bind fin)
    | exact wpAny_bind (wpAny_pure (wpAny_bind fin))
    | exact wpAny_bind fin
theorem ix_A (hu : X.A.units + 65 < cLine) (hK : X.K = T.K) (hw : X.w = T.w) : IxR X (rIxA T) := by
  refine IxR.or ?_ (ix_g hu hK hw)
  rw [← hK]; exact ix_seq
end
section
variable {T : Tab} {B H : Hp} {u : V}
def opApp : R → List D → Option (R × D)
  | .ol xs, [x] => if xs.length < sizeLine then some (.ol (xs ++ [x]), .non) else none
  | .nl cs, [x] => if cs.length < sizeLine then some (.nl (cs ++ [.d x]), .non) else none
  | _, _ => none
theorem relRs_snoc {x : D} {y : V} (rx : Rep T B x y) : ∀ {cs : List R} {xs : List V}, RelRs T B H cs xs → RelRs T B H (cs ++ [.d x]) (xs ++ [y]) ∧ ∀ b, OwL H (cs ++ [.d x]) (xs ++ [y]) b → OwL H cs xs b
  | [], xs, h => by
    unfold RelRs at h; subst h
    refine ⟨?_, fun b z => ?_⟩
    · show RelRs T B H [.d x] [y]
      unfold RelRs
      exact ⟨y, [], rfl, by unfold RelR; exact rx, by unfold RelRs; rfl, fun b z _ => by unfold Ow at z; exact z⟩
    · have z : OwL H [.d x] [y] b := z
      unfold OwL at z
      obtain ⟨y', t', e, z⟩ := z
      cases e
      rcases z with z | z
      · unfold Ow at z; exact z.elim
      · exact z
  | c :: cs, xs, h => by
    unfold RelRs at h
    obtain ⟨v, t, rfl, h2, h3, h4⟩ := h
    obtain ⟨g1, g2⟩ := relRs_snoc rx h3
    refine ⟨?_, fun b z => ?_⟩
    · show RelRs T B H (c :: (cs ++ [.d x])) (v :: (t ++ [y]))
      unfold RelRs
      exact ⟨v, _, rfl, h2, g1, fun b z1 z2 => h4 b z1 (g2 b z2)⟩
    · have z : OwL H (c :: (cs ++ [.d x])) (v :: (t ++ [y])) b := z
      unfold OwL at z ⊢
      obtain ⟨y', t', e, z⟩ := z
      cases e
      exact ⟨v, t, rfl, z.imp id (g2 b)⟩
theorem rel_ol {a : Addr} {xs : List D} {ys : List V} (h : H a = some (.lst ys)) (r : Reps T B xs ys) : RelR T B H (.ol xs) (.ref a) := by unfold RelR; exact ⟨a, ys, rfl, h, r⟩
theorem own_ol {H' : Hp} {xs xs' : List D} : ∀ b, Ow H' (.ol xs') u b → Ow H (.ol xs) u b := fun b z => by unfold Ow at z ⊢; exact z
theorem m_app : MutOp T "list" rAppend opApp where
  ty := fun {q xs q' u B H} h r => by
    unfold opApp at h
    split at h
    · unfold RelR at r; obtain ⟨a, ys, rfl, h2, _⟩ := r; exact .inl (.inl ⟨rfl, _, SqL.of h2⟩)
    · unfold RelR at r; obtain ⟨a, ys, rfl, h2, _⟩ := r; exact .inl (.inl ⟨rfl, _, SqL.of h2⟩)
    · cases h
  run := fun {q xs q' u vs B H} h e r rs => by
    unfold opApp at h
    split at h
    · split at h
      · rename_i hl
        cases h
        obtain ⟨y, rfl, ry⟩ := reps1 rs
        unfold RelR at r
        obtain ⟨a, ys, rfl, h2, h3⟩ := r
        exact ⟨a, by unfold Ow; rfl, fun Q q => ⟨a, ys, y, rfl, rfl, h2, by rw [← h3.length]; exact hl, q _ _ (fun _ z => nomatch z) (rel_ol upd_same (h3.append (reps_cons ry reps_nil))) own_ol rfl⟩⟩
      · cases h
    · rename_i cs x
      split at h
      · rename_i hl
        cases h
        obtain ⟨y, rfl, ry⟩ := reps1 rs
        unfold RelR at r
        obtain ⟨a, ys, rfl, h2, h3, h4⟩ := r
        have tk : Tk H (upd H a (.lst (ys ++ [y]))) := fun b zs w => by rw [upd_ne (by intro e; subst e; rw [h2] at w; cases w)]; exact w
        have kp : ∀ p o, OwL H cs ys p → H p = some o → upd H a (.lst (ys ++ [y])) p = some o := fun p o w g => by rw [upd_ne (by intro e; subst e; exact h4 w)]; exact g
        have r2 := h3.keep (Ex.refl B) tk kp
        obtain ⟨g1, g2⟩ := relRs_snoc ry r2
        have back : ∀ b, OwL (upd H a (.lst (ys ++ [y]))) (cs ++ [.d x]) (ys ++ [y]) b → OwL H cs ys b := fun b w => OwL.back tk h3 kp (g2 b w)
        refine ⟨a, by unfold Ow; exact .inl rfl, fun Q q => ⟨a, ys, y, rfl, rfl, h2, by rw [← h3.length]; exact hl, q _ _ (fun _ z => nomatch z) ?_ (fun b w => ?_) rfl⟩⟩
        · unfold RelR
          exact ⟨a, _, rfl, upd_same, g1, fun w => h4 (back a w)⟩
        · unfold Ow at w ⊢
          rcases w with w | ⟨a', xs', e1, e2, e3⟩
          · exact .inl w
          · cases e1; cases HeldAt.inj (.inl upd_same) e2
            exact .inr ⟨a, ys, rfl, .inl h2, back b e3⟩
      · cases h
    · cases h
def opRev : R → List D → Option (R × D)
  | .ol xs, [] => some (.ol xs.reverse, .non)
  | _, _ => none
theorem Reps.reverse {ds : List D} {xs : List V} (h : Reps T B ds xs) : Reps T B ds.reverse xs.reverse := by
  induction ds generalizing xs with
  | nil => unfold Reps at h; subst h; exact reps_nil
  | cons d ds ih =>
    unfold Reps at h
    obtain ⟨v, r, rfl, h1, h2⟩ := h
    rw [List.reverse_cons, List.reverse_cons]
    exact (ih h2).append (reps_cons h1 reps_nil)
def opClr : R → List D → Option (R × D)
  | .ol _, [] => some (.ol [], .non)
  | .nl _, [] => some (.ol [], .non)
  | _, _ => none
theorem m_clr : MutOp T "list" rClear opClr where
  ty := fun {q xs q' u B H} h r => by
    unfold opClr at h
    split at h
    · unfold RelR at r; obtain ⟨a, ys, rfl, h2, _⟩ := r; exact .inl (.inl ⟨rfl, _, SqL.of h2⟩)
    · unfold RelR at r; obtain ⟨a, ys, rfl, h2, _⟩ := r; exact .inl (.inl ⟨rfl, _, SqL.of h2⟩)
    · cases h
  run := fun {q xs q' u vs B H} h e r rs => by
    unfold opClr at h
    split at h
    · cases h
      unfold Reps at rs; subst rs
      unfold RelR at r
      obtain ⟨a, ys, rfl, h2, h3⟩ := r
      exact ⟨a, by unfold Ow; rfl, fun Q q => ⟨a, ys, rfl, rfl, h2, q _ _ (fun _ z => nomatch z) (rel_ol upd_same reps_nil) own_ol rfl⟩⟩
    · cases h
      unfold Reps at rs; subst rs
      unfold RelR at r
      obtain ⟨a, ys, rfl, h2, h3⟩ := r
      exact ⟨a, by unfold Ow; exact .inl rfl, fun Q q => ⟨a, ys, rfl, rfl, h2, q _ _ (fun _ z => nomatch z) (rel_ol upd_same reps_nil) (fun b z => by unfold Ow at z ⊢; exact .inl z) rfl⟩⟩
    · cases h
theorem Reps.dropLast {ds : List D} {xs : List V} (h : Reps T B ds xs) : Reps T B ds.dropLast xs.dropLast := by
  induction ds generalizing xs with
  | nil => unfold Reps at h; subst h; exact reps_nil
  | cons d ds ih =>
    unfold Reps at h
    obtain ⟨v, r, rfl, h1, h2⟩ := h
    cases ds with
    | nil => unfold Reps at h2; subst h2; exact reps_nil
    | cons e ds =>
      have h2' := h2
      unfold Reps at h2
      obtain ⟨w, q, rfl, _, _⟩ := h2
      exact reps_cons h1 (ih h2')
theorem upd_id {H : Hp} {a : Addr} {o : HO} (h : H a = some o) : upd H a o = H := by
  funext b
  by_cases z : b = a
  · subst z; rw [upd_same, h]
  · rw [upd_ne z]
def rGSetd (T : Tab) : V → List V → Hp → VK → Prop := fun x vs H Q => ∃ B a ks xs d y v, x = .ref a ∧ vs = [y, v] ∧ Ex B H ∧ DctAt T B H a ks xs ∧ dkOk ks d = true ∧ Rep T B d y ∧ xs.length < sizeLine ∧
  (∀ j w, kpos ks d = some j → xs[j]? = some w → Q w H) ∧ (kpos ks d = none → ∀ o, (∀ zs, o ≠ .tup zs) → DctAt T B (upd H a o) a (dputK ks d) (dputV ks xs d v) → Q v (upd H a o))
theorem mt_gsetd {X : Cx} (hu : X.A.units + 65 < cLine) (hK : X.K = T.K) (hw : X.w = T.w) : MtR X "dict.setdefault" (rGSetd T) := by
  intro pins s σ H x xs v us Q I rx rs h
  obtain ⟨B, a, ks, xs', d, y, w, rfl, rfl, e, c, hd, ry, hl, q1, q2⟩ := h
  obtain ⟨u1, u2, rfl, r1, r2⟩ := vals2 rs
  cases (show v = Value.ref a from rx)
  exact g_setd (by omega) I hK hw e c hd ry r1 r2 hl (fun j w w' s' h1 h2 h3 I' => ⟨w, H, I', h3, q1 j w h1 h2⟩) fun h1 o s' h2 h3 I' => ⟨_, _, I', r2, q2 h1 o h2 h3⟩
def opSetd : R → List D → Option (R × D)
  | .od ks vs, [d, x] => if dkOk ks d = true ∧ vs.length < sizeLine then (match kpos ks d with
    | some j => (vs[j]?).map fun w => (.od ks vs, w)
    | none => some (.od (ks ++ [d]) (vs ++ [x]), x)) else none
  | _, _ => none
theorem m_setd : MutOp T "dict" (rGSetd T) opSetd where
  ty := fun {q xs q' u B H} h r => by
    unfold opSetd at h
    split at h
    · unfold RelR at r; obtain ⟨a, ys, rfl, ⟨ep, es, h2, _⟩, _⟩ := r; exact .inr ⟨rfl, a, _, ep, es, rfl, h2⟩
    · cases h
  run := fun {q xs q' u vs B H} h e r rs => by
    unfold opSetd at h
    split at h
    · rename_i ks ws d x
      split at h
      · rename_i hc
        unfold RelR at r
        obtain ⟨a, ys, rfl, c, h3⟩ := r
        obtain ⟨y, v, rfl, r1, r2⟩ := reps2 rs
        have same : ∀ {o : HO}, H a = some o → upd H a o = H := fun {o} h => upd_id h
        obtain ⟨o0, ho0⟩ := c.held.some
        refine ⟨a, by unfold Ow; rfl, fun Q q => ⟨B, a, ks, ys, d, y, v, rfl, rfl, e, c, hc.1, r1, by rw [← h3.length]; exact hc.2, fun j w hj hw => ?_, fun hj o ho c' => ?_⟩⟩
        · rw [hj] at h
          obtain ⟨z, hz, e⟩ := Option.map_eq_some_iff.mp h
          cases e
          obtain ⟨w', hw', rw'⟩ := h3.get hz
          rw [hw] at hw'; cases hw'
          have := q o0 w (fun zs z => c.notTup zs (by rw [ho0, z])) (by rw [same ho0]; exact relR_od c h3) (fun b z => by rw [same ho0] at z; exact z) rw'
          rwa [same ho0] at this
        · rw [hj] at h
          cases h
          unfold dputK dputV at c'
          rw [hj] at c'
          exact q o v ho (relR_od c' (h3.append (reps_cons r2 reps_nil))) (fun b z => by unfold Ow at z ⊢; exact z) r2
      · cases h
    · cases h
end
end Fz
set_option Elab.async false
set_option linter.all false
set_option maxRecDepth 100000
set_option maxHeartbeats 2000000
namespace Fz
open PySem L2 PySem.Spec PyProof.Rows
section
variable {ι : Type} {T : Tab} {E : L2.St → XK} {X : ι → Cx} {kp : Nat → Bool} {pos apos cpos p p2 : Pos} {e o a : Expr} {es : List Expr} {fa fb : M D} {fs : M (List D)} {x name : Str} {i : Nat} {mp : Sl → Option (List Nat)}
def XP (T : Tab) (E : L2.St → XK) (X : ι → Cx) (i : Nat) (e : Expr) (m : Sl → Option (List Nat)) : Prop := ∃ te, (∀ j, PE (X j) e te) ∧ SemP T i te m
def XKA (T : Tab) (E : L2.St → XK) (X : ι → Cx) (i : Nat) (es : List Expr) (f : M (List D)) : Prop := ∃ ta, (∀ j, PA (X j) es ta) ∧ KeepArgs T i ta f
theorem xp_name (i : Nat) (hN : ∀ j, (X j).N[i]? = some x := by intro j; rfl) (hv : ∀ j, Vis (X j).env.scope x := by intro j; first | exact Or.inl rfl | exact Or.inr (Or.inl rfl) | exact Or.inr (Or.inr rfl))
    (hd : (x == ("__debug__" : Str)) = false := by decide +kernel) (hcd : (x == ("__classdict__" : Str)) = false := by decide +kernel) : XP T E X i (.Name x pos) (pName i) := ⟨_, fun j => pe_var (hN j) (hv j) hd hcd, semP_name⟩
theorem xp_ix (hu : Rm X) (hp : XP T E X i o mp) (hb : XE T E X e fb) (hs : PlainIx e := by exact fun _ _ => rfl) (hK : ∀ j, (X j).K = T.K := by intro j; rfl) (hW : ∀ j, (X j).w = T.w := by intro j; rfl) : XP T E X i (.Subscript o e pos) (pIx (fun c => (T.flds c).length) i mp fb) :=
  let ⟨_, a1, a2⟩ := hp; let ⟨_, b1, b2⟩ := hb; ⟨_, fun j => pe_ix (ix_A (by have := hu j; omega) (hK j) (hW j)) (a1 j) (b1 j) hs, semP_ix a2 b2⟩
theorem xk_hid (h : XA T E X es fs) : XKA T E X i es (aHid i fs) := let ⟨_, a1, a2⟩ := h; ⟨_, a1, keep_hid a2⟩
theorem xk_full (h : XA T E X es fs) : XKA T E X i es (aFull (fun c => (T.flds c).length) fs) := let ⟨_, a1, a2⟩ := h; ⟨_, a1, keep_full a2⟩
def aNo : M (List D) := ret []
theorem keep_no : KeepArgs T i tNil aNo := by
  intro st σ B F H r v S hi hv xs s e Q hQ
  cases e
  exact hQ B H [] (.refl B) S hi (Tk.refl H) (fun _ _ _ z => z) reps_nil
def pFld (i : Nat) (ix : Nat → Option Nat) (mp : Sl → Option (List Nat)) : Sl → Option (List Nat) := fun st => match mp st, st[i]? with
  | some p, some (some r) => (match rAt r p with
    | some (.ni c cs) => (ix c).bind fun k => (cs[k]?).map fun _ => p ++ [k]
    | _ => none)
  | _, _ => none
theorem semP_fld {te : TE} {ix : Nat → Option Nat} {f : Str} (hx : ∀ c i, ix c = some i → ClsOk T c ∧ (T.flds c)[i]? = some f) (hp : SemP T i te mp) : SemP T i (tFld T.K te f) (pFld i ix mp) := by
  intro st σ B F H S p e Q hQ
  unfold pFld at e
  split at e
  · rename_i p0 r e1 hi
    split at e
    · rename_i c cs e2
      obtain ⟨k, hk, e⟩ := Option.bind_eq_some_iff.mp e
      obtain ⟨c', hc, rfl⟩ := Option.map_eq_some_iff.mp e
      refine hp st σ B F H S p0 e1 _ fun B1 H1 u v x1 y1 S1 hv z => ?_
      obtain ⟨v', hv', rel1⟩ := S1.rel i r hi
      rw [hv] at hv'; cases hv'
      obtain ⟨relq, _⟩ := at_val rel1 e2 z
      obtain ⟨ok, hf⟩ := hx c k hk
      unfold RelR at relq
      obtain ⟨a, dx, fvs, rfl, h2, h3, h4, _⟩ := relq
      obtain ⟨w, g1, _, _⟩ := h4.get hc
      have hlt : k < cs.length := (List.getElem?_eq_some_iff.mp hc).1
      have nd : (fvs.map (·.1)).Nodup := by rw [h3]; exact ok.nd.sublist (List.take_sublist _ _)
      have at_ : (fvs.map (·.1))[k]? = some f := by rw [h3, List.getElem?_take, if_pos hlt]; exact hf
      exact ⟨a, T.cls c, dx, fvs, w, rfl, h2, ok.cls, ok.no f (List.mem_of_getElem? hf), lookup_at nd at_ g1, hQ B1 H1 w v x1 y1 S1 hv (VAt.snoc z ⟨a, _, rfl, .inr (.inr (.inl ⟨_, _, _, h2, rfl⟩)), g1⟩)⟩
    · cases e
  · cases e
theorem xp_fld {ix : Nat → Option Nat} {f : Str} (hx : ∀ c i, ix c = some i → ClsOk T c ∧ (T.flds c)[i]? = some f) (hp : XP T E X i o mp) (hK : ∀ j, (X j).K = T.K := by intro j; rfl) (hb : ∀ j, attributeBase o f (X j).env (eval o (X j).env) = eval o (X j).env := by intro j; rfl) : XP T E X i (.Attribute o f pos) (pFld i ix mp) :=
  let ⟨_, a1, a2⟩ := hp; ⟨_, fun j => by rw [← hK j]; exact pe_fld (a1 j) (hb j), semP_fld hx a2⟩
theorem xe_mut0 {ty id : String} {rr : V → List V → Hp → VK → Prop} {op : R → List D → Option (R × D)} (pa : PlainAttrs ty) (slot : Slot ty name id) (hty : typeOf (.builtin id) = pure (.type "method_descriptor")) (hm : ∀ j, MtR (X j) id rr) (mo : MutOp T ty rr op)
    (hp : XP T E X i o mp) (hK : ∀ j, (X j).K = T.K := by intro j; rfl) (hbase : ∀ j, attributeBase o name (X j).env (eval o (X j).env) = eval o (X j).env := by intro j; rfl) (hline : (apos.endLine == cpos.line) = true := by rfl) : XE T E X (.Call (.Attribute o name apos) [] [] cpos) (eMut i mp aNo op) := by
  obtain ⟨_, a1, a2⟩ := hp
  exact ⟨_, fun j => pe_bz0 (hK j) pa slot hty (hm j) (a1 j) (hbase j) hline, semE_mut a2 keep_no mo⟩
theorem xe_mut {ty id : String} {rr : V → List V → Hp → VK → Prop} {op : R → List D → Option (R × D)} (pa : PlainAttrs ty) (slot : Slot ty name id) (hty : typeOf (.builtin id) = pure (.type "method_descriptor")) (hm : ∀ j, MtR (X j) id rr) (mo : MutOp T ty rr op)
    (hp : XP T E X i o mp) (ha : XKA T E X i (e :: es) fs) (hK : ∀ j, (X j).K = T.K := by intro j; rfl) (hbase : ∀ j, attributeBase o name (X j).env (eval o (X j).env) = eval o (X j).env := by intro j; rfl)
    (hfew : ∀ j, ((backTo cpos (starEach (e :: es) (X j).env)).all (fun x => !x.1) && (backToKw cpos (keywordEach [] (X j).env)).all (fun x => x.1.isSome)
      && decide ((e :: es).length + ([] : List Keyword).length + (if ([] : List Keyword).isEmpty then 0 else 1) < 30)) = true := by intro j; rfl)
    (hline : (apos.endLine == cpos.line) = true := by rfl) (hs : ∀ j, starEach (e :: es) (X j).env = (false, eval e (X j).env) :: starEach es (X j).env := by intro j; rfl) (hplain : ∀ j, (backTo cpos (starEach es (X j).env)).any (·.1) = false := by intro j; rfl) :
    XE T E X (.Call (.Attribute o name apos) (e :: es) [] cpos) (eMut i mp fs op) := by
  obtain ⟨_, a1, a2⟩ := hp
  obtain ⟨_, b1, b2⟩ := ha
  exact ⟨_, fun j => pe_bz (hK j) pa slot hty (hm j) (a1 j) (b1 j) (hbase j) (hfew j) hline (hs j) (hplain j), semE_mut a2 b2 mo⟩
end
end Fz
set_option Elab.async false
set_option linter.all false
set_option maxRecDepth 100000
set_option maxHeartbeats 2000000
namespace Fz
open PySem L2 PySem.Spec PyProof.Rows
def dIxD : D → D → Option D
  | .dct ks vs, d => if dkOk ks d = true then (kpos ks d).bind fun j => vs[j]? else none
  | _, _ => none
theorem p_ixD {T : Tab} : Prim2 T (rGIx T) dIxD := by
  intro x y z vx vy B H Q e hx hy hz k
  unfold dIxD at hz
  split at hz
  · split at hz
    · rename_i hd
      obtain ⟨j, hj, hv⟩ := Option.bind_eq_some_iff.mp hz
      rw [rep_dct] at hx
      obtain ⟨a, xs, rfl, c, r⟩ := hx
      obtain ⟨w, hw, rw'⟩ := r.get hv
      exact ⟨a, _, xs, _, j, w, rfl, c.keep e fun o z => e a o z, Rep.mono e _ hy, hd, hj, hw, k _ B H (.refl e) rw'⟩
    · cases hz
  · cases hz
def dLenD : List D → Option D
  | [.dct ks _] => if ks.all keyK = true ∨ ks.all tupK = true then some (.int (ks.length : Nat)) else none
  | _ => none
def rGLen (T : Tab) : List V → Hp → VK → Prop := fun xs H Q => ∃ a ks vs, xs = [.ref a] ∧ DctAt T H H a ks vs ∧ (ks.all keyK = true ∨ ks.all tupK = true) ∧ Q (.int (ks.length : Nat)) H
theorem call_glen {X : Cx} {T : Tab} (hK : X.K = T.K) (hw : X.w = T.w) : CallR X (.builtin "len") (rGLen T) := by
  intro pins s σ H xs us Q I r h
  obtain ⟨a, ks, vs, rfl, ⟨ep, es, h1, h2, h3, rfl⟩, hk, q⟩ := h
  obtain ⟨u, rfl, rx⟩ := vals1 r
  cases (show u = Value.ref a from rx)
  rw [← hw] at h1
  have l3 := h3.length
  rw [List.length_map] at l3
  have z := h2.len
  rw [sizeLine_eq] at z
  rcases hk with hk | hk
  · obtain ⟨kvs, ws, rfl, rr, dd⟩ := dgV I.hok h1 h2 (allV h3 hk)
    have l : ks.length = ws.length := by rw [l3, ← rr.length]; simp [ofK]
    refine call_len_dict h2.sm dd (by omega) ?_
    rw [← l]
    exact ⟨.int (ks.length : Nat), H, I.tok _, ⟨_, rfl⟩, q⟩
  · obtain ⟨xs, ys, rfl, rr, dd⟩ := dgT I.hok (by rw [← hK]; exact I.kIn) h1 h2 h3 (allT h3 hk)
    have l : ks.length = ys.length := by rw [l3, ← XV.length rr]; simp [ofX]
    refine call_len_dictH h2.sm dd (by omega) ?_
    rw [← l]
    exact ⟨.int (ks.length : Nat), H, I.tok _, ⟨_, rfl⟩, q⟩
theorem p_lenD {T : Tab} : PrimN T (rGLen T) dLenD := by
  intro xs z vs B H Q e hx hz k
  unfold dLenD at hz
  split at hz
  · split at hz
    · rename_i hk
      cases hz
      obtain ⟨v, rfl, r⟩ := reps1 hx
      rw [rep_dct] at r
      obtain ⟨a, xs, rfl, c, _⟩ := r
      exact ⟨a, _, xs, rfl, c.keep e fun o z => e a o z, hk, k _ B H (.refl e) rfl⟩
    · cases hz
  · cases hz
theorem krep_vv {T : Tab} {B : Hp} : ∀ {ks : List D} {es : List KX}, KReps T B ks es → ks.all (fun d => match d with | .str s => PyData.strOk s | _ => true) = true → Reps T B ks (es.map KX.vv)
  | [], es, h, _ => by unfold KReps at h; subst h; exact reps_nil
  | d :: ds, es, h, hs => by
    unfold KReps at h
    obtain ⟨x, r, rfl, h1, h2⟩ := h
    rw [List.all_cons] at hs
    have hs := (Bool.and_eq_true _ _).mp hs
    refine reps_cons ?_ (krep_vv h2 hs.2)
    cases x with
    | v k =>
      have h1 : DKey d k := h1
      cases d <;> first | exact h1.elim | skip
      · cases (show k = _ from h1); unfold Rep; rfl
      · cases (show k = _ from h1); unfold Rep; exact ⟨rfl, hs.1⟩
    | t k a => exact h1.2
def okKs (ks : List D) : Bool := ks.all fun d => match d with
  | .str s => PyData.strOk s
  | _ => true
def iDk (fa : M D) : M (List D) := bnd fa fun x => opt (match x with
  | .dct ks _ => if okKs ks = true then some ks else none
  | _ => none)
def iDv (fa : M D) : M (List D) := bnd fa fun x => opt (match x with
  | .dct _ vs => some vs
  | _ => none)
def iDi (fa : M D) : M (List D) := bnd fa fun x => opt (match x with
  | .dct ks vs => if okKs ks = true ∧ ks.length = vs.length then some (zipD ks vs) else none
  | _ => none)
section
variable {T : Tab} {E : L2.St → XK} {fa : M D} {te : TE}
end
section
variable {ι : Type} {T : Tab} {E : L2.St → XK} {X : ι → Cx} {pos apos cpos : Pos} {a b e tg : Expr} {fa fb : M D} {fs : M (List D)}
theorem xe_ixD (hu : Rm X) (ha : XE T E X a fa) (hb : XE T E X b fb) (hs : PlainIx b := by exact fun _ _ => rfl) (hK : ∀ j, (X j).K = T.K := by intro j; rfl) (hW : ∀ j, (X j).w = T.w := by intro j; rfl) : XE T E X (.Subscript a b pos) (eBin dIxD fa fb) :=
  let ⟨_, a1, a2⟩ := ha; let ⟨_, b1, b2⟩ := hb; ⟨_, fun j => pe_ix (ix_g (by have := hu j; omega) (hK j) (hW j)) (a1 j) (b1 j) hs, semE_op p_ixD a2 b2⟩
theorem xe_lenD {p : Pos} (hm : ∀ j, (X j).mg "len" = none) (ha : XA T E X [e] fs) (hK : ∀ j, (X j).K = T.K := by intro j; rfl) (hW : ∀ j, (X j).w = T.w := by intro j; rfl) (hg : ∀ j, Gl (X j) "len" := by intro j; rfl) (he : ∀ j, starEach [e] (X j).env = (false, eval e (X j).env) :: starEach [] (X j).env := by intro j; rfl) (hpl : ∀ j, (backTo pos (starEach [] (X j).env)).any (·.1) = false := by intro j; rfl) : XE T E X (.Call (.Name "len" p) [e] [] pos) (eOp dLenD fs) :=
  xe_callB (fun j => call_glen (hK j) (hW j)) p_lenD hm PySem.boot_len ha hg (by decide +kernel) (by decide +kernel) he hpl
end
end Fz
set_option Elab.async false
set_option linter.all false
set_option maxRecDepth 100000
set_option maxHeartbeats 2000000
namespace Fz
open PySem L2 PySem.Spec PyProof.Rows
def rSetG (T : Tab) : V → V → V → Hp → (Hp → Prop) → Prop := fun o i v H Q => ∃ B a ks xs d, o = .ref a ∧ Ex B H ∧ DctAt T B H a ks xs ∧ Rep T B d i ∧ dkOk ks d = true ∧ xs.length < sizeLine ∧
  ∀ ob, (∀ zs, ob ≠ .tup zs) → DctAt T B (upd H a ob) a (dputK ks d) (dputV ks xs d v) → Q (upd H a ob)
theorem set_g {X : Cx} {T : Tab} (hu : X.A.units + 65 < cLine) (hK : X.K = T.K) (hw : X.w = T.w) : PSet X (rSetG T) := by
  intro pins s σ H o i v ov iv u Q I ro ri rv h
  obtain ⟨B, a, ks, xs, d, rfl, e, c, rd, hd, hl, q⟩ := h
  cases (show ov = Value.ref a from ro)
  exact g_set (by omega) I hK hw e c hd rd ri rv hl fun ob s' h1 h2 I' => ⟨_, I', q ob h1 h2⟩
def rSetA (T : Tab) : V → V → V → Hp → (Hp → Prop) → Prop := fun o i v H Q => rSetL o i v H Q ∨ rSetG T o i v H Q
theorem set_A {X : Cx} {T : Tab} (hu : X.A.units + 65 < cLine) (hK : X.K = T.K) (hw : X.w = T.w) : PSet X (rSetA T) := by
  intro pins s σ H o i v ov iv u Q I ro ri rv h
  rcases h with h | h
  · exact set_list pins s σ H o i v ov iv u Q I ro ri rv h
  · exact set_g hu hK hw pins s σ H o i v ov iv u Q I ro ri rv h
section
variable {T : Tab} {E : L2.St → XK} {kp : Nat → Bool} {B B' H H' : Hp} {u v : V} {q : R}
theorem Sim.pushN {st : Sl} {σ : L2.St} {F : Hp} {w : Option V} (S : Sim T st σ B F H) : Sim T (none :: st) (w :: σ) B F H := by
  refine ⟨S.exB, S.exF, S.dis, S.tup, by simp [S.len], fun i r h => ?_, fun i r v a h1 h2 h3 => ?_, fun i j r q v u a n h1 h2 h3 h4 h5 h6 => ?_⟩
  · cases i with
    | zero => cases h
    | succ i => exact S.rel i r (by simpa using h)
  · cases i with
    | zero => cases h1
    | succ i => exact S.own i r v a (by simpa using h1) (by simpa using h2) h3
  · cases i with
    | zero => cases h1
    | succ i =>
      cases j with
      | zero => cases h3
      | succ j => exact S.sep i j r q v u a (by omega) (by simpa using h1) (by simpa using h2) (by simpa using h3) (by simpa using h4) h5 h6
theorem relRs_snocR (rq : RelR T B H q v) : ∀ {cs : List R} {xs : List V}, RelRs T B H cs xs → (∀ b, Ow H q v b → ¬ OwL H cs xs b) → RelRs T B H (cs ++ [q]) (xs ++ [v]) ∧ ∀ b, OwL H (cs ++ [q]) (xs ++ [v]) b → OwL H cs xs b ∨ Ow H q v b
  | [], xs, h, n => by
    unfold RelRs at h; subst h
    refine ⟨?_, fun b z => ?_⟩
    · show RelRs T B H [q] [v]
      unfold RelRs
      exact ⟨v, [], rfl, rq, by unfold RelRs; rfl, fun b _ z => by unfold OwL at z; exact z⟩
    · have z : OwL H [q] [v] b := z
      unfold OwL at z
      obtain ⟨y', t', e, z⟩ := z
      cases e
      rcases z with z | z
      · exact .inr z
      · exact .inl z
  | c :: cs, xs, h, n => by
    unfold RelRs at h
    obtain ⟨y, t, rfl, h2, h3, h4⟩ := h
    obtain ⟨g1, g2⟩ := relRs_snocR rq h3 fun b z z' => n b z (by unfold OwL; exact ⟨y, t, rfl, .inr z'⟩)
    refine ⟨?_, fun b z => ?_⟩
    · show RelRs T B H (c :: (cs ++ [q])) (y :: (t ++ [v]))
      unfold RelRs
      refine ⟨y, _, rfl, h2, g1, fun b z1 z2 => ?_⟩
      rcases g2 b z2 with z | z
      · exact h4 b z1 z
      · exact n b z (by unfold OwL; exact ⟨y, t, rfl, .inl z1⟩)
    · have z : OwL H (c :: (cs ++ [q])) (y :: (t ++ [v])) b := z
      unfold OwL at z
      obtain ⟨y', t', e, z⟩ := z
      cases e
      rcases z with z | z
      · exact .inl (by unfold OwL; exact ⟨y, t, rfl, .inl z⟩)
      · exact (g2 b z).imp (fun z => by unfold OwL; exact ⟨y, t, rfl, .inr z⟩) id
theorem relRs_setV (rq : RelR T B H q v) : ∀ {cs : List R} {xs : List V} {k : Nat}, RelRs T B H cs xs → (∀ b, Ow H q v b → ¬ OwL H cs xs b) → RelRs T B H (cs.set k q) (xs.set k v) ∧ ∀ b, OwL H (cs.set k q) (xs.set k v) b → OwL H cs xs b ∨ Ow H q v b
  | [], xs, k, h, n => by
    unfold RelRs at h; subst h
    exact ⟨by show RelRs T B H [] []; unfold RelRs; rfl, fun b z => .inl z⟩
  | c :: cs, xs, k, h, n => by
    unfold RelRs at h
    obtain ⟨y, t, rfl, h2, h3, h4⟩ := h
    cases k with
    | zero =>
      refine ⟨?_, fun b z => ?_⟩
      · show RelRs T B H (q :: cs) (v :: t)
        unfold RelRs
        exact ⟨v, t, rfl, rq, h3, fun b z1 z2 => n b z1 (by unfold OwL; exact ⟨y, t, rfl, .inr z2⟩)⟩
      · have z : OwL H (q :: cs) (v :: t) b := z
        unfold OwL at z
        obtain ⟨y', t', e, z⟩ := z
        cases e
        rcases z with z | z
        · exact .inr z
        · exact .inl (by unfold OwL; exact ⟨y, t, rfl, .inr z⟩)
    | succ k =>
      obtain ⟨g1, g2⟩ := relRs_setV (k := k) rq h3 fun b z z' => n b z (by unfold OwL; exact ⟨y, t, rfl, .inr z'⟩)
      refine ⟨?_, fun b z => ?_⟩
      · show RelRs T B H (c :: cs.set k q) (y :: t.set k v)
        unfold RelRs
        refine ⟨y, _, rfl, h2, g1, fun b z1 z2 => ?_⟩
        rcases g2 b z2 with z | z
        · exact h4 b z1 z
        · exact n b z (by unfold OwL; exact ⟨y, t, rfl, .inl z1⟩)
      · have z : OwL H (c :: cs.set k q) (y :: t.set k v) b := z
        unfold OwL at z
        obtain ⟨y', t', e, z⟩ := z
        cases e
        rcases z with z | z
        · exact .inl (by unfold OwL; exact ⟨y, t, rfl, .inl z⟩)
        · exact (g2 b z).imp (fun z => by unfold OwL; exact ⟨y, t, rfl, .inr z⟩) id
theorem relRs_d : ∀ {ds : List D} {xs : List V}, Reps T B ds xs → RelRs T B H (ds.map .d) xs ∧ ∀ b, ¬ OwL H (ds.map .d) xs b
  | [], xs, h => by unfold Reps at h; subst h; exact ⟨by show RelRs T B H [] []; unfold RelRs; rfl, fun b z => by have z : OwL H [] [] b := z; unfold OwL at z; exact z⟩
  | d :: ds, xs, h => by
    unfold Reps at h
    obtain ⟨y, t, rfl, h1, h2⟩ := h
    obtain ⟨g1, g2⟩ := relRs_d h2
    refine ⟨?_, fun b z => ?_⟩
    · show RelRs T B H (.d d :: ds.map .d) (y :: t)
      unfold RelRs
      exact ⟨y, t, rfl, by unfold RelR; exact h1, g1, fun b z _ => by unfold Ow at z; exact z⟩
    · have z : OwL H (.d d :: ds.map .d) (y :: t) b := z
      unfold OwL at z
      obtain ⟨y', t', e, z⟩ := z
      cases e
      rcases z with z | z
      · unfold Ow at z; exact z
      · exact g2 b z
def opSet : R → D → R → Option R
  | .ol xs, .int k, .d x => (ixN xs.length k).map fun j => .ol (xs.set j x)
  | .nl cs, .int k, q => (ixN cs.length k).map fun j => .nl (cs.set j q)
  | .od ks vs, d, .d x => if dkOk ks d = true ∧ vs.length < sizeLine then some (.od (dputK ks d) (dputV ks vs d x)) else none
  | .od ks vs, d, q => if dkOk ks d = true ∧ vs.length < sizeLine then some (.nd (dputK ks d) (dputV ks (vs.map .d) d q)) else none
  | .nd ks cs, d, q => if dkOk ks d = true ∧ cs.length < sizeLine then some (.nd (dputK ks d) (dputV ks cs d q)) else none
  | _, _, _ => none
theorem reps_dput {ks vs : List D} {d x : D} {xs : List V} {y : V} (h : Reps T B vs xs) (r : Rep T B x y) : Reps T B (dputV ks vs d x) (dputV ks xs d y) := by
  unfold dputV
  cases kpos ks d with
  | some j => exact h.set r
  | none => exact h.append (reps_cons r reps_nil)
theorem relRs_dput {ks : List D} {d : D} {cs : List R} {xs : List V} (rq : RelR T B H q v) (h : RelRs T B H cs xs) (n : ∀ b, Ow H q v b → ¬ OwL H cs xs b) : RelRs T B H (dputV ks cs d q) (dputV ks xs d v) ∧ ∀ b, OwL H (dputV ks cs d q) (dputV ks xs d v) b → OwL H cs xs b ∨ Ow H q v b := by
  unfold dputV
  cases kpos ks d with
  | some j => exact relRs_setV rq h n
  | none => exact relRs_snocR rq h n
theorem imm_nk : ∀ {d : D} {k : NestedKey}, nk d = some k → imm d = true := fun {d} => by
  refine D.rec (motive_1 := fun d => ∀ {k : NestedKey}, nk d = some k → imm d = true) (motive_2 := fun ds => ∀ {k : List NestedKey}, nks ds = some k → imms ds = true) ?_ ?_ ?_ ?_ ?_ ?_ ?_ ?_ ?_ ?_ ?_ d
  · exact fun _ => rfl
  · exact fun _ _ _ => rfl
  · exact fun _ _ _ => rfl
  · exact fun _ _ _ => rfl
  · intro ds ih k h
    unfold nk at h
    obtain ⟨l, e, _⟩ := Option.map_eq_some_iff.mp h
    unfold imm
    exact ih e
  · intro ds _ k h; simp [nk] at h
  · intro c ds _ k h; simp [nk] at h
  · intro c ds _ _ k h; simp [nk] at h
  · intro c ds _ k h; simp [nk] at h
  · exact fun _ => rfl
  · intro d ds h1 h2 k h
    unfold nks at h
    obtain ⟨l, e, h⟩ := Option.bind_eq_some_iff.mp h
    obtain ⟨m, e2, _⟩ := Option.map_eq_some_iff.mp h
    unfold imms
    exact (Bool.and_eq_true _ _).mpr ⟨h1 e, h2 e2⟩
theorem imm_dk {ks : List D} {d : D} (h : dkOk ks d = true) : imm d = true := by
  unfold dkOk at h
  rcases (Bool.or_eq_true _ _).mp h with h | h
  · have h := ((Bool.and_eq_true _ _).mp h).1
    cases d <;> first | rfl | cases h
  · have h := ((Bool.and_eq_true _ _).mp h).1
    unfold tupK at h
    split at h
    · rename_i e; exact imm_nk e
    · cases h
theorem set_run {n n' : R} {d : D} {y : V} {Q : Hp → Prop} (h : opSet n d q = some n') (e : Ex B H) (tp : ∀ a xs, H a = some (.tup xs) → B a = some (.tup xs)) (rn : RelR T B H n u) (rq : RelR T B H q v) (dis : ∀ b, Ow H q v b → ¬ Ow H n u b) (rd : Rep T H d y) :
    ∃ a, Ow H n u a ∧ ((∀ o, (∀ zs, o ≠ .tup zs) → RelR T B (upd H a o) n' u → (∀ b, Ow (upd H a o) n' u b → Ow H n u b ∨ Ow H q v b) → Q (upd H a o)) → rSetA T u y v H Q) := by
  have qk : ∀ {a : Addr} {o : HO}, Ow H n u a → RelR T B (upd H a o) q v ∧ ∀ b, Ow (upd H a o) q v b → Ow H q v b := fun {a o} ha => by
    have nt := (rn.ow ha).2
    have tk : Tk H (upd H a o) := fun b zs w => by rw [upd_ne (by intro e; subst e; exact nt zs w)]; exact w
    have kp : ∀ p ob, Ow H q v p → H p = some ob → upd H a o p = some ob := fun p ob w g => by rw [upd_ne (by intro e; subst e; exact dis p w ha)]; exact g
    exact ⟨rq.keep (.refl B) tk kp, fun b => Ow.back tk rq kp⟩
  have ck : ∀ {a : Addr} {o : HO} {cs : List R} {xs : List V}, (∀ zs, H a ≠ some (.tup zs)) → RelRs T B H cs xs → ¬ OwL H cs xs a → RelRs T B (upd H a o) cs xs ∧ ∀ b, OwL (upd H a o) cs xs b → OwL H cs xs b := fun {a o cs xs} nt r na => by
    have tk : Tk H (upd H a o) := fun b zs w => by rw [upd_ne (by intro e; subst e; exact nt zs w)]; exact w
    have kp : ∀ p ob, OwL H cs xs p → H p = some ob → upd H a o p = some ob := fun p ob w g => by rw [upd_ne (by intro e; subst e; exact na w)]; exact g
    exact ⟨r.keep (.refl B) tk kp, fun b => OwL.back tk r kp⟩
  have dict : ∀ {ks : List D} {cs : List R} {a : Addr} {xs : List V}, dkOk ks d = true ∧ cs.length < sizeLine → u = .ref a → Ow H n u a → (∀ b, OwL H cs xs b → Ow H n u b) → DctAt T B H a ks xs → RelRs T B H cs xs → ¬ OwL H cs xs a → n' = .nd (dputK ks d) (dputV ks cs d q) →
      ((∀ o, (∀ zs, o ≠ .tup zs) → RelR T B (upd H a o) n' u → (∀ b, Ow (upd H a o) n' u b → Ow H n u b ∨ Ow H q v b) → Q (upd H a o)) → rSetA T u y v H Q) := fun {ks cs a xs} hc hu ha sub c r na en k => by
    subst hu
    have rdB : Rep T B d y := imm_rep tp d (imm_dk hc.1) rd
    refine .inr ⟨B, a, ks, xs, d, rfl, e, c, rdB, hc.1, by rw [← r.length]; exact hc.2, fun o ho c' => ?_⟩
    obtain ⟨q1, q2⟩ := qk (o := o) ha
    obtain ⟨c1, c2⟩ := ck (o := o) c.notTup r na
    obtain ⟨g1, g2⟩ := relRs_dput (ks := ks) (d := d) q1 c1 fun b z z' => dis b (q2 b z) (sub b (c2 b z'))
    have back : ∀ b, OwL (upd H a o) (dputV ks cs d q) (dputV ks xs d v) b → OwL H cs xs b ∨ Ow H q v b := fun b z => (g2 b z).imp (c2 b) (q2 b)
    refine k o ho ?_ fun b z => ?_
    · rw [en]; unfold RelR
      exact ⟨a, _, rfl, c', g1, fun z => (back a z).elim na fun z => dis a z ha⟩
    · rw [en] at z; unfold Ow at z
      rcases z with z | ⟨a', xs', e1, e2, e3⟩
      · cases z; exact .inl ha
      · cases e1; cases HeldAt.inj c'.held e2
        exact (back b e3).imp (sub b) id
  cases n with
  | ol xs =>
    cases d with
    | int k =>
      cases q with
      | d x =>
        obtain ⟨j, hj, e'⟩ := Option.map_eq_some_iff.mp h
        cases e'
        unfold RelR at rn rq
        obtain ⟨a, ys, rfl, h2, h3⟩ := rn
        cases rep_int rd
        exact ⟨a, by unfold Ow; rfl, fun k => .inl ⟨a, ys, _, j, rfl, rfl, h2, by rw [← h3.length]; exact hj, k _ (fun _ z => nomatch z) (rel_ol upd_same (h3.set rq)) fun b z => .inl (own_ol b z)⟩⟩
      | _ => cases h
    | _ => cases h
  | nl cs =>
    cases d with
    | int k =>
      obtain ⟨j, hj, e'⟩ := Option.map_eq_some_iff.mp h
      cases e'
      have rn' := rn
      unfold RelR at rn
      obtain ⟨a, ys, rfl, h2, h3, h4⟩ := rn
      cases rep_int rd
      have ha : Ow H (.nl cs) (.ref a) a := by unfold Ow; exact .inl rfl
      refine ⟨a, ha, fun k => .inl ⟨a, ys, _, j, rfl, rfl, h2, by rw [← h3.length]; exact hj, ?_⟩⟩
      obtain ⟨q1, q2⟩ := qk (o := .lst (ys.set j v)) ha
      obtain ⟨c1, c2⟩ := ck (o := .lst (ys.set j v)) (fun zs z => by rw [h2] at z; cases z) h3 h4
      have sub : ∀ b, OwL H cs ys b → Ow H (.nl cs) (.ref a) b := fun b z => by unfold Ow; exact .inr ⟨a, ys, rfl, .inl h2, z⟩
      obtain ⟨g1, g2⟩ := relRs_setV (k := j) q1 c1 fun b z z' => dis b (q2 b z) (sub b (c2 b z'))
      have back : ∀ b, OwL (upd H a (.lst (ys.set j v))) (cs.set j q) (ys.set j v) b → OwL H cs ys b ∨ Ow H q v b := fun b z => (g2 b z).imp (c2 b) (q2 b)
      refine k _ (fun _ z => nomatch z) ?_ fun b z => ?_
      · unfold RelR
        exact ⟨a, _, rfl, upd_same, g1, fun z => (back a z).elim h4 fun z => dis a z ha⟩
      · unfold Ow at z
        rcases z with z | ⟨a', xs', e1, e2, e3⟩
        · cases z; exact .inl ha
        · cases e1; cases HeldAt.inj (.inl upd_same) e2
          exact (back b e3).imp (sub b) id
    | _ => cases h
  | od ks vs =>
    have rn' := rn
    unfold RelR at rn
    obtain ⟨a, xs, rfl, c, r⟩ := rn
    have ha : Ow H (.od ks vs) (.ref a) a := by unfold Ow; rfl
    obtain ⟨r1, r2⟩ := relRs_d (H := H) r
    have gen : dkOk ks d = true ∧ vs.length < sizeLine → n' = .nd (dputK ks d) (dputV ks (vs.map .d) d q) → ((∀ o, (∀ zs, o ≠ .tup zs) → RelR T B (upd H a o) n' (.ref a) → (∀ b, Ow (upd H a o) n' (.ref a) b → Ow H (.od ks vs) (.ref a) b ∨ Ow H q v b) → Q (upd H a o)) → rSetA T (.ref a) y v H Q) := fun hc en =>
      dict (cs := vs.map .d) (xs := xs) ⟨hc.1, by rw [List.length_map]; exact hc.2⟩ rfl ha (fun b z => (r2 b z).elim) c r1 (fun z => r2 a z) en
    refine ⟨a, ha, ?_⟩
    cases q with
    | d x =>
      have h : (if dkOk ks d = true ∧ vs.length < sizeLine then some (R.od (dputK ks d) (dputV ks vs d x)) else none) = some n' := h
      split at h
      · rename_i hc
        cases h
        intro k
        unfold RelR at rq
        have rdB : Rep T B d y := imm_rep tp d (imm_dk hc.1) rd
        exact .inr ⟨B, a, ks, xs, d, rfl, e, c, rdB, hc.1, by rw [← r.length]; exact hc.2, fun o ho c' => k o ho (relR_od c' (reps_dput r rq)) fun b z => .inl (by unfold Ow at z ⊢; exact z)⟩
      · cases h
    | _ =>
      have h : (if dkOk ks d = true ∧ vs.length < sizeLine then some (R.nd (dputK ks d) (dputV ks (vs.map .d) d _)) else none) = some n' := h
      split at h
      · rename_i hc
        cases h
        exact gen hc rfl
      · cases h
  | nd ks cs =>
    have rn' := rn
    unfold RelR at rn
    obtain ⟨a, xs, rfl, c, r, na⟩ := rn
    have h : (if dkOk ks d = true ∧ cs.length < sizeLine then some (R.nd (dputK ks d) (dputV ks cs d q)) else none) = some n' := h
    split at h
    · rename_i hc
      cases h
      have ha : Ow H (.nd ks cs) (.ref a) a := by unfold Ow; exact .inl rfl
      exact ⟨a, ha, dict hc rfl ha (fun b z => by unfold Ow; exact .inr ⟨a, xs, rfl, c.held, z⟩) c r na rfl⟩
    · cases h
  | d x => cases d <;> cases h
  | oi c fs => cases d <;> cases h
  | nt cs => cases d <;> cases h
  | ni c cs => cases d <;> cases h
end
end Fz
set_option Elab.async false
set_option linter.all false
set_option maxRecDepth 100000
set_option maxHeartbeats 2000000
namespace Fz
open PySem L2 PySem.Spec PyProof.Rows
def sSetA (n : Nat → Nat) (i : Nat) (mp : Sl → Option (List Nat)) (mi : M D) (m : M R) : MS := fun st => match m st with
  | some (.v q, s1) => (match mp s1, s1[i]?, mi (vwN n s1) with
    | some p, some (some r), some (.v d, _) => ((rAt r p).bind fun nd => opSet nd d q).map fun n' => (.nx, s1.set i (some (rSet r p n')))
    | _, _, _ => none)
  | some (.x c, s) => some (.x c, s)
  | none => none
section
variable {T : Tab} {E : L2.St → XK} {kp : Nat → Bool} {i : Nat}
theorem semS_setA {te to ti : TE} {m : M R} {mp : Sl → Option (List Nat)} {mi : M D} (hm : SemR T E te m) (hp : SemP T i to mp) (hi : SemE T E ti mi) : SemS T E kp (tAsg te (gSub to ti (rSetA T))) (sSetA (fun c => (T.flds c).length) i mp mi m) := by
  intro st σ B F H S fl s hf D hD
  unfold sSetA at hf
  split at hf
  · rename_i q s1 e0
    refine hm st σ B F H S _ _ e0 _ fun v B1 H1 x1 S1 => ?_
    split at hf
    · rename_i p r d s2 e1 e2 e3
      obtain ⟨n', hn, e⟩ := Option.map_eq_some_iff.mp hf
      cases e
      obtain ⟨nd, e4, hs⟩ := Option.bind_eq_some_iff.mp hn
      have Sh : Sim T s1 σ B1 (addS F H1 (Ow H1 q v)) H1 := (S1.hid (i := 0) rfl rfl).pop
      refine hp s1 σ B1 _ H1 Sh p e1 _ fun B2 H2 u w x2 y2 S2 hv z => ?_
      refine hi _ σ H2 _ H2 S2.full _ _ e3 _ fun B3 H3 x3 S3 y ry => ?_
      have ex := x3.trans S3.exB
      obtain ⟨b1, b2, b3⟩ := S2.back ex
      obtain ⟨w', hw', rel2⟩ := S2.rel i r e2
      rw [hv] at hw'; cases hw'
      have z3 : VAt H3 w p u := VAt.keep rel2 e4 ex.tk (fun b o _ g => ex b o g) z
      obtain ⟨U, _, _⟩ := S1.unhid (i := 0) (st := some q :: s1) (σ := some v :: σ) rfl rfl (x2.trans b1) (b2.pushN (w := some v))
      have U : Sim T (some q :: s1) (some v :: σ) (tups B2 H3) F H3 := U
      obtain ⟨w', hw', rel3⟩ := U.pop.rel i r e2
      rw [hv] at hw'; cases hw'
      obtain ⟨reln, sub⟩ := at_val rel3 e4 z3
      have dis : ∀ b, Ow H3 q v b → ¬ Ow H3 r w b := fun b h1 h2 => U.sep 0 (i + 1) q r v w b (by omega) rfl rfl (by simpa using e2) (by simpa using hv) h1 h2
      obtain ⟨a, ha, run⟩ := set_run (d := d) (y := y) (Q := D.nx σ) hs U.exB U.tup reln U.top (fun b h1 h2 => dis b h1 (sub b h2)) (Rep.mono S3.exB d ry)
      refine run fun o ho r1 s1' => ?_
      have nt := (reln.ow ha).2
      have tk' : Tk H3 (upd H3 a o) := fun b xs w => by rw [upd_ne (by intro e; subst e; exact nt xs w)]; exact w
      obtain ⟨g1, g2⟩ := at_put (X := Ow H3 q v) (Ex.refl _) tk' rel3 e4 z3 r1 s1' dis fun b ob n w => by rw [upd_ne (by intro e; subst e; exact n ha)]; exact w
      exact hD σ _ _ (x1.trans (x2.trans b1)) (Kp.refl _ _) (U.change2 e2 hv (sub a ha) ho g1 g2)
    · cases hf
  · rename_i c s1 e0
    cases hf
    exact hm st σ B F H S _ _ e0 _ fun d B1 H1 e1 S1 => hD d σ B1 H1 e1 (Kp.refl _ _) S1
  · cases hf
end
section
variable {ι : Type} {T : Tab} {E : L2.St → XK} {X : ι → Cx} {kp : Nat → Bool} {pos sp' : Pos} {e o k : Expr} {fi : M D} {fr : M R} {i : Nat} {mp : Sl → Option (List Nat)}
theorem xs_setA (hu : Rm X) (hv : XR T E X e fr) (hp : XP T E X i o mp) (hi : XE T E X k fi) (hK : ∀ j, (X j).K = T.K := by intro j; rfl) (hW : ∀ j, (X j).w = T.w := by intro j; rfl)
    (ha : ∀ j v, assign (.Subscript o k sp') (X j).env v = (do
      let ov ← holding [v] (eval o (X j).env)
      let iv ← holding [v, ov] (eval k (X j).env)
      standAt sp'
      holding [v, ov, iv] (setItem ov iv v)
      release [v, ov, iv] []) := by intro _ _; rfl)
    (hs : ∀ j, swapsWithSole [.Subscript o k sp'] e pos.line (X j).env = pure false := by intro j; rfl) (hw : ∀ j, swappedStores [.Subscript o k sp'] e (X j).env = pure none := by intro j; rfl) (h1 : ∀ j, (assignEach [.Subscript o k sp'] (X j).env).map (·.2) = [assign (.Subscript o k sp') (X j).env] := by intro j; rfl) : XS T E X kp (.Assign [.Subscript o k sp'] e pos) (sSetA (fun c => (T.flds c).length) i mp fi fr) := by
  obtain ⟨_, a1, a2⟩ := hv
  obtain ⟨_, b1, b2⟩ := hp
  obtain ⟨_, c1, c2⟩ := hi
  exact ⟨_, fun j => ps_asg (a1 j) (pg_sub (b1 j) (c1 j) (set_A (by have := hu j; omega) (hK j) (hW j)) (ha j)) (hs j) (hw j) (h1 j), semS_setA a2 b2 c2⟩
end
theorem Sim.shown {T : Tab} {st s' : Sl} {σ σ' : L2.St} {B B' F H H' : Hp} {r : R} {v : V} (S : Sim T (some r :: st) (some v :: σ) B F H) (e : Ex B B') (S' : Sim T s' σ' B' (addS F H (Ow H r v)) H') : Sim T (some r :: s') (some v :: σ') B' F H' := by
  have tk : Tk H H' := fun b xs z => S'.exB b _ (e b _ (S.tup b xs z))
  have k : ∀ b o, Ow H r v b → H b = some o → H' b = some o := fun b o z q => S'.exF b o (by rw [addS_in z]; exact q)
  have rel := S.top
  have bk : ∀ b, Ow H' r v b → Ow H r v b := fun b => Ow.back tk rel k
  have inF : ∀ b, Ow H r v b → ∃ o, addS F H (Ow H r v) b = some o := fun b z => by
    rw [addS_in z]; exact (rel.ow z).1
  have frF : ∀ b, addS F H (Ow H r v) b = none → F b = none := fun b z => by
    by_cases y : Ow H r v b
    · obtain ⟨o, w⟩ := inF b y; rw [w] at z; cases z
    · rwa [addS_out y] at z
  have outF : ∀ b o, F b = some o → addS F H (Ow H r v) b = some o := fun b o z => by
    rw [addS_out fun y => by rw [(S.own 0 r v b rfl rfl y).2] at z; cases z]; exact z
  have cross : ∀ {j : Nat} {q : R} {u : V} {b : Addr}, s'[j]? = some (some q) → σ'[j]? = some (some u) → Ow H' r v b → Ow H' q u b → False := fun {j q u b} g1 g2 g3 g4 => by
    obtain ⟨o, w⟩ := inF b (bk b g3)
    rw [(S'.own j q u b g1 g2 g4).2] at w; cases w
  refine ⟨S'.exB, fun b o z => S'.exF b o (outF b o z), fun b o z => S'.dis b o (outF b o z), S'.tup, by simp [S'.len], fun j q g => ?_, fun j q u b g1 g2 g3 => ?_, fun i j q p u w b n g1 g2 g3 g4 g5 g6 => ?_⟩
  · cases j with
    | zero => cases g; exact ⟨v, rfl, rel.keep e tk k⟩
    | succ j => exact S'.rel j q (by simpa using g)
  · cases j with
    | zero =>
      cases g1; cases g2
      have z := bk b g3
      obtain ⟨o, w⟩ := inF b z
      exact ⟨S'.dis b o w, (S.own 0 r v b rfl rfl z).2⟩
    | succ j =>
      obtain ⟨z1, z2⟩ := S'.own j q u b (by simpa using g1) (by simpa using g2) g3
      exact ⟨z1, frF b z2⟩
  · cases i with
    | zero =>
      cases g1; cases g2
      cases j with
      | zero => exact n rfl
      | succ j => exact cross (by simpa using g3) (by simpa using g4) g5 g6
    | succ i =>
      cases j with
      | zero => cases g3; cases g4; exact cross (by simpa using g1) (by simpa using g2) g6 g5
      | succ j => exact S'.sep i j q p u w b (by omega) (by simpa using g1) (by simpa using g2) (by simpa using g3) (by simpa using g4) g5 g6
theorem Sim.hideTop {T : Tab} {st : Sl} {σ : L2.St} {B F H : Hp} {r : R} {v : V} (S : Sim T (some r :: st) (some v :: σ) B F H) : Sim T st σ B (addS F H (Ow H r v)) H := (S.hid (i := 0) rfl rfl).pop
def aRNil : M (List R) := ret []
def aRCons (fr : M R) (fs : M (List R)) : M (List R) := fun st => match fr st with
  | some (.v r, s) => (match fs s with
    | some (.v rs, s') => some (.v (r :: rs), s')
    | _ => none)
  | _ => none
def rLstR (f : M (List R)) : M R := fun st => match f st with
  | some (.v rs, s) => if rs.length ≤ sizeLine then some (.v (.nl rs), s) else none
  | _ => none
def rTupR (f : M (List R)) : M R := fun st => match f st with
  | some (.v rs, s) => if rs.length ≤ sizeLine then some (.v (.nt rs), s) else none
  | _ => none
section
variable {T : Tab} {E : L2.St → XK}
theorem Sim.row {st : Sl} {σ : L2.St} {B F H : Hp} : ∀ {rs : List R} {vs : List V}, Sim T (rs.map some ++ st) (vs.map some ++ σ) B F H → rs.length = vs.length → RelRs T B H rs vs ∧ (∀ b, OwL H rs vs b → ∃ (i : Nat) (r : R) (v : V), rs[i]? = some r ∧ vs[i]? = some v ∧ Ow H r v b) ∧ Sim T st σ B F H
  | [], vs, S, l => by
    cases vs with
    | nil => exact ⟨by unfold RelRs; rfl, fun b z => by unfold OwL at z; exact z.elim, S⟩
    | cons _ _ => cases l
  | r :: rs, vs, S, l => by
    cases vs with
    | nil => cases l
    | cons v vs =>
      have S : Sim T (some r :: (rs.map some ++ st)) (some v :: (vs.map some ++ σ)) B F H := S
      obtain ⟨g1, g2, g3⟩ := Sim.row S.pop (by simpa using l)
      refine ⟨?_, fun b z => ?_, g3⟩
      · unfold RelRs
        refine ⟨v, vs, rfl, S.top, g1, fun b z1 z2 => ?_⟩
        obtain ⟨i, q, u, h1, h2, h3⟩ := g2 b z2
        have i1 : i < rs.length := (List.getElem?_eq_some_iff.mp h1).1
        have i2 : i < vs.length := (List.getElem?_eq_some_iff.mp h2).1
        exact S.sep 0 (i + 1) r q v u b (by omega) rfl rfl (by rw [List.getElem?_cons_succ, List.getElem?_append_left (by simpa using i1), List.getElem?_map, h1]; rfl) (by rw [List.getElem?_cons_succ, List.getElem?_append_left (by simpa using i2), List.getElem?_map, h2]; rfl) z1 h3
      · unfold OwL at z
        obtain ⟨y, t, e, z⟩ := z
        cases e
        rcases z with z | z
        · exact ⟨0, r, v, rfl, rfl, z⟩
        · obtain ⟨i, q, u, h1, h2, h3⟩ := g2 b z
          exact ⟨i + 1, q, u, by simpa using h1, by simpa using h2, h3⟩
end
section
variable {ι : Type} {T : Tab} {E : L2.St → XK} {X : ι → Cx} {pos : Pos} {e : Expr} {es : List Expr} {fr : M R} {fs : M (List R)}
end
end Fz
set_option Elab.async false
set_option linter.all false
set_option maxRecDepth 100000
set_option maxHeartbeats 2000000
namespace Fz
open PySem L2 PySem.Spec PyProof.Rows
def catS (ss : List Str) : Str := ss.foldl (· ++ ·) Str.empty
def dCat (xs : List D) : Option D := (dStrs xs).bind fun ss => if (ss.map (·.length)).sum ≤ sizeLine then some (.str (catS ss)) else none
section
variable {T : Tab} {E : L2.St → XK}
def eFStr (fs : M (List D)) : M D := fun st => match fs st with
  | some (.v xs, s) => (dCat xs).map fun x => (.v x, s)
  | _ => none
end
section
variable {ι : Type} {T : Tab} {E : L2.St → XK} {X : ι → Cx} {pos apos : Pos} {e o : Expr} {es : List Expr} {fa : M D} {fs : M (List D)}
end
end Fz
set_option Elab.async false
set_option linter.all false
set_option maxRecDepth 100000
set_option maxHeartbeats 2000000
namespace Fz
open PySem L2
def rFullO (n : Nat → Nat) (f : M R) : M R := fun st => match f (vwN n st) with
  | some (.v (.oi c xs), _) => if imms xs = true then some (.v (.oi c xs), st) else none
  | some (.x c, _) => some (.x c, st)
  | _ => none
section
variable {T : Tab} {E : L2.St → XK}
end
section
variable {α : Type} {st s : Sl} {i : Nat} {n : Nat → Nat} {Q : Oc D → Sl → Prop} {QR : Oc R → Sl → Prop} {QL : Oc (List D) → Sl → Prop} {QA : Oc (List R) → Sl → Prop} {QS : Fl → Sl → Prop} {mp : Sl → Option (List Nat)} {fa fb mi : M D} {fs : M (List D)} {k : List Nat → Prop} {m fr : M R} {frs : M (List R)}
def wsl (o : Option (Option R)) (k : R → Prop) : Prop := match o with
  | some (some r) => k r
  | _ => False
theorem wsl_r {r : R} {k : R → Prop} : wsl (some (some r)) k = k r := rfl
theorem wsl_eq {o : Option (Option R)} {k : R → Prop} : wsl o k ↔ ∃ r, o = some (some r) ∧ k r := by
  unfold wsl
  split
  · rename_i r; exact ⟨fun h => ⟨r, rfl, h⟩, fun ⟨r', e, h⟩ => by cases e; exact h⟩
  · rename_i h; exact ⟨(fun h => h.elim), (fun ⟨r', e, _⟩ => (h r' e).elim)⟩
theorem wp_iff {m : M α} {Q : Oc α → Sl → Prop} : wp m st Q ↔ ∃ o s, m st = some (o, s) ∧ Q o s := by
  unfold wp
  cases m st with
  | none => exact ⟨(fun h => h.elim), (fun ⟨_, _, e, _⟩ => nomatch e)⟩
  | some p => obtain ⟨o, s⟩ := p; exact ⟨fun h => ⟨o, s, rfl, h⟩, fun ⟨o', s', e', h⟩ => by cases e'; exact h⟩
theorem ws_iff {m : MS} {Q : Fl → Sl → Prop} : ws m st Q ↔ ∃ o s, m st = some (o, s) ∧ Q o s := by
  unfold ws
  cases m st with
  | none => exact ⟨(fun h => h.elim), (fun ⟨_, _, e, _⟩ => nomatch e)⟩
  | some p => obtain ⟨o, s⟩ := p; exact ⟨fun h => ⟨o, s, rfl, h⟩, fun ⟨o', s', e', h⟩ => by cases e'; exact h⟩
def va {β : Type} (k : β → Sl → Prop) : Oc β → Sl → Prop
  | .v a, s => k a s
  | .x _, _ => False
def wpl (m : Sl → Option (List Nat)) (st : Sl) (k : List Nat → Prop) : Prop := wo (m st) k
theorem n_pName : wpl (pName i) st k = isR (gt st i) (k []) := by
  unfold wpl wo pName isR
  rw [gt_eq]
  cases gt st i with
  | none => exact propext ⟨(fun ⟨_, e, _⟩ => nomatch e), (fun h => h.elim)⟩
  | some o => cases o with
    | none => exact propext ⟨(fun ⟨_, e, _⟩ => nomatch e), (fun h => h.elim)⟩
    | some r => exact propext ⟨fun ⟨_, e, h⟩ => by cases e; exact h, fun h => ⟨_, rfl, h⟩⟩
def kPx5 (k : List Nat → Prop) (p : List Nat) (j : Nat) : R → Prop := fun _ => k (p ++ [j])
theorem kPx5_a {p : List Nat} {j : Nat} {r : R} : kPx5 k p j r = k (p ++ [j]) := rfl
def kPx4 (k : List Nat → Prop) (p : List Nat) (q : R) : Nat → Prop := fun j => wo (kids q)[j]? (kPx5 k p j)
theorem kPx4_a {p : List Nat} {j : Nat} {q : R} : kPx4 k p q j = wo (kids q)[j]? (kPx5 k p j) := rfl
def kPx3 (k : List Nat → Prop) (p : List Nat) (q : R) : Oc D → Sl → Prop := va fun d _ => wo (kidAt q d) (kPx4 k p q)
theorem kPx3_v {p : List Nat} {d : D} {q : R} : kPx3 k p q (.v d) s = wo (kidAt q d) (kPx4 k p q) := rfl
def kPx2 (n : Nat → Nat) (fb : M D) (st : Sl) (k : List Nat → Prop) (p : List Nat) : R → Prop := fun q => wpe fb (vwN n st) (kPx3 k p q)
theorem kPx2_a {p : List Nat} {q : R} : kPx2 n fb st k p q = wpe fb (vwN n st) (kPx3 k p q) := rfl
def kPx1 (n : Nat → Nat) (fb : M D) (st : Sl) (k : List Nat → Prop) (p : List Nat) : R → Prop := fun r => wo (rAt r p) (kPx2 n fb st k p)
theorem kPx1_a {p : List Nat} {r : R} : kPx1 n fb st k p r = wo (rAt r p) (kPx2 n fb st k p) := rfl
def kPx0 (n : Nat → Nat) (i : Nat) (fb : M D) (st : Sl) (k : List Nat → Prop) : List Nat → Prop := fun p => wsl (gt st i) (kPx1 n fb st k p)
theorem kPx0_a {p : List Nat} : kPx0 n i fb st k p = wsl (gt st i) (kPx1 n fb st k p) := rfl
theorem n_pIx : wpl (pIx n i mp fb) st k = wpl mp st (kPx0 n i fb st k) := by
  apply propext
  unfold wpl
  constructor
  · rintro ⟨p', e, h⟩
    unfold pIx at e
    split at e
    · rename_i p r e1 e2
      split at e
      · rename_i q d s0 e3 e4
        obtain ⟨j, hj, e⟩ := Option.bind_eq_some_iff.mp e
        obtain ⟨c, hc, rfl⟩ := Option.map_eq_some_iff.mp e
        exact ⟨p, e1, wsl_eq.mpr ⟨r, by rw [← gt_eq]; exact e2, q, e3, wp_iff.mpr ⟨.v d, s0, e4, j, hj, c, hc, h⟩⟩⟩
      · cases e
    · cases e
  · rintro ⟨p, e1, h⟩
    obtain ⟨r, e2, q, e3, h⟩ := wsl_eq.mp h
    obtain ⟨o, s0, e4, h⟩ := wp_iff.mp h
    cases o with
    | x c => exact h.elim
    | v d =>
      obtain ⟨j, hj, c, hc, h⟩ := h
      refine ⟨p ++ [j], ?_, h⟩
      unfold pIx
      rw [gt_eq, e1, e2]
      simp only [e3, e4, hj, hc, Option.bind_some, Option.map_some]
def kPf3 (k : List Nat → Prop) (p : List Nat) (cs : List R) : Nat → Prop := fun j => wo cs[j]? (kPx5 k p j)
theorem kPf3_a {p : List Nat} {cs : List R} {j : Nat} : kPf3 k p cs j = wo cs[j]? (kPx5 k p j) := rfl
def kPf2 (ix : Nat → Option Nat) (k : List Nat → Prop) (p : List Nat) : R → Prop
  | .ni c cs => wo (ix c) (kPf3 k p cs)
  | _ => False
theorem kPf2_a {ix : Nat → Option Nat} {p : List Nat} {c : Nat} {cs : List R} : kPf2 ix k p (.ni c cs) = wo (ix c) (kPf3 k p cs) := rfl
def kPf1 (ix : Nat → Option Nat) (k : List Nat → Prop) (p : List Nat) : R → Prop := fun r => wo (rAt r p) (kPf2 ix k p)
theorem kPf1_a {ix : Nat → Option Nat} {p : List Nat} {r : R} : kPf1 ix k p r = wo (rAt r p) (kPf2 ix k p) := rfl
def kPf0 (i : Nat) (ix : Nat → Option Nat) (st : Sl) (k : List Nat → Prop) : List Nat → Prop := fun p => wsl (gt st i) (kPf1 ix k p)
theorem kPf0_a {ix : Nat → Option Nat} {p : List Nat} : kPf0 i ix st k p = wsl (gt st i) (kPf1 ix k p) := rfl
theorem n_pFld {ix : Nat → Option Nat} : wpl (pFld i ix mp) st k = wpl mp st (kPf0 i ix st k) := by
  apply propext
  unfold wpl
  constructor
  · rintro ⟨p', e, h⟩
    unfold pFld at e
    split at e
    · rename_i p r e1 e2
      split at e
      · rename_i c cs e3
        obtain ⟨j, hj, e⟩ := Option.bind_eq_some_iff.mp e
        obtain ⟨c', hc, rfl⟩ := Option.map_eq_some_iff.mp e
        exact ⟨p, e1, wsl_eq.mpr ⟨r, by rw [← gt_eq]; exact e2, _, e3, j, hj, c', hc, h⟩⟩
      · cases e
    · cases e
  · rintro ⟨p, e1, h⟩
    obtain ⟨r, e2, q, e3, h⟩ := wsl_eq.mp h
    cases q with
    | ni c cs =>
      obtain ⟨j, hj, c', hc, h⟩ := h
      refine ⟨p ++ [j], ?_, h⟩
      unfold pFld
      rw [gt_eq, e1, e2]
      simp only [e3, hj, hc, Option.bind_some, Option.map_some]
    | _ => exact h.elim
-- arguments
def kH2 (i : Nat) (r : R) (QL : Oc (List D) → Sl → Prop) : Oc (List D) → Sl → Prop := va fun xs s => QL (.v xs) (stt s i (some r))
theorem kH2_v {r : R} {xs : List D} : kH2 i r QL (.v xs) s = QL (.v xs) (stt s i (some r)) := rfl
def kH1 (i : Nat) (f : M (List D)) (st : Sl) (QL : Oc (List D) → Sl → Prop) : R → Prop := fun r => wpe f (stt st i none) (kH2 i r QL)
theorem kH1_a {r : R} : kH1 i fs st QL r = wpe fs (stt st i none) (kH2 i r QL) := rfl
theorem n_aHid : wp (aHid i fs) st QL = wsl (gt st i) (kH1 i fs st QL) := by
  apply propext
  rw [wp_iff, wsl_eq, ← gt_eq]
  constructor
  · rintro ⟨o, s, e, h⟩
    unfold aHid at e
    split at e
    · rename_i r hr
      split at e
      · rename_i xs s' e'
        cases e
        refine ⟨r, hr, wp_iff.mpr ⟨.v xs, s', by rw [← stt_eq]; exact e', ?_⟩⟩
        show QL (.v xs) (stt s' i (some r))
        rw [← stt_eq]; exact h
      · cases e
    · cases e
  · rintro ⟨r, hr, h⟩
    obtain ⟨o, s, e, h⟩ := wp_iff.mp h
    cases o with
    | x c => exact h.elim
    | v xs =>
      have h : QL (.v xs) (stt s i (some r)) := h
      refine ⟨.v xs, s.set i (some r), ?_, by rw [stt_eq]; exact h⟩
      unfold aHid
      rw [hr]
      simp only
      rw [stt_eq, e]
def kAF (st : Sl) (QL : Oc (List D) → Sl → Prop) : Oc (List D) → Sl → Prop := va fun xs _ => wc (imms xs = true) (kU (fun xs => QL (.v xs) st) xs)
theorem kAF_v {xs : List D} : kAF st QL (.v xs) s = wc (imms xs = true) (kU (fun xs => QL (.v xs) st) xs) := rfl
theorem n_aFull : wp (aFull n fs) st QL = wpe fs (vwN n st) (kAF st QL) := by
  apply propext
  rw [wp_iff]
  show _ ↔ wp fs (vwN n st) (kAF st QL)
  rw [wp_iff]
  constructor
  · rintro ⟨o, s, e, h⟩
    unfold aFull at e
    split at e
    · rename_i xs s' e'
      split at e
      · rename_i hi; cases e; exact ⟨.v xs, s', e', hi, h⟩
      · cases e
    · cases e
  · rintro ⟨o, s, e, h⟩
    cases o with
    | x c => exact h.elim
    | v xs =>
      obtain ⟨h1, h2⟩ := h
      exact ⟨.v xs, st, by unfold aFull; rw [e]; simp only [h1, if_true], h2⟩
theorem n_aNo : wp aNo st QL = QL (.v []) st := rfl
-- eMut
def kM5 (i : Nat) (p : List Nat) (r : R) (s : Sl) (Q : Oc D → Sl → Prop) : R × D → Prop := fun q => Q (.v q.2) (stt s i (some (rSet r p q.1)))
theorem kM5_a {p : List Nat} {r q : R} {d : D} : kM5 i p r s Q (q, d) = Q (.v d) (stt s i (some (rSet r p q))) := rfl
def kM4 (i : Nat) (op : R → List D → Option (R × D)) (p : List Nat) (r q : R) (Q : Oc D → Sl → Prop) : Oc (List D) → Sl → Prop := va fun xs s => wo (op q xs) (kM5 i p r s Q)
theorem kM4_v {op : R → List D → Option (R × D)} {p : List Nat} {r q : R} {xs : List D} : kM4 i op p r q Q (.v xs) s = wo (op q xs) (kM5 i p r s Q) := rfl
def kM3 (i : Nat) (fa : M (List D)) (op : R → List D → Option (R × D)) (st : Sl) (Q : Oc D → Sl → Prop) (p : List Nat) (r : R) : R → Prop := fun q => wp fa st (kM4 i op p r q Q)
theorem kM3_a {op : R → List D → Option (R × D)} {p : List Nat} {r q : R} : kM3 i fs op st Q p r q = wp fs st (kM4 i op p r q Q) := rfl
def kM2 (i : Nat) (fa : M (List D)) (op : R → List D → Option (R × D)) (st : Sl) (Q : Oc D → Sl → Prop) (p : List Nat) : R → Prop := fun r => wo (rAt r p) (kM3 i fa op st Q p r)
theorem kM2_a {op : R → List D → Option (R × D)} {p : List Nat} {r : R} : kM2 i fs op st Q p r = wo (rAt r p) (kM3 i fs op st Q p r) := rfl
def kM1 (i : Nat) (fa : M (List D)) (op : R → List D → Option (R × D)) (st : Sl) (Q : Oc D → Sl → Prop) : List Nat → Prop := fun p => wsl (gt st i) (kM2 i fa op st Q p)
theorem kM1_a {op : R → List D → Option (R × D)} {p : List Nat} : kM1 i fs op st Q p = wsl (gt st i) (kM2 i fs op st Q p) := rfl
theorem n_eMut {op : R → List D → Option (R × D)} : wp (eMut i mp fs op) st Q = wpl mp st (kM1 i fs op st Q) := by
  apply propext
  rw [wp_iff]
  unfold wpl
  constructor
  · rintro ⟨o, s, e, h⟩
    unfold eMut at e
    split at e
    · rename_i p r e1 e2
      split at e
      · rename_i q xs s' e3 e4
        obtain ⟨q', hq, e⟩ := Option.map_eq_some_iff.mp e
        cases e
        refine ⟨p, e1, wsl_eq.mpr ⟨r, by rw [← gt_eq]; exact e2, q, e3, wp_iff.mpr ⟨.v xs, s', e4, q', hq, ?_⟩⟩⟩
        show Q (.v q'.2) (stt s' i _)
        rw [← stt_eq]; exact h
      · cases e
    · cases e
  · rintro ⟨p, e1, h⟩
    obtain ⟨r, e2, q, e3, h⟩ := wsl_eq.mp h
    obtain ⟨o, s', e4, h⟩ := wp_iff.mp h
    cases o with
    | x c => exact h.elim
    | v xs =>
      obtain ⟨q', hq, h⟩ := h
      have h : Q (.v q'.2) (stt s' i (some (rSet r p q'.1))) := h
      refine ⟨.v q'.2, s'.set i (some (rSet r p q'.1)), ?_, by rw [stt_eq]; exact h⟩
      unfold eMut
      rw [gt_eq, e1, e2]
      simp only [e3, e4, hq, Option.map_some]
-- stores
def kSA6 (i : Nat) (r : R) (p : List Nat) (s : Sl) (QS : Fl → Sl → Prop) : R → Prop := fun q => QS .nx (stt s i (some (rSet r p q)))
theorem kSA6_a {r q : R} {p : List Nat} : kSA6 i r p s QS q = QS .nx (stt s i (some (rSet r p q))) := rfl
def kSA5 (i : Nat) (r : R) (p : List Nat) (q : R) (d : D) (s : Sl) (QS : Fl → Sl → Prop) : R → Prop := fun nd => wo (opSet nd d q) (kSA6 i r p s QS)
theorem kSA5_a {r q nd : R} {p : List Nat} {d : D} : kSA5 i r p q d s QS nd = wo (opSet nd d q) (kSA6 i r p s QS) := rfl
def kSA4 (i : Nat) (r : R) (p : List Nat) (q : R) (s : Sl) (QS : Fl → Sl → Prop) : Oc D → Sl → Prop := va fun d _ => wo (rAt r p) (kSA5 i r p q d s QS)
theorem kSA4_v {r q : R} {p : List Nat} {d : D} {s' : Sl} : kSA4 i r p q s QS (.v d) s' = wo (rAt r p) (kSA5 i r p q d s QS) := rfl
def kSA3 (n : Nat → Nat) (i : Nat) (mi : M D) (q : R) (s : Sl) (QS : Fl → Sl → Prop) (p : List Nat) : R → Prop := fun r => wpe mi (vwN n s) (kSA4 i r p q s QS)
theorem kSA3_a {r q : R} {p : List Nat} : kSA3 n i mi q s QS p r = wpe mi (vwN n s) (kSA4 i r p q s QS) := rfl
def kSA2 (n : Nat → Nat) (i : Nat) (mi : M D) (q : R) (s : Sl) (QS : Fl → Sl → Prop) : List Nat → Prop := fun p => wsl (gt s i) (kSA3 n i mi q s QS p)
theorem kSA2_a {q : R} {p : List Nat} : kSA2 n i mi q s QS p = wsl (gt s i) (kSA3 n i mi q s QS p) := rfl
def kSA1 (n : Nat → Nat) (i : Nat) (mp : Sl → Option (List Nat)) (mi : M D) (QS : Fl → Sl → Prop) : Oc R → Sl → Prop
  | .v q, s => wpl mp s (kSA2 n i mi q s QS)
  | .x c, s => QS (.x c) s
theorem kSA1_v {q : R} : kSA1 n i mp mi QS (.v q) s = wpl mp s (kSA2 n i mi q s QS) := rfl
theorem kSA1_x {c : Nat} : kSA1 n i mp mi QS (.x c) s = QS (.x c) s := rfl
theorem n_sSetA : ws (sSetA n i mp mi m) st QS = wp m st (kSA1 n i mp mi QS) := by
  apply propext
  rw [wp_iff, ws_iff]
  constructor
  · rintro ⟨o, s, e, h⟩
    unfold sSetA at e
    split at e
    · rename_i q s1 e0
      refine ⟨.v q, s1, e0, ?_⟩
      split at e
      · rename_i p r d s2 e1 e2 e3
        obtain ⟨n', hn, e⟩ := Option.map_eq_some_iff.mp e
        cases e
        obtain ⟨nd, e4, hs⟩ := Option.bind_eq_some_iff.mp hn
        refine ⟨p, e1, wsl_eq.mpr ⟨r, by rw [← gt_eq]; exact e2, wp_iff.mpr ⟨.v d, s2, e3, nd, e4, n', hs, ?_⟩⟩⟩
        show QS .nx (stt s1 i _)
        rw [← stt_eq]; exact h
      · cases e
    · rename_i c s1 e0
      cases e
      exact ⟨.x c, _, e0, h⟩
    · cases e
  · rintro ⟨o, s1, e0, h⟩
    cases o with
    | x c => exact ⟨.x c, s1, by unfold sSetA; rw [e0], h⟩
    | v q =>
      obtain ⟨p, e1, h⟩ := h
      obtain ⟨r, e2, h⟩ := wsl_eq.mp h
      obtain ⟨o, s2, e3, h⟩ := wp_iff.mp h
      cases o with
      | x c => exact h.elim
      | v d =>
        obtain ⟨nd, e4, n', hs, h⟩ := h
        have h : QS .nx (stt s1 i (some (rSet r p n'))) := h
        refine ⟨.nx, s1.set i (some (rSet r p n')), ?_, by rw [stt_eq]; exact h⟩
        unfold sSetA
        rw [e0]
        simp only
        rw [gt_eq, e1, e2, e3]
        simp only [e4, hs, Option.bind_some, Option.map_some]
-- rows
theorem n_aRNil : wp aRNil st QA = QA (.v []) st := rfl
def kRC2 (r : R) (QA : Oc (List R) → Sl → Prop) : Oc (List R) → Sl → Prop := va fun rs s => QA (.v (r :: rs)) s
theorem kRC2_v {r : R} {rs : List R} : kRC2 r QA (.v rs) s = QA (.v (r :: rs)) s := rfl
def kRC1 (frs : M (List R)) (QA : Oc (List R) → Sl → Prop) : Oc R → Sl → Prop := va fun r s => wp frs s (kRC2 r QA)
theorem kRC1_v {r : R} : kRC1 frs QA (.v r) s = wp frs s (kRC2 r QA) := rfl
theorem n_aRCons : wp (aRCons fr frs) st QA = wp fr st (kRC1 frs QA) := by
  apply propext
  rw [wp_iff, wp_iff]
  constructor
  · rintro ⟨o, s, e, h⟩
    unfold aRCons at e
    split at e
    · rename_i r s1 e1
      split at e
      · rename_i rs s2 e2
        cases e
        exact ⟨.v r, s1, e1, wp_iff.mpr ⟨.v rs, _, e2, h⟩⟩
      · cases e
    · cases e
  · rintro ⟨o, s1, e1, h⟩
    cases o with
    | x c => exact h.elim
    | v r =>
      obtain ⟨o, s2, e2, h⟩ := wp_iff.mp h
      cases o with
      | x c => exact h.elim
      | v rs => exact ⟨.v (r :: rs), s2, by unfold aRCons; rw [e1]; simp only [e2], h⟩
def kRL (QR : Oc R → Sl → Prop) : Oc (List R) → Sl → Prop := va fun rs s => wc (rs.length ≤ sizeLine) (kU (fun rs => QR (.v (.nl rs)) s) rs)
theorem kRL_v {rs : List R} : kRL QR (.v rs) s = wc (rs.length ≤ sizeLine) (kU (fun rs => QR (.v (.nl rs)) s) rs) := rfl
theorem n_rLstR : wp (rLstR frs) st QR = wp frs st (kRL QR) := by
  apply propext
  rw [wp_iff, wp_iff]
  constructor
  · rintro ⟨o, s, e, h⟩
    unfold rLstR at e
    split at e
    · rename_i rs s1 e1
      split at e
      · rename_i hl; cases e; exact ⟨.v rs, _, e1, hl, h⟩
      · cases e
    · cases e
  · rintro ⟨o, s1, e1, h⟩
    cases o with
    | x c => exact h.elim
    | v rs => obtain ⟨h1, h2⟩ := h; exact ⟨.v (.nl rs), s1, by unfold rLstR; rw [e1]; exact if_pos h1, h2⟩
def kRT (QR : Oc R → Sl → Prop) : Oc (List R) → Sl → Prop := va fun rs s => wc (rs.length ≤ sizeLine) (kU (fun rs => QR (.v (.nt rs)) s) rs)
theorem kRT_v {rs : List R} : kRT QR (.v rs) s = wc (rs.length ≤ sizeLine) (kU (fun rs => QR (.v (.nt rs)) s) rs) := rfl
theorem n_rTupR : wp (rTupR frs) st QR = wp frs st (kRT QR) := by
  apply propext
  rw [wp_iff, wp_iff]
  constructor
  · rintro ⟨o, s, e, h⟩
    unfold rTupR at e
    split at e
    · rename_i rs s1 e1
      split at e
      · rename_i hl; cases e; exact ⟨.v rs, _, e1, hl, h⟩
      · cases e
    · cases e
  · rintro ⟨o, s1, e1, h⟩
    cases o with
    | x c => exact h.elim
    | v rs => obtain ⟨h1, h2⟩ := h; exact ⟨.v (.nt rs), s1, by unfold rTupR; rw [e1]; exact if_pos h1, h2⟩
def kFS (Q : Oc D → Sl → Prop) : Oc (List D) → Sl → Prop := va fun xs s => wo (dCat xs) (kr Q s)
theorem kFS_v {xs : List D} : kFS Q (.v xs) s = wo (dCat xs) (kr Q s) := rfl
theorem n_eFStr : wp (eFStr fs) st Q = wp fs st (kFS Q) := by
  apply propext
  rw [wp_iff, wp_iff]
  constructor
  · rintro ⟨o, s, e, h⟩
    unfold eFStr at e
    split at e
    · rename_i xs s1 e1
      obtain ⟨x, hx, e⟩ := Option.map_eq_some_iff.mp e
      cases e
      exact ⟨.v xs, _, e1, x, hx, h⟩
    · cases e
  · rintro ⟨o, s1, e1, h⟩
    cases o with
    | x c => exact h.elim
    | v xs => obtain ⟨x, hx, h⟩ := h; exact ⟨.v x, s1, by unfold eFStr; rw [e1]; simp only [hx, Option.map_some], h⟩
-- dicts walked
def dkO : D → Option (List D)
  | .dct ks _ => if okKs ks = true then some ks else none
  | _ => none
def dvO : D → Option (List D)
  | .dct _ vs => some vs
  | _ => none
def diO : D → Option (List D)
  | .dct ks vs => if okKs ks = true ∧ ks.length = vs.length then some (zipD ks vs) else none
  | _ => none
def kID (g : D → Option (List D)) (QL : Oc (List D) → Sl → Prop) : Oc D → Sl → Prop := vx QL fun x s => wo (g x) (kr QL s)
theorem kID_v {g : D → Option (List D)} {x : D} : kID g QL (.v x) s = wo (g x) (kr QL s) := rfl
theorem kID_x {g : D → Option (List D)} {c : Nat} : kID g QL (.x c) s = QL (.x c) s := rfl
theorem n_bnd {g : D → Option (List D)} : wp (bnd fa fun x => opt (g x)) st QL = wp fa st (kID g QL) := by
  rw [wp_bnd]
  refine congrArg _ ?_
  funext o s
  cases o with
  | x c => rfl
  | v x => exact wp_opt
theorem n_iDk : wp (iDk fa) st QL = wp fa st (kID dkO QL) := by
  have e : iDk fa = bnd fa fun x => opt (dkO x) := by unfold iDk; congr 1
  rw [e, n_bnd]
theorem n_iDv : wp (iDv fa) st QL = wp fa st (kID dvO QL) := by
  have e : iDv fa = bnd fa fun x => opt (dvO x) := by unfold iDv; congr 1
  rw [e, n_bnd]
theorem n_iDi : wp (iDi fa) st QL = wp fa st (kID diO QL) := by
  have e : iDi fa = bnd fa fun x => opt (diO x) := by unfold iDi; congr 1
  rw [e, n_bnd]
def rfo (QR : Oc R → Sl → Prop) (st : Sl) : Oc R → Sl → Prop
  | .v (.oi c xs), _ => wc (imms xs = true) (kU (fun xs => QR (.v (.oi c xs)) st) xs)
  | .x c, _ => QR (.x c) st
  | _, _ => False
theorem rfo_oi {c : Nat} {xs : List D} : rfo QR st (.v (.oi c xs)) s = wc (imms xs = true) (kU (fun xs => QR (.v (.oi c xs)) st) xs) := rfl
theorem rfo_x {c : Nat} : rfo QR st (.x c) s = QR (.x c) st := rfl
theorem n_rFullO : wp (rFullO n fr) st QR = wpe fr (vwN n st) (rfo QR st) := by
  apply propext
  show _ ↔ wp fr (vwN n st) (rfo QR st)
  rw [wp_iff, wp_iff]
  constructor
  · rintro ⟨o, s, e, h⟩
    unfold rFullO at e
    split at e
    · rename_i c xs s1 e1
      split at e
      · rename_i hi; cases e; exact ⟨_, s1, e1, hi, h⟩
      · cases e
    · rename_i c s1 e1
      cases e; exact ⟨_, s1, e1, h⟩
    · cases e
  · rintro ⟨o, s1, e1, h⟩
    cases o with
    | x c => exact ⟨.x c, st, by unfold rFullO; rw [e1], h⟩
    | v r =>
      cases r with
      | oi c xs => obtain ⟨h1, h2⟩ := h; exact ⟨.v (.oi c xs), st, by unfold rFullO; rw [e1]; exact if_pos h1, h2⟩
      | _ => exact h.elim
-- paths and nodes
theorem rAt_nil {r : R} : rAt r [] = some r := rfl
theorem rAt_nl {cs : List R} {j : Nat} {p : List Nat} : rAt (.nl cs) (j :: p) = cs[j]?.bind fun c => rAt c p := rfl
theorem rAt_nt {cs : List R} {j : Nat} {p : List Nat} : rAt (.nt cs) (j :: p) = cs[j]?.bind fun c => rAt c p := rfl
theorem rAt_ni {cs : List R} {c j : Nat} {p : List Nat} : rAt (.ni c cs) (j :: p) = cs[j]?.bind fun c => rAt c p := rfl
theorem rAt_nd {cs : List R} {ks : List D} {j : Nat} {p : List Nat} : rAt (.nd ks cs) (j :: p) = cs[j]?.bind fun c => rAt c p := rfl
theorem rSet_nil {r q : R} : rSet r [] q = q := rfl
def rSets (cs : List R) (j : Nat) (p : List Nat) (q : R) : List R := match cs[j]? with
  | some c => cs.set j (rSet c p q)
  | none => cs
theorem rSet_nl {cs : List R} {j : Nat} {p : List Nat} {q : R} : rSet (.nl cs) (j :: p) q = .nl (rSets cs j p q) := by
  unfold rSets; rw [rSet]; show (match cs[j]? with | some c => _ | none => _) = _; cases cs[j]? <;> rfl
theorem rSet_nt {cs : List R} {j : Nat} {p : List Nat} {q : R} : rSet (.nt cs) (j :: p) q = .nt (rSets cs j p q) := by
  unfold rSets; rw [rSet]; show (match cs[j]? with | some c => _ | none => _) = _; cases cs[j]? <;> rfl
theorem rSet_ni {cs : List R} {c j : Nat} {p : List Nat} {q : R} : rSet (.ni c cs) (j :: p) q = .ni c (rSets cs j p q) := by
  unfold rSets; rw [rSet]; show (match cs[j]? with | some c => _ | none => _) = _; cases cs[j]? <;> rfl
theorem rSet_nd {cs : List R} {ks : List D} {j : Nat} {p : List Nat} {q : R} : rSet (.nd ks cs) (j :: p) q = .nd ks (rSets cs j p q) := by
  unfold rSets; rw [rSet]; show (match cs[j]? with | some c => _ | none => _) = _; cases cs[j]? <;> rfl
theorem rSets_0 {c q : R} {cs : List R} {p : List Nat} : rSets (c :: cs) 0 p q = rSet c p q :: cs := rfl
theorem rSets_s {c q : R} {cs : List R} {p : List Nat} {j : Nat} : rSets (c :: cs) (j + 1) p q = c :: rSets cs j p q := by
  unfold rSets
  show (match cs[j]? with | some _ => _ | none => _) = _
  cases cs[j]? <;> rfl
theorem kids_nl {cs : List R} : kids (.nl cs) = cs := rfl
theorem kids_nt {cs : List R} : kids (.nt cs) = cs := rfl
theorem kids_ni {c : Nat} {cs : List R} : kids (.ni c cs) = cs := rfl
theorem kids_nd {ks : List D} {cs : List R} : kids (.nd ks cs) = cs := rfl
theorem kidAt_nl {cs : List R} {j : Int} : kidAt (.nl cs) (.int j) = ixN cs.length j := rfl
theorem kidAt_nt {cs : List R} {j : Int} : kidAt (.nt cs) (.int j) = ixN cs.length j := rfl
theorem opApp_ol {xs : List D} {x : D} : opApp (.ol xs) [x] = if xs.length < sizeLine then some (.ol (xs ++ [x]), .non) else none := rfl
theorem opRev_ol {xs : List D} : opRev (.ol xs) [] = some (.ol xs.reverse, .non) := rfl
theorem opClr_ol {xs : List D} : opClr (.ol xs) [] = some (.ol [], .non) := rfl
theorem opSet_nl {cs : List R} {j : Int} {q : R} : opSet (.nl cs) (.int j) q = (ixN cs.length j).map fun j => .nl (cs.set j q) := rfl
theorem opSet_ol {xs : List D} {j : Int} {x : D} : opSet (.ol xs) (.int j) (.d x) = (ixN xs.length j).map fun j => .ol (xs.set j x) := rfl
theorem vw_nl {cs : List R} : vw (.nl cs) = .lst (vwL cs) := by unfold vw; rfl
theorem vw_nt {cs : List R} : vw (.nt cs) = .tup (vwL cs) := by unfold vw; rfl
theorem vw_ni {c : Nat} {cs : List R} : vw (.ni c cs) = .obj c (vwL cs) := by unfold vw; rfl
theorem vw_nd {ks : List D} {cs : List R} : vw (.nd ks cs) = .dct ks (vwL cs) := by unfold vw; rfl
theorem vwL_nil : vwL [] = [] := by unfold vwL; rfl
theorem vwL_cons {c : R} {cs : List R} : vwL (c :: cs) = vw c :: vwL cs := by rw [vwL]
theorem wh_nl {cs : List R} : wholeB n (.nl cs) = wholeBL n cs := by rw [wholeB]
theorem wh_nt {cs : List R} : wholeB n (.nt cs) = wholeBL n cs := by rw [wholeB]
theorem wh_ni {c : Nat} {cs : List R} : wholeB n (.ni c cs) = (cs.length == n c && wholeBL n cs) := by rw [wholeB]
theorem wh_nd {ks : List D} {cs : List R} : wholeB n (.nd ks cs) = wholeBL n cs := by rw [wholeB]
theorem whL_nil : wholeBL n [] = true := by rw [wholeBL]
theorem whL_cons {c : R} {cs : List R} : wholeBL n (c :: cs) = (wholeB n c && wholeBL n cs) := by rw [wholeBL]
theorem vwN_nl {cs : List R} {l : Sl} : vwN n (some (.nl cs) :: l) = (if wholeBL n cs = true then some (.d (.lst (vwL cs))) else none) :: vwN n l := by
  show (if wholeB n (.nl cs) = true then some (R.d (vw (.nl cs))) else none) :: _ = _
  rw [wh_nl, vw_nl]; rfl
theorem vwN_nt {cs : List R} {l : Sl} : vwN n (some (.nt cs) :: l) = (if wholeBL n cs = true then some (.d (.tup (vwL cs))) else none) :: vwN n l := by
  show (if wholeB n (.nt cs) = true then some (R.d (vw (.nt cs))) else none) :: _ = _
  rw [wh_nt, vw_nt]; rfl
theorem vwN_nd {ks : List D} {cs : List R} {l : Sl} : vwN n (some (.nd ks cs) :: l) = (if wholeBL n cs = true then some (.d (.dct ks (vwL cs))) else none) :: vwN n l := by
  show (if wholeB n (.nd ks cs) = true then some (R.d (vw (.nd ks cs))) else none) :: _ = _
  rw [wh_nd, vw_nd]; rfl
theorem vwN_ni {c : Nat} {cs : List R} {l : Sl} : vwN n (some (.ni c cs) :: l) = (if (cs.length == n c && wholeBL n cs) = true then some (.d (.obj c (vwL cs))) else none) :: vwN n l := by
  show (if wholeB n (.ni c cs) = true then some (R.d (vw (.ni c cs))) else none) :: _ = _
  rw [wh_ni, vw_ni]; rfl
end
end Fz
set_option Elab.async false
set_option linter.all false
set_option maxRecDepth 100000
set_option maxHeartbeats 2000000
namespace Fz
open PySem L2 PySem.Spec PyProof.Rows
abbrev xset (X : Cx) (xe : Value → Shared → Prop) : Cx := { X with xe := xe }
def xeB (Y : Cx) (E : XK) : Value → Shared → Prop := fun u s' => ∃ pins σ H1 s1, Inv Y pins σ H1 s1 ∧ L2.CX Y.prog Y.w Y.stack H1 s1 E u s'
abbrev bx (X : Cx) (s : Shared) (H : Hp) (scope : Scope) (ce : Env) (fp : List Addr) (E : XK) : Cx := xset (X.blk s H scope ce fp) (xeB (X.blk s H scope ce fp) E)
section
variable {M : Model} {A : Around} {E : Value → Shared → Prop} {s : Shared} {env : Env}
end
end Fz
set_option Elab.async false
set_option linter.all false
set_option maxRecDepth 100000
set_option maxHeartbeats 2000000
namespace Fz
open PySem L2 PySem.Spec PyProof.Rows
end Fz
set_option Elab.async false
set_option linter.all false
set_option maxRecDepth 100000
set_option maxHeartbeats 4000000
namespace Fz
open PySem L2 PySem.Spec PyProof.Rows
end Fz
set_option Elab.async false
set_option linter.all false
set_option maxRecDepth 100000
set_option maxHeartbeats 4000000
namespace Fz
open PySem L2 PySem.Spec PyProof.Rows
end Fz
set_option Elab.async false
set_option linter.all false
set_option maxRecDepth 100000
set_option maxHeartbeats 4000000
namespace Fz
open PySem L2 PySem.Spec PyProof.Rows
section
variable {ι : Type} {T : Tab} {E : XK} {X : ι → Cx} {kp : Nat → Bool} {pos : Pos} {elt tg iter : Expr} {y : Str}
end
section
variable {P : Program} {w : World} {T : Tab} {mg : Str → Option Value} {base : Heap} {N : List Str} {qual : Str} {st : Stmt} {f : Addr} {cdv : Value} {A : Around} {outer : List Env} {s : Shared} {H : Hp} {E : XK} {x m : Str} {n c k : Nat} {F : Fn}
end
end Fz
set_option Elab.async false
set_option linter.all false
set_option maxRecDepth 100000
set_option maxHeartbeats 4000000
namespace Fz
open PySem L2 PySem.Spec PyProof.Rows
section
variable {T : Tab} {st : Sl} {σ : L2.St} {B F H : Hp}
theorem Sim.swap {a b : Option R} {x y : Option V} (S : Sim T (a :: b :: st) (x :: y :: σ) B F H) : Sim T (b :: a :: st) (y :: x :: σ) B F H := by
  have p : ∀ i, ∃ j, (b :: a :: st)[i]? = (a :: b :: st)[j]? ∧ (y :: x :: σ)[i]? = (x :: y :: σ)[j]? ∧ (j = 1 ↔ i = 0) ∧ (j = 0 ↔ i = 1) ∧ (2 ≤ i → j = i) ∧ (2 ≤ j → j = i) := fun i => by
    match i with
    | 0 => exact ⟨1, rfl, rfl, by omega, by omega, by omega, by omega⟩
    | 1 => exact ⟨0, rfl, rfl, by omega, by omega, by omega, by omega⟩
    | i + 2 => exact ⟨i + 2, rfl, rfl, by omega, by omega, by omega, by omega⟩
  refine ⟨S.exB, S.exF, S.dis, S.tup, by have := S.len; simpa using this, fun i r h => ?_, fun i r v c h1 h2 h3 => ?_, fun i j r q v u c n h1 h2 h3 h4 h5 h6 => ?_⟩
  · obtain ⟨j, e1, e2, _⟩ := p i
    rw [e1] at h
    obtain ⟨v, g1, g2⟩ := S.rel j r h
    exact ⟨v, by rw [e2]; exact g1, g2⟩
  · obtain ⟨j, e1, e2, _⟩ := p i
    rw [e1] at h1
    rw [e2] at h2
    exact S.own j r v c h1 h2 h3
  · obtain ⟨i', e1, e2, k1, k2, k3, k4⟩ := p i
    obtain ⟨j', f1, f2, l1, l2, l3, l4⟩ := p j
    rw [e1] at h1
    rw [e2] at h2
    rw [f1] at h3
    rw [f2] at h4
    exact S.sep i' j' r q v u c (by omega) h1 h2 h3 h4 h5 h6
end
theorem held_lst {H : Hp} {a : Addr} {xs ys : List V} (h : H a = some (.lst ys)) (k : HeldAt H a xs) : xs = ys := by
  rcases k with k | k | ⟨C, dx, fs, k, _⟩ | ⟨w, ep, es, k, _⟩
  · rw [h] at k; injection k with k; injection k with k; exact k.symm
  · rw [h] at k; injection k with k; cases k
  · rw [h] at k; injection k with k; cases k
  · rw [h] at k; injection k with k; cases k
def lcR (g : D → Sl → Option Sl) (c : M Bool) (e : M R) (vs : List Nat) : List D → List R → Sl → Option (List R × Sl)
  | [], acc, s => some (acc, s)
  | d :: ds, acc, s => match g d s with
    | none => none
    | some s1 => match c s1 with
      | some (.v true, s2) => (match e s2 with
        | some (.v y, s3) => if acc.length < sizeLine then lcR g c e vs ds (acc ++ [y]) (wipeS s3 vs) else none
        | _ => none)
      | some (.v false, s2) => lcR g c e vs ds acc (wipeS s2 vs)
      | _ => none
def rLcR (it : M (List D)) (g : D → Sl → Option Sl) (c : M Bool) (e : M R) (vs : List Nat) : M R := fun st => match it st with
  | some (.v ds, s) => if vs.all (fun i => !isOwned (s.getD i none)) then (match lcR g c e vs ds [] (wipeS s vs) with
      | some (ys, s') => some (.v (.nl ys), backS s s' vs)
      | none => none) else none
  | some (.x c, s) => some (.x c, s)
  | none => none
theorem relR_nl0 {T : Tab} {B H : Hp} {D : Addr} : RelR T B (upd H D (.lst [])) (.nl []) (.ref D) := by
  unfold RelR
  exact ⟨D, [], rfl, upd_same, by unfold RelRs; rfl, fun z => by unfold OwL at z; exact z⟩
theorem ow_nl0 {H : Hp} {D : Addr} : ∀ a, Ow (upd H D (.lst [])) (.nl []) (.ref D) a → a = D := fun a z => by
  unfold Ow at z
  rcases z with z | ⟨_, _, _, _, z⟩
  · exact (V.ref.inj z).symm
  · unfold OwL at z; exact z.elim
theorem Sim.backW' {T : Tab} {st st' : Sl} {σ : L2.St} {B B' F F0 H H' : Hp} (S : Sim T st σ B F0 H) {vs : List Nat} (no : ∀ i ∈ vs, isOwned (st.getD i none) = false) (e : Ex B B') (S' : Sim T st' (L2.wipe σ vs) B' F H') : Sim T (backS st st' vs) σ B' F H' := by
  have dd : ∀ {i : Nat} {r : R}, i ∈ vs → st[i]? = some (some r) → ∃ x, r = .d x := fun {i r} h1 h2 => by
    have := no i h1
    rw [List.getD_eq_getElem?_getD, h2] at this
    cases r with
    | d x => exact ⟨x, rfl⟩
    | _ => cases this
  refine ⟨S'.exB, S'.exF, S'.dis, S'.tup, by rw [backS_length]; have := S'.len; rwa [wipe_length] at this, fun i r h => ?_, fun i r v a h1 h2 h3 => ?_, fun i j r q v u a n h1 h2 h3 h4 h5 h6 => ?_⟩
  · rcases backS_at h with ⟨h1, h2⟩ | ⟨h1, h2⟩
    · obtain ⟨x, rfl⟩ := dd h1 h2
      obtain ⟨v, a, b⟩ := S.rel i _ h2
      exact ⟨v, a, Rep.mono e x b⟩
    · obtain ⟨v, a, b⟩ := S'.rel i r h2
      exact ⟨v, by rw [← wipe_other h1]; exact a, b⟩
  · rcases backS_at h1 with ⟨g1, g2⟩ | ⟨g1, g2⟩
    · obtain ⟨x, rfl⟩ := dd g1 g2; exact h3.elim
    · exact S'.own i r v a g2 (by rw [wipe_other g1]; exact h2) h3
  · rcases backS_at h1 with ⟨g1, g2⟩ | ⟨g1, g2⟩
    · obtain ⟨x, rfl⟩ := dd g1 g2; exact h5.elim
    · rcases backS_at h3 with ⟨g3, g4⟩ | ⟨g3, g4⟩
      · obtain ⟨x, rfl⟩ := dd g3 g4; exact h6.elim
      · exact S'.sep i j r q v u a n g2 (by rw [wipe_other g1]; exact h2) g4 (by rw [wipe_other g3]; exact h4) h5 h6
theorem semR_lcR {T : Tab} {E : L2.St → XK} {wi : TI} {it : M (List D)} {g : TG} {gf : D → Sl → Option Sl} {tt : TT} {c : M Bool} {te : TE} {e : M R} {vs : List Nat} (hi : SemI T E wi it) (hg : SemGB T vs g gf) (hc : SemT T (fun _ => E0) tt c) (he : SemR T (fun _ => E0) te e) (idem : ∀ σ : L2.St, L2.wipe (L2.wipe σ vs) vs = L2.wipe σ vs) :
    SemR T E (tLc wi g tt te vs) (rLcR it gf c e vs) := by
  intro st σ B F H S o s h Q hQ
  unfold rLcR at h
  split at h
  · rename_i ds s0 e0
    split at h
    · rename_i hno
      split at h
      · rename_i ys s' el
        cases h
        refine hi st σ B F H S _ _ e0 _ fun B1 H1 x1 S1 J hJ D hD => ?_
        have Sw := S1.wipe vs
        have SD : Sim T (some (.nl []) :: wipeS s0 vs) (some (.ref D) :: L2.wipe σ vs) B1 F (upd H1 D (.lst [])) := Sw.alloc hD (fun _ z => nomatch z) relR_nl0 ow_nl0
        refine ⟨fun i m H2 => i ≤ ds.length ∧ m = ds.length - i ∧ ∃ acc sI B2, Ex B1 B2 ∧ Sim T (some (.nl acc) :: sI) (some (.ref D) :: L2.wipe σ vs) B2 F H2 ∧ lcR gf c e vs (ds.drop i) acc sI = some (ys, s'), ⟨ds.length, Nat.zero_le _, by omega, [], _, B1, Ex.refl _, SD, el⟩, ?_⟩
        rintro i m H2 ⟨hle, rfl, acc, sI, B2, x2, S2, h2⟩
        by_cases hlt : i < ds.length
        · refine .inr ⟨hJ.go i H2 hlt (x2.trans S2.exB), ?_⟩
          rw [List.drop_eq_getElem_cons hlt] at h2
          have hget : ds[i]? = some ds[i] := List.getElem?_eq_getElem hlt
          generalize ds[i] = d at h2 hget
          unfold lcR at h2
          split at h2
          · cases h2
          · rename_i s3 eg
            refine ⟨fun H' => ∃ m', m' < ds.length - i ∧ (i + 1 ≤ ds.length ∧ m' = ds.length - (i + 1) ∧ ∃ acc sI B2, Ex B1 B2 ∧ Sim T (some (.nl acc) :: sI) (some (.ref D) :: L2.wipe σ vs) B2 F H' ∧ lcR gf c e vs (ds.drop (i + 1)) acc sI = some (ys, s')), fun H' z => z, fun x H3 hy => ?_⟩
            obtain ⟨B3, x3, hx⟩ := hJ.yld i d H2 x H3 B2 hget x2 S2.exB hy
            have S3 := S2.ext x3
            have S3h := S3.hideTop
            refine hg sI _ B3 _ H3 S3h d x s3 hx eg _ fun σ4 k4 S4 => ⟨by rw [k4, idem], ?_⟩
            split at h2
            · rename_i s5 ec
              refine hc s3 σ4 B3 _ H3 S4 _ _ ec _ fun B5 H5 x5 S5 => ?_
              show if true = true then _ else _
              rw [if_pos rfl]
              split at h2
              · rename_i y s6 ee
                split at h2
                · rename_i hsz
                  refine he s5 σ4 B5 _ H5 S5 _ _ ee _ fun v B6 H6 x6 S6 => ?_
                  have SU := (S3.shown (x5.trans x6) S6).swap
                  have SL := SU.pop
                  obtain ⟨p, ws, ep, hp, hr, hn⟩ := SL.top
                  cases ep
                  have lw := hr.length
                  have D1 : ∀ b, Ow H6 y v b → ¬ Ow H6 (.nl acc) (.ref D) b := fun b z1 z2 => SU.sep 0 1 y (.nl acc) v (.ref D) b (by omega) rfl rfl rfl rfl z1 z2
                  have owD : Ow H6 (.nl acc) (.ref D) D := by unfold Ow; exact .inl rfl
                  have yD : ¬ Ow H6 y v D := fun z => D1 D z owD
                  have tk : Tk H6 (upd H6 D (.lst (ws ++ [v]))) := fun b xs z => by
                    rw [upd_ne (by intro e; subst e; rw [hp] at z; cases z)]; exact z
                  have kp : ∀ (b : Addr) (o : HO), b ≠ D → H6 b = some o → upd H6 D (.lst (ws ++ [v])) b = some o := fun b o n z => by rw [upd_ne n]; exact z
                  have hr' : RelRs T B6 (upd H6 D (.lst (ws ++ [v]))) acc ws := hr.keep (Ex.refl _) tk fun b o z1 z2 => kp b o (fun e => hn (e ▸ z1)) z2
                  have ry' : RelR T B6 (upd H6 D (.lst (ws ++ [v]))) y v := SU.top.keep (Ex.refl _) tk fun b o z1 z2 => kp b o (fun e => yD (e ▸ z1)) z2
                  have bkL : ∀ b, OwL (upd H6 D (.lst (ws ++ [v]))) acc ws b → OwL H6 acc ws b := fun b z => OwL.back tk hr (fun b o z1 z2 => kp b o (fun e => hn (e ▸ z1)) z2) z
                  have bkY : ∀ b, Ow (upd H6 D (.lst (ws ++ [v]))) y v b → Ow H6 y v b := fun b z => Ow.back tk SU.top (fun b o z1 z2 => kp b o (fun e => yD (e ▸ z1)) z2) z
                  have inL : ∀ b, OwL H6 acc ws b → Ow H6 (.nl acc) (.ref D) b := fun b z => by unfold Ow; exact .inr ⟨D, ws, rfl, .inl hp, z⟩
                  obtain ⟨n1, n2⟩ := relRs_snocR ry' hr' fun b z1 z2 => D1 b (bkY b z1) (inL b (bkL b z2))
                  refine ⟨ws, hp, by rw [← lw]; exact hsz, _, by omega, hlt, rfl, acc ++ [y], wipeS s6 vs, B6, x2.trans (x3.b.trans (x5.trans x6)), ?_, h2⟩
                  have rel' : RelR T B6 (upd H6 D (.lst (ws ++ [v]))) (.nl (acc ++ [y])) (.ref D) := by
                    unfold RelR
                    exact ⟨D, ws ++ [v], rfl, upd_same, n1, fun z => (n2 D z).elim (fun z => hn (bkL D z)) fun z => yD (bkY D z)⟩
                  have SC := SU.change2 (i := 0) (r' := .nl (acc ++ [y])) (o := .lst (ws ++ [v])) rfl rfl owD (fun _ z => nomatch z) rel' (fun b z => by
                    unfold Ow at z
                    rcases z with z | ⟨a', xs', ea, ha, z⟩
                    · cases z; exact .inl owD
                    · cases ea
                      have : xs' = ws ++ [v] := held_lst upd_same ha
                      subst this
                      exact (n2 b z).elim (fun z => .inl (inL b (bkL b z))) fun z => .inr (bkY b z))
                  have SC' : Sim T (some (.nl (acc ++ [y])) :: s6) (some (.ref D) :: σ4) B6 F (upd H6 D (.lst (ws ++ [v]))) := SC
                  have SW := (SC'.hideTop).wipe vs
                  rw [k4, idem] at SW
                  exact SC'.shown (Ex.refl _) SW
                · cases h2
              · cases h2
            · rename_i s5 ec
              refine hc s3 σ4 B3 _ H3 S4 _ _ ec _ fun B5 H5 x5 S5 => ?_
              show if false = true then _ else _
              rw [if_neg Bool.false_ne_true]
              refine ⟨_, by omega, hlt, rfl, acc, wipeS s5 vs, B5, x2.trans (x3.b.trans x5), ?_, h2⟩
              have SW := S5.wipe vs
              rw [k4, idem] at SW
              exact S3.shown x5 SW
            · cases h2
        · have ei : i = ds.length := by omega
          subst ei
          refine .inl ⟨hJ.stop H2 (x2.trans S2.exB), ?_⟩
          rw [List.drop_length] at h2
          cases h2
          refine hQ _ B2 H2 (x1.trans x2) ?_
          have no : ∀ i ∈ vs, isOwned (s0.getD i none) = false := fun i hm => by
            have := List.all_eq_true.mp hno i hm
            simpa using this
          exact S2.shown (Ex.refl _) (S1.backW' no x2 S2.hideTop)
      · cases h
    · cases h
  · rename_i c s0 e0
    cases h
    exact hi st σ B F H S _ _ e0 _ fun d B1 H1 x1 S1 => hQ d B1 H1 x1 S1
  · cases h
section
variable {ι : Type} {T : Tab} {E : L2.St → XK} {X : ι → Cx} {kp : Nat → Bool} {pos : Pos} {elt tg iter : Expr} {y : Str}
theorem xs_setLcR (i : Nat) {py spos : Pos} {ifs : List Expr} {scope : Scope} {own : List (Str × Nat)} {it : M (List D)} {gf : D → Sl → Option Sl} {f : M Bool} {fe : M R} (hN : ∀ j, (X j).N.Nodup) (hi : XI T E X tg iter it) (ok : ∀ j, BlkOk (X j).N (X j).env.scope scope own)
    (hg : XGB T (Blk X scope) (own.map (·.2)) tg gf) (ht : XTs T (fun _ => E0) (Blk X scope) ifs f) (he : XR T (fun _ => E0) (Blk X scope) elt fe)
    (hsw : ∀ j, swapsWith (.ListComp elt [⟨tg, iter, ifs, 0⟩] scope pos) (some (.Name y py)) spos.line (X j).env = pure true) (hk : kp i = false := by rfl) (hy : ∀ j, (X j).N[i]? = some y := by intro j; rfl) (hyl : ∀ j, (X j).env.scope.names.lookup y = some .local := by intro j; rfl) (hc : ∀ j, (X j).calm = true := by intro j; rfl) (hs : ∀ j x, foldedSetIterable iter (X j).env x = pure x := by intro _ _; rfl) :
    XS T E X kp (.Assign [.Name y py] (.ListComp elt [⟨tg, iter, ifs, 0⟩] scope pos) spos) (sSet i (rLcR it gf f fe (own.map (·.2)))) := by
  obtain ⟨_, i1, i2⟩ := hi
  obtain ⟨_, g1, g2⟩ := hg
  obtain ⟨_, t1, t2⟩ := ht
  obtain ⟨_, e1, e2⟩ := he
  exact ⟨_, fun j => ps_setLc (hc j) (hN j) (hy j) (hyl j) (hsw j) (i1 j) (ok j) (fun s H C cl fp => g1 (j, s, H, C, cl, fp)) (fun s H C cl fp => t1 (j, s, H, C, cl, fp)) (fun s H C cl fp => e1 (j, s, H, C, cl, fp)) (hs j), semS_set hk (semR_lcR i2 g2 t2 e2 (wipe_idem _))⟩
end
def wlr (g : D → Sl → Option Sl) (c : M Bool) (e : M R) (vs : List Nat) (ds : List D) (acc : List R) (s : Sl) (k : List R → Sl → Prop) : Prop := match lcR g c e vs ds acc s with
  | some (ys, s') => k ys s'
  | none => False
def kLcBR (st : Sl) (vs : List Nat) (Q : Oc R → Sl → Prop) : List R → Sl → Prop := fun ys s' => Q (.v (.nl ys)) (backS st s' vs)
theorem kLcBR_a {st s' : Sl} {vs : List Nat} {Q : Oc R → Sl → Prop} {ys : List R} : kLcBR st vs Q ys s' = Q (.v (.nl ys)) (backS st s' vs) := rfl
def kLcUR (g : D → Sl → Option Sl) (c : M Bool) (e : M R) (vs : List Nat) (ds : List D) (s : Sl) (Q : Oc R → Sl → Prop) : Unit → Prop := fun _ => wlr g c e vs ds [] (wipeS s vs) (kLcBR s vs Q)
theorem kLcUR_a {g : D → Sl → Option Sl} {c : M Bool} {e : M R} {vs : List Nat} {ds : List D} {s : Sl} {Q : Oc R → Sl → Prop} : kLcUR g c e vs ds s Q () = wlr g c e vs ds [] (wipeS s vs) (kLcBR s vs Q) := rfl
def kLcR (g : D → Sl → Option Sl) (c : M Bool) (e : M R) (vs : List Nat) (Q : Oc R → Sl → Prop) : Oc (List D) → Sl → Prop := vx Q fun ds s => wc (vs.all (fun i => !isOwned (s.getD i none)) = true) (kLcUR g c e vs ds s Q)
theorem kLcR_v {g : D → Sl → Option Sl} {c : M Bool} {e : M R} {vs : List Nat} {Q : Oc R → Sl → Prop} {ds : List D} {s : Sl} : kLcR g c e vs Q (.v ds) s = wc (vs.all (fun i => !isOwned (s.getD i none)) = true) (kLcUR g c e vs ds s Q) := rfl
theorem n_rLcR {it : M (List D)} {g : D → Sl → Option Sl} {c : M Bool} {e : M R} {vs : List Nat} {st : Sl} {Q : Oc R → Sl → Prop} : wp (rLcR it g c e vs) st Q = wp it st (kLcR g c e vs Q) := by
  unfold wp rLcR
  cases it st with
  | none => rfl
  | some p =>
    obtain ⟨o, s⟩ := p
    cases o with
    | x c => rfl
    | v ds =>
      simp only [kLcR_v, wc, wa, kLcUR_a, wlr]
      by_cases h : (vs.all (fun i => !isOwned (s.getD i none))) = true
      · simp only [h, if_true, true_and]
        cases lcR g c e vs ds [] (wipeS s vs) with
        | none => rfl
        | some p => rfl
      · simp only [h, if_false, false_and]; simp
theorem wlr_map {α : Type} {g : D → Sl → Option Sl} {e : M R} {vs : List Nat} {k : List R → Sl → Prop} {xs : List α} (p : α → D) (f : α → R) {acc : List R} {s : Sl} (hl : acc.length + xs.length ≤ sizeLine)
    (hs : ∀ x ∈ xs, wo (g (p x) s) fun s1 => wp e s1 fun o s3 => o = .v (f x) ∧ wipeS s3 vs = s)
    (h1 : k (acc ++ xs.map f) s) : wlr g cYes e vs (xs.map p) acc s k := by
  induction xs generalizing acc with
  | nil => simp at h1; exact h1
  | cons x xs ih =>
    obtain ⟨s1, g1, h⟩ := hs x (.head _)
    have lc : lcR g cYes e vs ((x :: xs).map p) acc s = (match e s1 with
        | some (.v y, s3) => if acc.length < sizeLine then lcR g cYes e vs (xs.map p) (acc ++ [y]) (wipeS s3 vs) else none
        | _ => none) := by
      rw [List.map_cons, lcR, g1]
      rfl
    unfold wlr
    rw [lc]
    unfold wp at h
    revert h
    cases he : e s1 with
    | none => exact fun h => h.elim
    | some z =>
      obtain ⟨o, s3⟩ := z
      rintro ⟨ho, hw⟩
      subst ho
      simp only [List.length_cons] at hl
      show (match (if acc.length < sizeLine then lcR g cYes e vs (xs.map p) (acc ++ [f x]) (wipeS s3 vs) else none) with | some (o, s') => k o s' | none => False)
      rw [if_pos (by omega), hw]
      refine ih (acc := acc ++ [f x]) (by rw [List.length_append]; show acc.length + 1 + xs.length ≤ _; omega) (fun z hz => hs z (.tail _ hz)) ?_
      rw [List.append_assoc]; exact h1
end Fz
set_option Elab.async false
set_option linter.all false
set_option maxRecDepth 100000
set_option maxHeartbeats 4000000
namespace Fz
open PySem L2 PySem.Spec PyProof.Rows
end Fz
set_option Elab.async false
set_option linter.all false
set_option maxRecDepth 100000
set_option maxHeartbeats 2000000
namespace Fz
open PySem L2 PySem.Spec PyProof.Rows
section
variable {T : Tab} {E : L2.St → XK} {kp : Nat → Bool} {st s' : Sl} {σ σ' : L2.St} {B B' F H H' : Hp}
end
section
variable {ι : Type} {T : Tab} {E : L2.St → XK} {X : ι → Cx} {kp : Nat → Bool} {pos p1 p2 : Pos} {f : MS} {x y : Str}
end
end Fz
set_option Elab.async false
set_option linter.all false
set_option maxRecDepth 100000
set_option maxHeartbeats 4000000
namespace Fz
open PySem L2 PySem.Spec PyProof.Rows
end Fz
set_option Elab.async false
set_option linter.all false
set_option maxRecDepth 100000
set_option maxHeartbeats 4000000
namespace Fz
open PySem L2 PySem.Spec PyProof.Rows
end Fz
set_option Elab.async false
set_option linter.all false
set_option maxRecDepth 100000
set_option maxHeartbeats 4000000
namespace Fz
open PySem L2 PySem.Spec PyProof.Rows
variable {T : Tab} {B H : Hp}
end Fz
set_option Elab.async false
set_option linter.all false
set_option maxRecDepth 100000
set_option maxHeartbeats 2000000
namespace Fz
open PySem PySem.Spec PyProof.Rows L2
section
variable {P : Program} {w : World} {A : Around} {E : Value → Shared → Prop} {s : Shared}
abbrev NIs (P : Program) (w : World) (h : Heap) (k : NestedKey) (b : Addr) : Prop := (nestedKind P w).is h k b
theorem nall_mem {h : Heap} : ∀ {ks : List NestedKey} {vs : List Value}, NestedAll h ks vs → ∀ v ∈ vs, ∃ k ∈ ks, NestedIs h k v
  | _, _, .nil, v, hv => nomatch hv
  | _, _, .cons h1 h2, v, hv => by
    rcases List.mem_cons.mp hv with rfl | hv
    · exact ⟨_, List.mem_cons_self, h1⟩
    · obtain ⟨k, a, b⟩ := nall_mem h2 v hv
      exact ⟨k, List.mem_cons_of_mem _ a, b⟩
theorem depth_mem : ∀ {ks : List NestedKey} {k : NestedKey}, k ∈ ks → k.depth ≤ NestedKey.depthAll ks
  | k' :: ks, k, h => by
    simp only [NestedKey.depthAll]
    rcases List.mem_cons.mp h with rfl | h
    · exact Nat.le_max_left _ _
    · exact Nat.le_trans (depth_mem h) (Nat.le_max_right _ _)
theorem hashBy_any : ∀ (n : Nat) {k : NestedKey} {v : Value} {Q : Bool → Shared → Prop}, NestedIs s.heap k v → (∀ b, Q b s) → wpAny (model P w) A (hashByValue n v) Q E s := by
  intro n
  induction n with
  | zero =>
    intro k v Q hk h
    cases hk <;> exact wpAny_pure (h _)
  | succ n ih =>
    intro k v Q hk h
    cases hk with
    | @tup a o vs m ks ho hc hd hi =>
      unfold hashByValue
      refine wpAny_bind (wpAny_specialOf (T := "tuple") ⟨o, ho, hc⟩ PySem.F.slot_tuple_hash.lookup ?_)
      show wpAny _ _ (seqItems? (.ref a) >>= _) _ _ s
      refine wpAny_bind (wpAny_seqItems ho hd ?_)
      refine wpAny_bind ?_
      show wpAny _ _ (forIn vs _ _) _ _ s
      rw [← Array.forIn_toList]
      refine wpAny_forIn_list _ (fun rest r s' => r.1 = none ∧ s' = s ∧ ∀ v ∈ rest, ∃ k, NestedIs s.heap k v) _ ?_ ?_ _ _ ⟨rfl, rfl, fun v hv => let ⟨k, _, z⟩ := nall_mem hi v hv; ⟨k, z⟩⟩
      · rintro v rest r s' ⟨hr, rfl, hall⟩
        obtain ⟨k, hk⟩ := hall v List.mem_cons_self
        refine wpAny_bind (ih hk fun b => ?_)
        cases b with
        | true =>
          simp only [Bool.not_true, Bool.false_eq_true, if_false]
          exact wpAny_pure ⟨rfl, rfl, fun u hu => hall u (List.mem_cons_of_mem _ hu)⟩
        | false =>
          simp only [Bool.not_false, if_true]
          exact wpAny_pure (wpAny_pure (h _))
      · rintro ⟨r1, r2⟩ s' ⟨hr, rfl, _⟩
        simp only at hr
        subst hr
        exact wpAny_pure (h _)
    | _ => exact wpAny_pure (h _)
theorem ofA_no : ∀ (n : Nat) {k : NestedKey} {v : Value} {Q : Bool → Shared → Prop}, NestedIs s.heap k v → k.depth ≤ n → Q false s → wpAny (model P w) A (ofAClassStatement n v) Q E s := by
  intro n
  induction n with
  | zero =>
    intro k v Q hk hn h
    cases hk with
    | tup _ _ _ _ => simp [NestedKey.depth] at hn
    | _ => exact wpAny_pure h
  | succ n ih =>
    intro k v Q hk hn h
    cases hk with
    | @tup a o vs m ks ho hc hd hi =>
      simp only [NestedKey.depth] at hn
      unfold ofAClassStatement
      refine wpAny_bind (wpAny_typeOf (T := "tuple") ⟨o, ho, hc⟩ ?_)
      dsimp only
      have e : (("tuple" : String) == "tuple") = true := by decide
      simp only [e, if_true, Bool.not_true, Bool.false_eq_true, if_false]
      try refine wpAny_bind (wpAny_pure ?_)
      try simp only [Bool.not_true, Bool.false_eq_true, if_false]
      show wpAny _ _ (seqItems? (.ref a) >>= _) _ _ s
      refine wpAny_bind (wpAny_seqItems ho hd ?_)
      dsimp only
      refine wpAny_bind ?_
      show wpAny _ _ (forIn vs _ _) _ _ s
      rw [← Array.forIn_toList]
      refine wpAny_forIn_list _ (fun rest r s' => r.1 = none ∧ s' = s ∧ ∀ v ∈ rest, ∃ k, k.depth ≤ n ∧ NestedIs s.heap k v) _ ?_ ?_ _ _
        ⟨rfl, rfl, fun v hv => let ⟨k, a, z⟩ := nall_mem hi v hv; ⟨k, Nat.le_trans (depth_mem a) (Nat.le_of_succ_le_succ hn), z⟩⟩
      · rintro v rest r s' ⟨hr, rfl, hall⟩
        obtain ⟨k, kd, hk⟩ := hall v List.mem_cons_self
        refine wpAny_bind (ih hk kd ?_)
        simp only [Bool.false_eq_true, if_false]
        exact wpAny_pure ⟨rfl, rfl, fun u hu => hall u (List.mem_cons_of_mem _ hu)⟩
      · rintro ⟨r1, r2⟩ s' ⟨hr, rfl, _⟩
        simp only at hr
        subst hr
        exact wpAny_pure h
    | _ => exact wpAny_pure h
theorem seen_no {k : NestedKey} {b : Addr} {Q : Bool → Shared → Prop} (hk : NIs P w s.heap k b) {ys : List Value} (hy : ∀ y ∈ ys, ∃ k' c, y = Value.ref c ∧ NIs P w s.heap k' c) (h : Q false s) :
    wpAny (model P w) A (searchCouldBeSeen (.ref b) ys) Q E s := by
  unfold searchCouldBeSeen
  refine wpAny_bind (wpAny_forIn_list _ (fun rest r s' => r.1 = none ∧ s' = s ∧ ∀ y ∈ rest, ∃ k' c, y = Value.ref c ∧ NIs P w s.heap k' c) _ ?_ ?_ _ _ ⟨rfl, rfl, hy⟩)
  · rintro v rest r s' ⟨hr, rfl, hall⟩
    obtain ⟨k', c, rfl, hc⟩ := hall v List.mem_cons_self
    have more : ∀ y ∈ rest, ∃ k' c, y = Value.ref c ∧ NIs P w s'.heap k' c := fun u hu => hall u (List.mem_cons_of_mem _ hu)
    dsimp only
    by_cases hv : (b == c || (carriedByValue (.ref b) && carriedByValue (.ref c))) = true
    · exact wp_if_pos hv (wpAny_pure ⟨rfl, rfl, more⟩)
    · refine wp_if_neg hv (wpAny_bind ((nestedKind P w).quiet hk ?_))
      simp only [Bool.not_true, Bool.false_eq_true, if_false]
      refine wpAny_bind ((nestedKind P w).quiet hc ?_)
      simp only [Bool.not_true, Bool.false_eq_true, if_false]
      refine wpAny_bind (ofA_no 8 hk.1 hk.2 ?_)
      simp only [Bool.false_eq_true, if_false]
      refine wpAny_bind (ofA_no 8 hc.1 hc.2 ?_)
      simp only [Bool.false_eq_true, if_false]
      exact wpAny_pure ⟨rfl, rfl, more⟩
  · rintro ⟨r1, r2⟩ s' ⟨hr, rfl, _⟩
    simp only at hr
    subst hr
    exact wpAny_pure h
theorem NIs.stay {h h' : Heap} {k : NestedKey} {b : Addr} (x : NIs P w h k b) (hk : ∀ c o vs n, h.get? c = some o → o.data = .seq vs n → h'.get? c = some o) : NIs P w h' k b := nestedKind_stays.stays hk x
theorem NIs.keep {h h' : Heap} {k : NestedKey} {b : Addr} (x : NIs P w h k b) (hk : ∀ c o, h.get? c = some o → h'.get? c = some o) : NIs P w h' k b := x.stay fun c o _ _ e _ => hk c o e
theorem NIs.set {h h' : Heap} {k : NestedKey} {a b : Addr} {o : Obj} {es : Array (Int × Value)} {ep : Nat} {t : SetTable} (x : NIs P w h k b) (ho : h.get? a = some o) (hd : o.data = .set es ep t) (hs : Heap.SameBut a h h') : NIs P w h' k b :=
  x.stay fun c o' vs n e q => (hs.2 c fun z => by subst z; rw [ho] at e; cases e; rw [hd] at q; cases q).trans e
end
end Fz
set_option Elab.async false
set_option linter.all false
set_option maxRecDepth 100000
set_option maxHeartbeats 4000000
namespace Fz
open PySem PySem.Spec PyProof.Rows L2
section
variable {P : Program} {w : World} {A : Around} {E : Value → Shared → Prop} {s : Shared}
def rowN (w : World) (p : Addr × NestedKey) : Int × Value := (p.2.hash w, .ref p.1)
structure NSet (P : Program) (w : World) (h : Heap) (a : Addr) (L : List (Addr × NestedKey)) (es : Array (Int × Value)) (ep : Nat) (t : SetTable) : Prop where
  ob : ∃ o, h.get? a = some o ∧ o.ExactSet ∧ o.data = .set es ep t
  rows : es.toList = L.map (rowN w)
  tab : TabOk t (L.map fun p => p.2.hash w)
  nd : (L.map (·.2)).Nodup
  key : ∀ p ∈ L, NIs P w h p.2 p.1
  led : w.params.followText "set-order" = true ∨ t.led = true
  room : L.length * 5 < t.mask * 3
  few : L.length < 64
variable {a x : Addr} {L : List (Addr × NestedKey)} {es : Array (Int × Value)} {ep : Nat} {t : SetTable} {k : NestedKey}
theorem NSet.len (R : NSet P w s.heap a L es ep t) : es.size = L.length := by
  have h := congrArg List.length R.rows
  rwa [Array.length_toList, List.length_map] at h
theorem NSet.at (R : NSet P w s.heap a L es ep t) (i : Nat) : es[i]? = (L[i]?).map (rowN w) := by
  rw [← Array.getElem?_toList, R.rows, List.getElem?_map]
theorem NSet.place (R : NSet P w s.heap a L es ep t) : t.place.toList.length = L.length := by
  have := R.tab.sz
  rwa [List.length_map] at this
theorem NSet.fits (R : NSet P w s.heap a L es ep t) : t.fits es.size = true := by
  have h1 := R.place
  have h2 := R.len
  have h3 := R.room
  rw [Array.length_toList] at h1
  unfold SetTable.fits SetTable.fill
  rw [R.tab.dm, Bool.and_eq_true, beq_iff_eq, decide_eq_true_eq]
  refine ⟨by omega, ?_⟩
  show t.place.size + 0 ≤ t.mask
  omega
theorem NSet.sound (R : NSet P w s.heap a L es ep t) : ¬ t.gaveWay = true := by
  unfold SetTable.gaveWay
  rw [mask_odd R.tab.mok]
  decide
abbrev prb (t : SetTable) (h : Int) (c : Nat) : SetTable.Probe := nth t.mask (runAt t.mask (SetTable.bits h % (t.mask + 1)) (SetTable.bits h)) c
theorem nth_dummy (m : Nat) : ∀ (n : Nat) (p : SetTable.Probe), p.dummy = none → (nth m p n).dummy = none
  | 0, _, h => h
  | n + 1, p, h => nth_dummy m n (adv m p) (by unfold adv; split <;> exact h)
theorem prb_add (t : SetTable) (h : Int) (c q : Nat) : nth t.mask (prb t h c) q = prb t h (c + q) := (nth_add t.mask c _ q).symm
def Ahead (w : World) (t : SetTable) (L : List (Addr × NestedKey)) (k : NestedKey) (K c : Nat) : Prop :=
  ∀ (i : Nat) p, L[i]? = some p → p.2 = k → ∃ c', c ≤ c' ∧ c' < K ∧ t.place.toList[i]? = some (way t.mask (k.hash w) c')
theorem search_go (R : NSet P w s.heap a L es ep t) (hx : NIs P w s.heap k x) (hu : A.units + 8 < cLine) {K : Nat} (hKf : K < 10 * SetTable.turns t.mask)
    (hK : way t.mask (k.hash w) K ∉ t.place.toList) (hb : ∀ c, c < K → way t.mask (k.hash w) c ∈ t.place.toList) {Q : SetFound → Shared → Prop}
    (hin : k ∈ L.map (·.2) → Q (.there none) s) (hout : k ∉ L.map (·.2) → Q (.free (way t.mask (k.hash w) K) false) s) :
    ∀ (f c : Nat) (st : Option SetTable.Probe), st.getD (t.probeStart (k.hash w)) = prb t (k.hash w) c → c ≤ K → K - c < f → Ahead w t L k K c → wpAny (model P w) A (setSearchFrom a (.ref x) (k.hash w) true f st) Q E s := by
  obtain ⟨o, ho, hex, hd⟩ := R.ob
  intro f
  induction f with
  | zero => intro c st _ _ hf _; omega
  | succ f ih =>
    intro c st hst hc hf hA
    rw [setSearchFrom_succ]
    refine wpAny_bind (wpAny_setState_of ho hd R.fits ?_)
    dsimp only
    refine wp_if_neg R.sound ?_
    try refine wpAny_bind (wpAny_pure ?_)
    have pj : ∀ q, (nth t.mask (prb t (k.hash w) c) q).j = way t.mask (k.hash w) (c + q) := fun q => congrArg SetTable.Probe.j (prb_add t _ c q)
    have hash : ∀ (i : Nat) p, L[i]? = some p → (es[i]?.map fun r : Int × Value => r.1).getD 0 = p.2.hash w := fun i p h => by rw [R.at i, h]; rfl
    have far : ∀ n : Nat, (∀ (k' i' : Nat), k' < n → t.place.toList[i']? = some (nth t.mask (prb t (k.hash w) c) k').j → (es[i']?.map fun r : Int × Value => r.1).getD 0 ≠ k.hash w) → ∀ (i : Nat) p (c' : Nat), L[i]? = some p → p.2 = k → c ≤ c' → t.place.toList[i]? = some (way t.mask (k.hash w) c') → c + n ≤ c' := by
      intro n h i p c' hp hk h1 h2
      rcases Nat.lt_or_ge c' (c + n) with z | z
      · refine absurd ((hash i p hp).trans (congrArg _ hk)) (h (c' - c) i (by omega) ?_)
        rw [pj, show c + (c' - c) = c' by omega]
        exact h2
      · exact z
    rcases go_spec t R.tab.ris R.tab.dm (fun i => ((es[i]?.map fun r : Int × Value => r.1)).getD 0) (k.hash w) (10 * SetTable.turns t.mask) (K - c) (prb t (k.hash w) c) (nth_dummy _ c _ rfl) (by omega)
      (fun q hq => by rw [pj]; exact hb (c + q) (by omega)) (by rw [pj, show c + (K - c) = K by omega]; exact hK) with ⟨q, i, hq, hi, hh, no, e⟩ | ⟨no, e⟩
    · have e' : t.probe (fun i => (es[i]?.map fun r : Int × Value => r.1).getD 0) (k.hash w) (st.getD (t.probeStart (k.hash w))) = some (.candidate (way t.mask (k.hash w) (c + q)) i (prb t (k.hash w) (c + (q + 1)))) := by
        rw [hst, ← pj, ← prb_add]; exact e
      rw [e']
      dsimp only
      rw [pj] at hi
      have hil : i < L.length := by rw [← R.place]; exact (List.getElem?_eq_some_iff.mp hi).1
      obtain ⟨p, hp⟩ : ∃ p, L[i]? = some p := ⟨L[i], List.getElem?_eq_getElem hil⟩
      have pm := List.mem_of_getElem? hp
      have ei : es[i]? = some (p.2.hash w, .ref p.1) := by rw [R.at i, hp]; rfl
      have next : wpAny (model P w) A (searchRest a (.ref x) (k.hash w) true f es t (way t.mask (k.hash w) (c + q)) i (prb t (k.hash w) (c + (q + 1)))) Q E s := by
        unfold searchRest
        rw [ei]
        dsimp only
        refine wpAny_bind (wpAny_holding ((nestedKind P w).eqBool (show A.units + 8 < cLine from hu) (R.key p pm) hx ?_))
        refine wpAny_bind (wpAny_setState_of ho hd R.fits ?_)
        dsimp only
        by_cases hk : p.2 = k
        · exact wp_if_pos (by simp [hk]) (wpAny_pure (hin (List.mem_map.mpr ⟨p, pm, hk⟩)))
        · refine wp_if_neg (by simp [hk]) ?_
          try refine wpAny_bind (wpAny_pure ?_)
          have live : t.slot (way t.mask (k.hash w) (c + q)) = .live i := slot_live R.tab.ris hi
          rw [sameMem]
          dsimp only
          simp only [if_true, live, ei]
          refine wpAny_bind (wpAny_isSame_ref_self (wpAny_bind (wpAny_pure ?_)))
          simp only [if_true]
          refine wp_if_neg (by simp [hk]) (ih (c + (q + 1)) _ rfl (by omega) (by omega) fun i0 p0 h0 hk0 => ?_)
          obtain ⟨c', a1, a2, a3⟩ := hA i0 p0 h0 hk0
          refine ⟨c', ?_, a2, a3⟩
          have b1 := far q no i0 p0 c' h0 hk0 a1 a3
          rcases Nat.lt_or_ge (c + q) c' with z | z
          · omega
          · exfalso
            have ec : c' = c + q := Nat.le_antisymm z b1
            subst ec
            have := slot_live R.tab.ris a3
            rw [live] at this
            injection this with this
            subst this
            rw [hp] at h0
            exact hk ((congrArg Prod.snd (Option.some.inj h0)).trans hk0)
      by_cases hl : t.led = true
      · refine wp_if_neg (by simp [hl]) ?_
        try refine wpAny_bind (wpAny_pure ?_)
        exact next
      · refine wp_if_pos (by simp [hl]) (wpAny_bind (seen_no hx (fun y hy => ?_) ?_))
        · obtain ⟨r, hr, rfl⟩ := List.mem_map.mp hy
          have hr : r ∈ es.toList := by
            have z : r ∈ es ∧ r.1 = k.hash w := by simpa using hr
            simpa using z.1
          rw [R.rows] at hr
          obtain ⟨p2, h2, rfl⟩ := List.mem_map.mp hr
          exact ⟨p2.2, p2.1, rfl, R.key p2 h2⟩
        · refine wp_if_neg (by decide) ?_
          try refine wpAny_bind (wpAny_pure ?_)
          exact next
    · have e' : t.probe (fun i => (es[i]?.map fun r : Int × Value => r.1).getD 0) (k.hash w) (st.getD (t.probeStart (k.hash w))) = some (.empty (way t.mask (k.hash w) K) none) := by
        rw [hst]
        have := pj (K - c)
        rw [show c + (K - c) = K by omega] at this
        rw [← this]
        exact e
      rw [e']
      dsimp only
      refine wpAny_pure (hout fun hm => ?_)
      obtain ⟨p0, h0, hk0⟩ := List.mem_map.mp hm
      obtain ⟨i0, hi0, e0⟩ := List.getElem_of_mem h0
      have h1 : L[i0]? = some p0 := by rw [List.getElem?_eq_getElem hi0, e0]
      obtain ⟨c', a1, a2, a3⟩ := hA i0 p0 h1 hk0
      have := far (K - c) no i0 p0 c' h1 hk0 a1 a3
      omega
theorem search_n (R : NSet P w s.heap a L es ep t) (hx : NIs P w s.heap k x) (hu : A.units + 8 < cLine) {Q : SetFound → Shared → Prop} (hin : k ∈ L.map (·.2) → Q (.there none) s)
    (hout : ∀ K, k ∉ L.map (·.2) → way t.mask (k.hash w) K ∉ t.place.toList → (∀ c, c < K → way t.mask (k.hash w) c ∈ t.place.toList) → Q (.free (way t.mask (k.hash w) K) false) s) :
    wpAny (model P w) A (setSearch a (.ref x) (k.hash w) true) Q E s := by
  have hr := R.room
  obtain ⟨K, h1, h2, h3⟩ := R.tab.first (by rw [List.length_map]; omega) (k.hash w)
  have few : 10 * SetTable.turns t.mask ≤ 1420 := by
    unfold SetTable.turns
    rcases R.tab.mok with e | e | e <;> omega
  unfold setSearch
  refine search_go R hx hu h1 h2 h3 hin (fun n => hout K n h2 h3) 100000 0 none rfl (Nat.zero_le _) (by omega) fun i p hp hk => ?_
  have hil : i < t.place.toList.length := by rw [R.place]; exact (List.getElem?_eq_some_iff.mp hp).1
  obtain ⟨c, hc, e⟩ := R.tab.before h2 (i := i) (by rw [List.getElem?_map, hp, ← hk]; rfl) (List.getElem?_eq_getElem hil)
  exact ⟨c, Nat.zero_le _, hc, by rw [List.getElem?_eq_getElem hil, e]⟩
end
end Fz
set_option Elab.async false
set_option linter.all false
set_option maxRecDepth 100000
set_option maxHeartbeats 4000000
namespace Fz
open PySem PySem.Spec PyProof.Rows L2
theorem range_pick {α : Type} : ∀ (L : List α), (List.range L.length).filterMap (fun i => L[i]?) = L
  | [] => rfl
  | x :: L => by
    rw [List.length_cons, List.range_succ_eq_map, List.filterMap_cons_some (by rfl), List.filterMap_map]
    exact congrArg (x :: ·) (range_pick L)
theorem pick_rows {w : World} {L : List (Addr × NestedKey)} {es : Array (Int × Value)} (hr : es.toList = L.map (rowN w)) {order : Array Nat} (hp : order.toList.Perm (List.range L.length)) :
    ∃ M : List (Addr × NestedKey), (order.filterMap (es[·]?)).toList = M.map (rowN w) ∧ M.Perm L ∧ (M.map fun p => p.2.hash w) = order.toList.map fun i => (es.map (·.1)).getD i 0 := by
  have at_ : ∀ i, es[i]? = (L[i]?).map (rowN w) := fun i => by rw [← Array.getElem?_toList, hr, List.getElem?_map]
  refine ⟨order.toList.filterMap fun i => L[i]?, ?_, ?_, ?_⟩
  · rw [Array.toList_filterMap, List.map_filterMap]
    exact congrArg (fun f => List.filterMap f order.toList) (funext at_)
  · have := hp.filterMap fun i => L[i]?
    rwa [range_pick] at this
  · have go : ∀ l : List Nat, (∀ i ∈ l, i < L.length) → ((l.filterMap fun i => L[i]?).map fun p => p.2.hash w) = l.map fun i => (es.map (·.1)).getD i 0 := by
      intro l
      induction l with
      | nil => intro _; rfl
      | cons i l ih =>
        intro h
        have hi := h i List.mem_cons_self
        rw [List.filterMap_cons_some (List.getElem?_eq_getElem hi), List.map_cons, List.map_cons, ih fun j hj => h j (List.mem_cons_of_mem _ hj)]
        refine congrArg (· :: _) ?_
        rw [Array.getD_eq_getD_getElem?, Array.getElem?_map, at_ i, List.getElem?_eq_getElem hi]
        rfl
    exact go _ fun i hi => List.mem_range.mp (hp.mem_iff.mp hi)
section
variable {P : Program} {w : World} {A : Around} {E : Value → Shared → Prop} {s : Shared} {a x : Addr} {L : List (Addr × NestedKey)} {es : Array (Int × Value)} {ep : Nat} {t : SetTable} {k : NestedKey}
structure NPre (P : Program) (w : World) (h : Heap) (a : Addr) (L : List (Addr × NestedKey)) (es : Array (Int × Value)) (ep : Nat) (t : SetTable) : Prop where
  ob : ∃ o, h.get? a = some o ∧ o.ExactSet ∧ o.data = .set es ep t
  rows : es.toList = L.map (rowN w)
  tab : TabOk t (L.map fun p => p.2.hash w)
  nd : (L.map (·.2)).Nodup
  key : ∀ p ∈ L, NIs P w h p.2 p.1
  led : w.params.followText "set-order" = true ∨ t.led = true
  fit : L.length ≤ t.mask
  few : L.length < 64
theorem relay_n (R : NPre P w s.heap a L es ep t) {wanted M : Nat} (hw : SetTable.sizeAbove wanted - 1 = M) (hM : MaskOk M) (hl : SetTable.sizeAbove wanted ≤ 128) (hn : L.length * 5 < M * 3) {Q : Unit → Shared → Prop}
    (hQ : ∀ h' L' es' ep' t', Heap.SameBut a s.heap h' → NSet P w h' a L' es' ep' t' → L'.Perm L → Q () { s with heap := h' }) : wpAny (model P w) A (setRelay a wanted) Q E s := by
  obtain ⟨o, ho, hex, hd⟩ := R.ob
  have hsz : es.size = L.length := by
    have h := congrArg List.length R.rows
    rwa [Array.length_toList, List.length_map] at h
  have hfew := R.few
  have hpl : t.place.size = L.length := by have := R.tab.sz; rwa [List.length_map] at this
  have hfit : t.fits es.size = true := by
    have := R.fit
    unfold SetTable.fits SetTable.fill
    rw [R.tab.dm, Bool.and_eq_true, beq_iff_eq, decide_eq_true_eq]
    refine ⟨by omega, ?_⟩
    show t.place.size + 0 ≤ t.mask
    omega
  obtain ⟨t', order, e, hp, T, e1, e2, _, _⟩ := relaid_ok t (hs := es.map (·.1)) (wanted := wanted) hw hM (by rw [Array.size_map, hsz]; omega)
  rw [Array.size_map, hsz] at hp
  obtain ⟨N, n1, n2, n3⟩ := pick_rows R.rows hp
  rw [← n3] at T
  have hsz2 : (order.filterMap (es[·]?)).size = L.length := by
    have h := congrArg List.length n1
    rw [Array.length_toList, List.length_map, n2.length_eq] at h
    exact h
  rw [setRelay_eq]
  refine wpAny_bind (wpAny_setState_of ho hd hfit ?_)
  dsimp only
  refine wp_if_neg (by rw [sizeLine_eq]; omega) ?_
  try refine wpAny_bind (wpAny_pure ?_)
  rw [e]
  dsimp only
  refine wpAny_bind (wp_if_neg (by rw [hsz2, hsz]; simp) ?_)
  try refine wpAny_bind (wpAny_pure ?_)
  refine wpAny_pure ?_
  dsimp only
  have sb := Heap.SameBut.update s.heap a (Obj.putSet (order.filterMap (es[·]?)) t')
  refine wpAny_storeSet_of ho hd (hQ _ N _ (ep + 1) t' sb ⟨⟨_, store_at ho hd, ⟨hex.1, hex.2.1, hex.2.2⟩, rfl⟩, n1, T, (n2.map (·.2)).nodup_iff.mpr R.nd, fun p hp => (R.key p (n2.mem_iff.mp hp)).set ho hd sb, by rw [e2]; exact R.led, ?_, by rw [n2.length_eq]; exact hfew⟩ n2) (by rw [hsz2, sizeLine_eq]; omega)
  rw [n2.length_eq, e1]
  exact hn
theorem tab_unplain {t : SetTable} {hs : List Int} (T : TabOk t hs) (b : Bool) : TabOk (if b = true then t else { t with plain := false }) hs := by
  cases b with
  | true => exact T
  | false => exact ⟨T.ris, T.dm, T.sz, T.mok, T.bd, T.reach⟩
theorem add_n (R : NSet P w s.heap a L es ep t) (hx : NIs P w s.heap k x) (hu : A.units + 8 < cLine) (few : L.length + 1 < 64) {Q : Bool → Shared → Prop}
    (hQ : ∀ b h' L' es' ep' t', Heap.SameBut a s.heap h' → NSet P w h' a L' es' ep' t' → (k ∈ L.map (·.2) → L' = L) → (k ∉ L.map (·.2) → L'.Perm ((x, k) :: L)) → Q b { s with heap := h' }) :
    wpAny (model P w) A (setAddHashed a (.ref x) (k.hash w)) Q E s := by
  obtain ⟨o, ho, hex, hd⟩ := R.ob
  have hsz := R.len
  have hroom := R.room
  unfold setAddHashed
  refine wpAny_holding ?_
  rw [show (100000 : Nat) = 99999 + 1 from rfl, setAddHashedIn_succ]
  refine wpAny_bind (wpAny_setState_of ho hd R.fits ?_)
  dsimp only
  refine wp_if_neg (by simp [byScan, Value.scannable]) ?_
  try refine wpAny_bind (wpAny_pure ?_)
  refine wpAny_bind (search_n R hx hu (fun hm => ?_) fun K hm hK hb => ?_)
  · exact wpAny_pure (hQ false s.heap L es ep t (Heap.SameBut.refl a s.heap) R (fun _ => rfl) fun z => absurd hm z)
  dsimp only
  refine wpAny_bind (wpAny_setState_of ho hd R.fits ?_)
  dsimp only
  obtain ⟨q1, q2, q3, q4, q5, _, _, _, q9⟩ := R.tab.put hK hb
  generalize hpt : t.put (way t.mask (k.hash w) K) = pt at q1 q3 q4 q5 q9 ⊢
  obtain ⟨t1, p⟩ := pt
  dsimp only at q1 q3 q4 q5 q9 ⊢
  subst q1
  generalize hp0 : SetTable.below t.place (way t.mask (k.hash w) K) = p at q2 q3 ⊢
  obtain ⟨N, hN⟩ : ∃ N, N = L.take p ++ (x, k) :: L.drop p := ⟨_, rfl⟩
  have pm : N.Perm ((x, k) :: L) := by
    rw [hN]
    have h : (L.take p ++ (x, k) :: L.drop p).Perm ((x, k) :: (L.take p ++ L.drop p)) := List.perm_middle
    rwa [List.take_append_drop] at h
  have nl : N.length = L.length + 1 := pm.length_eq
  have hes : (SetTable.insertAt es p (k.hash w, Value.ref x)).toList = N.map (rowN w) := by
    rw [SetTable.toList_insertAt, R.rows, hN, List.map_append, List.map_cons, List.map_take, List.map_drop]
    rfl
  rw [show (L.map fun p => p.2.hash w).take p ++ k.hash w :: (L.map fun p => p.2.hash w).drop p = N.map fun p => p.2.hash w by rw [hN, List.map_append, List.map_cons, List.map_take, List.map_drop]] at q3
  generalize SetTable.insertAt es p (k.hash w, Value.ref x) = es1 at hes ⊢
  have hes1 : es1.size = L.length + 1 := by
    have h := congrArg List.length hes
    rwa [Array.length_toList, List.length_map, nl] at h
  have rest : ∀ t2 : SetTable, TabOk t2 (N.map fun p => p.2.hash w) → t2.mask = t.mask → t2.led = t.led → t2.fill = (L.map fun p => p.2.hash w).length + 1 →
      wpAny (model P w) A (do
        storeSet a es1 t2
        if (!false && t2.tooFull) = true then do
          setRelay a (SetTable.grown (es.size + 1))
          pure true
        else pure true) Q E s := fun t2 T m2 l2 f2 => by
    have sb := Heap.SameBut.update s.heap a (Obj.putSet es1 t2)
    have ho1 := store_at (es' := es1) (t' := t2) ho hd
    refine wpAny_bind (wpAny_storeSet_of ho hd ?_ (by rw [hes1, sizeLine_eq]; omega))
    generalize s.heap.update a (Obj.putSet es1 t2) = h1 at sb ho1 ⊢
    have pre : NPre P w h1 a N es1 (ep + 1) t2 := ⟨⟨_, ho1, ⟨hex.1, hex.2.1, hex.2.2⟩, rfl⟩, hes, T, (pm.map (·.2)).nodup_iff.mpr (List.nodup_cons.mpr ⟨hm, R.nd⟩), fun p hp => by
      rcases List.mem_cons.mp (pm.mem_iff.mp hp) with e | hp
      · rw [e]; exact hx.set ho hd sb
      · exact (R.key p hp).set ho hd sb, by rw [l2]; exact R.led, by rw [nl, m2]; omega, by rw [nl]; exact few⟩
    have full : t2.tooFull = decide ((L.length + 1) * 5 ≥ t.mask * 3) := by
      unfold SetTable.tooFull
      rw [f2, m2, List.length_map]
    by_cases hf : (L.length + 1) * 5 ≥ t.mask * 3
    · have hc : (!false && t2.tooFull) = true := by rw [full]; simp [hf]
      first
        | refine wpAny_bind (wp_if_pos hc ?_)
        | (refine wp_if_pos hc ?_; refine wpAny_bind ?_)
      have big : (t.mask = 7 ∧ L.length = 4) ∨ (t.mask = 31 ∧ L.length = 18) := by
        rcases R.tab.mok with e | e | e
        · left; rw [e] at hf hroom; exact ⟨e, by omega⟩
        · right; rw [e] at hf hroom; exact ⟨e, by omega⟩
        · exfalso; rw [e] at hf; omega
      have done : ∀ h' L' es' ep' t', Heap.SameBut a h1 h' → NSet P w h' a L' es' ep' t' → L'.Perm N → wpAny (model P w) A (pure true) Q E { s with heap := h' } := fun h' L' es' ep' t' g1 g2 g3 =>
        wpAny_pure (hQ true h' L' es' ep' t' (sb.trans g1) g2 (fun z => absurd z hm) fun _ => g3.trans pm)
      rw [hsz]
      rcases big with ⟨_, e⟩ | ⟨_, e⟩
      · rw [e]
        exact relay_n (s := { s with heap := h1 }) pre (M := 31) (by rw [size_20]) (.inr (.inl rfl)) (by rw [size_20]; decide) (by omega) done
      · rw [e]
        exact relay_n (s := { s with heap := h1 }) pre (M := 127) (by rw [size_76]) (.inr (.inr rfl)) (by rw [size_76]; decide) (by omega) done
    · have hc : ¬ (!false && t2.tooFull) = true := by rw [full]; simp [hf]
      first
        | refine wp_if_neg hc ?_
        | (refine wpAny_bind (wp_if_neg hc ?_); refine wpAny_pure ?_)
      exact wpAny_pure (hQ true h1 N es1 (ep + 1) t2 sb ⟨pre.ob, pre.rows, pre.tab, pre.nd, pre.key, pre.led, by rw [nl, m2]; omega, pre.few⟩ (fun z => absurd z hm) fun _ => pm)
  by_cases z : t1.plain = true
  · refine wp_if_pos z (wpAny_bind (hashBy_any 8 hx.1 fun byv => ?_))
    exact rest _ (tab_unplain q3 byv) (by cases byv <;> exact q4) (by cases byv <;> exact q5) (by cases byv <;> exact q9)
  · refine wp_if_neg z (wpAny_bind (wpAny_pure ?_))
    exact rest t1 q3 q4 q5 q9
end
end Fz
set_option Elab.async false
set_option linter.all false
set_option maxRecDepth 100000
set_option maxHeartbeats 3200000
namespace Fz
open PySem PySem.Spec PyProof.Rows L2
section
variable {P : Program} {w : World} {A : Around} {E : Value → Shared → Prop} {s : Shared}
def AddStep (P : Program) (w : World) (A : Around) (S : Addr) (h0 : Heap) (items : Array Value) (Inv : Nat → Heap → Prop) : Prop :=
  ∀ (i : Nat) (v : Value) (s1 : Shared) (E : Value → Shared → Prop) (Q : Bool → Shared → Prop), items[i]? = some v → Inv i s1.heap → (∀ b o, h0.get? b = some o → s1.heap.get? b = some o) →
    (∀ b h' tk, s1.toks ≤ tk → Heap.SameBut S s1.heap h' → Inv (i + 1) h' → Q b { s1 with heap := h', toks := tk }) → wpAny (model P w) A (setAdd S v) Q E s1
def StaysAt (S : Addr) (h0 : Heap) (Inv : Nat → Heap → Prop) : Prop := ∀ i h h', Inv i h → (∀ o, h.get? S = some o → h'.get? S = some o) → (∀ b o, h0.get? b = some o → h'.get? b = some o) → Inv i h'
theorem add_loop {R : Result → Shared → Prop} {I : Addr} {fp wr : List Addr} {G : Array GenState → Array GenState → Prop} {St : Nat → Shared → Prop} {items : Array Value} {Inv : Nat → Heap → Prop} {h0 : Heap} {S : Addr}
    (W : WalksS P w A.in1 I fp wr G items.size (fun i v => items[i]? = some v) St) (hSf : S ∉ fp) (hS0 : h0.get? S = none) (hw0 : ∀ b ∈ wr, h0.get? b = none) (step : AddStep P w A.in1 S h0 items Inv) (stay : StaysAt S h0 Inv) :
    ∀ (m i : Nat) (s : Shared), items.size - i = m → i ≤ items.size → St i s → Inv i s.heap → (∀ b o, h0.get? b = some o → s.heap.get? b = some o) →
      (∀ s', Moved (S :: wr) G s s' → Inv items.size s'.heap → (∀ b o, h0.get? b = some o → s'.heap.get? b = some o) → R (.ok (.ret .none)) s') →
      codeAny (model P w) A (.builtin "set.update.loop" ⟨[.ref S, .ref I], []⟩) R s := by
  have hSw : S ∉ wr := fun h => hSf (W.sub _ h)
  have hsub : ∀ b ∈ wr, b ∈ S :: wr := fun b hb => List.mem_cons_of_mem _ hb
  have kept : ∀ {s s' : Shared}, Moved wr G s s' → (∀ b o, h0.get? b = some o → s.heap.get? b = some o) → ∀ b o, h0.get? b = some o → s'.heap.get? b = some o := fun hm k b o e =>
    hm.heap b o (fun z => by rw [hw0 b z] at e; cases e) (k b o e)
  intro m
  induction m with
  | zero =>
    intro i s hk hi hst hI k hR
    obtain rfl : i = items.size := by omega
    refine codeAny_builtin PyProof.Rows.F.entry_set_update_loop ?_
    rw [Around.under_plainId PyProof.Rows.F.plain_set_update_loop _]
    show wpAny _ A.in1 (pyNext (.ref I) >>= _) _ _ s
    refine wpAny_bind (W.done s _ _ hst fun s' hm => ?_)
    have k' := kept hm k
    exact wpAny_pure (hR s' (hm.mono hsub) (stay _ _ _ hI (fun o ho => hm.heap S _ hSw ho) k') k')
  | succ m ih =>
    intro i s hk hi hst hI k hR
    have hlt : i < items.size := by omega
    refine codeAny_builtin PyProof.Rows.F.entry_set_update_loop ?_
    rw [Around.under_plainId PyProof.Rows.F.plain_set_update_loop _]
    show wpAny _ A.in1 (pyNext (.ref I) >>= _) _ _ s
    refine wpAny_bind (W.item i s _ _ hlt hst fun v s' hv hst' hm => ?_)
    have k' := kept hm k
    show wpAny _ A.in1 (holding [v] (setAdd S v) >>= _) _ _ s'
    refine wpAny_bind (wpAny_holding (step i v s' _ _ hv (stay _ _ _ hI (fun o ho => hm.heap S _ hSw ho) k') k' fun b h' tk htk hsb hI' => ?_))
    have k2 : ∀ b o, h0.get? b = some o → h'.get? b = some o := fun b o e => (hsb.2 b (fun z => by rw [z, hS0] at e; cases e)).trans (k' b o e)
    refine wpAny_pure ⟨plainId_quiet PyProof.Rows.F.plain_set_update_loop _, ih (i + 1) _ (by omega) hlt (W.frame _ s' _ _ hst' htk fun b hb o e => ?_) hI' k2 fun s'' hm'' hI'' k3 => ?_⟩
    · rw [hsb.2 b (fun z : b = S => hSf (by rw [← z]; exact hb))]; exact e
    · refine hR s'' (Moved.trans W.gtrans ((hm.mono hsub).then_heap htk fun b o hb e => ?_) hm'') hI'' k3
      rw [hsb.2 b (fun z : b = S => hb (by rw [z]; exact List.mem_cons_self))]; exact e
theorem call_set_inv {l : Addr} {items : Array Value} {Inv : Nat → Heap → Prop} {Q : Value → Shared → Prop} (hh : A.handled = none) (hl : s.heap.IsList l items)
    (start : ∀ h' : Heap, (∀ b o, s.heap.get? b = some o → h'.get? b = some o) → h'.get? s.heap.objs.size = some (newSetO w) → Inv 0 h')
    (step : AddStep P w A.in1.in1.in1 s.heap.objs.size s.heap items Inv) (stay : StaysAt s.heap.objs.size s.heap Inv)
    (h : ∀ (h' : Heap) (tk : Nat), Inv items.size h' → (∀ b o, s.heap.get? b = some o → h'.get? b = some o) → Q (.ref s.heap.objs.size) { s with heap := h', toks := tk }) :
    wpAny (model P w) A (call (.type "set") [.ref l]) Q E s := by
  obtain ⟨c, tl, hmro⟩ := PySem.F.called_set.mro
  have hmade := PySem.F.called_set.made
  have hsub := PySem.F.called_set.sub
  have gone : ∀ b, s.heap.objs.size ≤ b → s.heap.get? b = none := fun b hb => by
    cases q : s.heap.get? b with
    | none => rfl
    | some o => exact absurd (Heap.lt_size q) (Nat.not_lt.mpr hb)
  refine wpAny_call (codeAny_of_tree ?_)
  show wpAny _ _ (callAny (.type "set") _) _ _ _
  refine wpAny_pure ⟨Code.quiet_builtin _ (by decide +kernel), codeAny_builtin PySem.F.entry_type_call ?_⟩
  rw [Around.under_plain (weight_type_call_type "set" [.ref l] []) rfl]
  have h1 := PySem.F.called_set.notType
  have h2 := PySem.F.called_set.canCreate
  have hct := PySem.F.typeCall_set_1 (.ref l)
  repeat (any_goals (first | assumption | wp_step))
  refine codeAny_mono (code_set_led1 (.ref l) (E := E) (Q₁ := fun obj s₁ => obj = .ref s.heap.objs.size ∧ s₁ = { s with heap := s.heap.push (newSetO w) }) ⟨rfl, rfl⟩) fun r s₁ hr => ?_
  cases r with
  | error e => exact hr
  | ok fl =>
    cases fl with
    | ret obj =>
      obtain ⟨rfl, rfl⟩ := hr
      have hS : (s.heap.push (newSetO w)).get? s.heap.objs.size = some (newSetO w) := Heap.get?_push_size _ rfl
      have hT : Shared.TypeIs { s with heap := s.heap.push (newSetO w) } (.ref s.heap.objs.size) "set" := ⟨_, hS, rfl⟩
      have hli := PySem.F.called_set.init.lookup
      have hbi := PySem.F.called_set.init.bind (.ref s.heap.objs.size)
      repeat (any_goals (first | assumption | wp_step))
      refine codeAny_mono (codeAny_call_builtin (R := wants (fun r s₂ => r = .none ∧ ∃ h' tk, s₂ = { s with heap := h', toks := tk } ∧ Inv items.size h' ∧ (∀ b o, s.heap.get? b = some o → h'.get? b = some o)) E)
        PySem.F.called_set.init.plain PySem.F.entry_set_init (check_set_init_1 hT ?_)) fun r₂ s₂ hr₂ => ?_
      · obtain ⟨ol, hol, hcl, nl, hdl⟩ := hl
        obtain ⟨ocls, odict, odata, oslots⟩ := ol
        simp only at hcl hdl
        subst hcl; subst hdl
        have hol' : (s.heap.push (newSetO w)).get? l = some { cls := .type "list", dict := odict, data := .seq items nl, slots := oslots } := Heap.get?_push_of_some _ hol
        have hsls := PySem.F.sub_list_set
        have hslf := PySem.F.sub_list_frozenset
        have hne : (Value.type "list" == Value.type "dict") = false := by decide
        have hl1 : (s.heap.push (newSetO w)).IsList l items := ⟨_, hol', rfl, nl, rfl⟩
        unfold Builtin.«set.__init__» noKeywords Builtin.Frozenset.updateFrom
        generalize hPI : pyIter = PI
        wp_walk
        subst hPI
        refine wpAny_pyIter_list hl1 ?_
        refine wpAny_bind (wpAny_runValue ?_)
        have hlS : l < s.heap.objs.size := Heap.lt_size hol
        have hh3 : A.in1.in1.in1.handled = none := by simp [hh]
        have hz : (s.heap.push (newSetO w)).objs.size = s.heap.objs.size + 1 := Heap.size_push ..
        have hneI : l ≠ (s.heap.push (newSetO w)).objs.size := by rw [hz]; exact Nat.ne_of_lt (Nat.lt_succ_of_lt hlS)
        have hSf : s.heap.objs.size ∉ [(s.heap.push (newSetO w)).objs.size, l] := by
          rw [hz]; simp only [List.mem_cons, List.mem_singleton, List.not_mem_nil, or_false, not_or]
          exact ⟨Nat.ne_of_lt (Nat.lt_succ_self _), Nat.ne_of_gt hlS⟩
        refine add_loop ((Walks.list hh3 _ l hneI items).toS) hSf (gone _ (Nat.le_refl _))
          (fun b hb => gone b (by rw [List.mem_singleton.mp hb, hz]; exact Nat.le_succ _)) step stay (items.size - 0) 0 _ (by omega) (Nat.zero_le _) ⟨⟨_, Heap.get?_push_size _ rfl, rfl, rfl⟩, (hl1.push _)⟩
          (start _ (fun b o e => Heap.get?_push_of_some _ (Heap.get?_push_of_some _ e)) (Heap.get?_push_of_some _ hS)) (fun b o e => Heap.get?_push_of_some _ (Heap.get?_push_of_some _ e)) ?_
        intro s' hm hI k
        obtain ⟨h', g', d', tk', os'⟩ := s'
        have eg : g' = s.gens := hm.gens
        have ed : d' = s.drawn := hm.drawn
        have eo : os' = s.os := hm.os
        subst eg; subst ed; subst eo
        show wpAny _ _ _ _ _ _
        refine wpAny_pure ?_
        show wpAny _ _ (PySem.ret Value.none) _ _ _
        exact wpAny_pure ⟨rfl, h', tk', rfl, hI, k⟩
      · cases r₂ with
        | error e => exact hr₂
        | ok fl₂ =>
          cases fl₂ with
          | ret r =>
            obtain ⟨rfl, h', tk, rfl, hI, k⟩ := hr₂
            repeat (any_goals (first | assumption | wp_step))
            exact h _ _ hI k
          | _ => exact hr₂.elim
    | _ => exact hr.elim
structure Gath (ks : List (Addr × NestedKey)) (i : Nat) (L : List (Addr × NestedKey)) : Prop where
  sub : ∀ p ∈ L, p ∈ ks.take i
  all : ∀ p ∈ ks.take i, p.2 ∈ L.map (·.2)
  len : L.length ≤ i
theorem Gath.next {ks L L' : List (Addr × NestedKey)} {i : Nat} {p : Addr × NestedKey} (g : Gath ks i L) (h : ks[i]? = some p) (h1 : p.2 ∈ L.map (·.2) → L' = L) (h2 : p.2 ∉ L.map (·.2) → L'.Perm (p :: L)) : Gath ks (i + 1) L' := by
  have e : ks.take (i + 1) = ks.take i ++ [p] := by rw [List.take_add_one, h]; rfl
  by_cases c : p.2 ∈ L.map (·.2)
  · rw [h1 c]
    refine ⟨fun q hq => by rw [e]; exact List.mem_append_left _ (g.sub q hq), fun q hq => ?_, Nat.le_succ_of_le g.len⟩
    rw [e] at hq
    rcases List.mem_append.mp hq with z | z
    · exact g.all q z
    · rw [List.mem_singleton.mp z]; exact c
  · have pm := h2 c
    refine ⟨fun q hq => ?_, fun q hq => ?_, by rw [pm.length_eq]; exact Nat.succ_le_succ g.len⟩
    · rw [e]
      rcases List.mem_cons.mp (pm.mem_iff.mp hq) with z | z
      · rw [z]; exact List.mem_append_right _ (List.mem_singleton.mpr rfl)
      · exact List.mem_append_left _ (g.sub q z)
    · rw [(pm.map (·.2)).mem_iff]
      rw [e] at hq
      rcases List.mem_append.mp hq with z | z
      · exact List.mem_cons_of_mem _ (g.all q z)
      · rw [List.mem_singleton.mp z]; exact List.mem_cons_self
theorem call_set_n {l : Addr} {items : Array Value} (ks : List (Addr × NestedKey)) {Q : Value → Shared → Prop} (hh : A.handled = none) (hl : s.heap.IsList l items) (hit : items.toList = ks.map fun p => Value.ref p.1)
    (hk : ∀ p ∈ ks, NIs P w s.heap p.2 p.1) (few : ks.length < 64) (hu : A.units + 12 < cLine)
    (h : ∀ (h' : Heap) (tk : Nat) L es ep t, NSet P w h' s.heap.objs.size L es ep t → Gath ks ks.length L → (∀ b o, s.heap.get? b = some o → h'.get? b = some o) → Q (.ref s.heap.objs.size) { s with heap := h', toks := tk }) :
    wpAny (model P w) A (call (.type "set") [.ref l]) Q E s := by
  have hz : items.size = ks.length := by
    have q := congrArg List.length hit
    rwa [Array.length_toList, List.length_map] at q
  have at_ : ∀ i : Nat, items[i]? = (ks[i]?).map fun p : Addr × NestedKey => Value.ref p.1 := fun i => by rw [← Array.getElem?_toList, hit, List.getElem?_map]
  have hI : StaysAt s.heap.objs.size s.heap fun i h => ∃ L es ep t, NSet P w h s.heap.objs.size L es ep t ∧ Gath ks i L := fun i h h' ⟨L, es, ep, t, R, g⟩ k1 k2 => by
    obtain ⟨o, ho, r⟩ := R.ob
    exact ⟨L, es, ep, t, ⟨⟨o, k1 o ho, r⟩, R.rows, R.tab, R.nd, (fun p hp => (hk p (List.mem_of_mem_take (g.sub p hp))).keep k2), R.led, R.room, R.few⟩, g⟩
  refine call_set_inv (Inv := fun i h => ∃ L es ep t, NSet P w h s.heap.objs.size L es ep t ∧ Gath ks i L) hh hl (fun h' k e => ?_) (fun i v s1 E' Q' hv ⟨L, es, ep, t, R, g⟩ k q => ?_) hI fun h' tk ⟨L, es, ep, t, R, g⟩ k => ?_
  · refine ⟨[], #[], 0, _, ⟨⟨_, e, ⟨rfl, rfl, rfl⟩, rfl⟩, rfl, ⟨List.Pairwise.nil, rfl, rfl, .inl rfl, (fun x hx => nomatch hx), (fun i h j hi => by simp at hi)⟩, List.nodup_nil, (fun p hp => nomatch hp), ?_, (by show 0 * 5 < 7 * 3; decide), (by show 0 < 64; decide)⟩, ⟨(fun p hp => nomatch hp), (fun p hp => by simp at hp), Nat.le_refl _⟩⟩
    show _ ∨ (!w.params.followText "set-order") = true
    cases w.params.followText "set-order"
    · exact .inr rfl
    · exact .inl rfl
  · rw [at_ i] at hv
    obtain ⟨p, hp, rfl⟩ := Option.map_eq_some_iff.mp hv
    have hx : NIs P w s1.heap p.2 p.1 := (hk p (List.mem_of_getElem? hp)).keep k
    have hlt : i < ks.length := (List.getElem?_eq_some_iff.mp hp).1
    unfold setAdd
    refine wpAny_holding (wpAny_bind ((nestedKind P w).pyHash (show A.units + 1 + 1 + 1 + 8 < cLine by omega) hx ?_))
    refine add_n (s := { s1 with toks := s1.toks + (nestedKind P w).draws p.2 }) (es := es) (ep := ep) (t := t) R hx (show A.units + 1 + 1 + 1 + 8 < cLine by omega) (by have := g.len; omega) fun b h' L' es' ep' t' sb R' c1 c2 => q b h' _ (Nat.le_add_right _ _) sb ⟨L', es', ep', t', R', g.next hp c1 c2⟩
  · rw [hz] at g
    exact h h' tk L es ep t R g k
end
end Fz
set_option Elab.async false
set_option linter.all false
set_option maxRecDepth 100000
set_option maxHeartbeats 2000000
namespace Fz
open PySem PySem.Spec PyProof.Rows L2
def encT (x : Str) : List Int := (x.cps.toList.map fun c : Nat => (c : Int) + 1) ++ [0]
mutual
def encK : NestedKey → List Int
  | .none => [1]
  | .num i => [2, i]
  | .text x => 3 :: encT x
  | .tup ks => 4 :: encKs ks
def encKs : List NestedKey → List Int
  | [] => [0]
  | k :: ks => encK k ++ encKs ks
end
def Dif (l m : List Int) : Prop := ∃ p x y s t, l = p ++ x :: s ∧ m = p ++ y :: t ∧ x ≠ y
theorem Dif.app {l m : List Int} (h : Dif l m) (u v : List Int) : Dif (l ++ u) (m ++ v) := by
  obtain ⟨p, x, y, s, t, rfl, rfl, n⟩ := h
  exact ⟨p, x, y, s ++ u, t ++ v, by simp, by simp, n⟩
theorem Dif.pre {l m : List Int} (h : Dif l m) (q : List Int) : Dif (q ++ l) (q ++ m) := by
  obtain ⟨p, x, y, s, t, rfl, rfl, n⟩ := h
  exact ⟨q ++ p, x, y, s, t, by simp, by simp, n⟩
theorem Dif.cons {l m : List Int} (h : Dif l m) (x : Int) : Dif (x :: l) (x :: m) := h.pre [x]
theorem Dif.at {x y : Int} (h : x ≠ y) (s t : List Int) : Dif (x :: s) (y :: t) := ⟨[], x, y, s, t, rfl, rfl, h⟩
theorem Dif.ne {l m : List Int} (h : Dif l m) : l ≠ m := by
  obtain ⟨p, x, y, s, t, rfl, rfl, n⟩ := h
  intro e
  have := List.append_cancel_left e
  injection this with e1 _
  exact n e1
theorem lt_pre {q l m : List Int} : q ++ l < q ++ m ↔ l < m := by
  induction q with
  | nil => exact Iff.rfl
  | cons x q ih => rw [List.cons_append, List.cons_append, List.cons_lt_cons_iff]; simp [ih]
theorem lt_cons' {x y : Int} {s t : List Int} (n : x ≠ y) : x :: s < y :: t ↔ x < y := by
  rw [List.cons_lt_cons_iff]
  constructor
  · rintro (h | ⟨h, _⟩)
    · exact h
    · exact absurd h n
  · exact .inl
theorem Dif.lt {l m : List Int} (h : Dif l m) (u v : List Int) : l ++ u < m ++ v ↔ l < m := by
  obtain ⟨p, x, y, s, t, rfl, rfl, n⟩ := h
  rw [List.append_assoc, List.append_assoc, lt_pre, lt_pre, List.cons_append, List.cons_append, lt_cons' n, lt_cons' n]
theorem difT : ∀ (a b : List Nat), a ≠ b → Dif ((a.map fun c : Nat => (c : Int) + 1) ++ [0]) ((b.map fun c : Nat => (c : Int) + 1) ++ [0])
  | [], [], h => absurd rfl h
  | [], y :: b, _ => Dif.at (x := 0) (y := (y : Int) + 1) (by omega) _ _
  | x :: a, [], _ => Dif.at (x := (x : Int) + 1) (y := 0) (by omega) _ _
  | x :: a, y :: b, h => by
    by_cases e : x = y
    · subst e; exact (difT a b (fun z => h (by rw [z]))).cons _
    · exact Dif.at (x := (x : Int) + 1) (y := (y : Int) + 1) (by omega) _ _
theorem encK_pos : ∀ k : NestedKey, ∃ x r, encK k = x :: r ∧ 0 < x
  | .none => ⟨1, _, by simp [encK]; rfl, by omega⟩
  | .num i => ⟨2, _, by simp [encK]; rfl, by omega⟩
  | .text x => ⟨3, _, by simp [encK]; rfl, by omega⟩
  | .tup ks => ⟨4, _, by simp [encK]; rfl, by omega⟩
mutual
theorem difK : ∀ a b : NestedKey, a ≠ b → Dif (encK a) (encK b)
  | .none, .none, h => absurd rfl h
  | .none, .num _, _ => by simp only [encK]; exact .at (by omega) _ _
  | .none, .text _, _ => by simp only [encK]; exact .at (by omega) _ _
  | .none, .tup _, _ => by simp only [encK]; exact .at (by omega) _ _
  | .num _, .none, _ => by simp only [encK]; exact .at (by omega) _ _
  | .num i, .num j, h => by simp only [encK]; exact Dif.cons (.at (fun z => h (by rw [z])) _ _) _
  | .num _, .text _, _ => by simp only [encK]; exact .at (by omega) _ _
  | .num _, .tup _, _ => by simp only [encK]; exact .at (by omega) _ _
  | .text _, .none, _ => by simp only [encK]; exact .at (by omega) _ _
  | .text _, .num _, _ => by simp only [encK]; exact .at (by omega) _ _
  | .text a, .text b, h => by
    simp only [encK]
    exact Dif.cons (difT _ _ (fun z => h (by rw [str_ext z]))) _
  | .text _, .tup _, _ => by simp only [encK]; exact .at (by omega) _ _
  | .tup _, .none, _ => by simp only [encK]; exact .at (by omega) _ _
  | .tup _, .num _, _ => by simp only [encK]; exact .at (by omega) _ _
  | .tup _, .text _, _ => by simp only [encK]; exact .at (by omega) _ _
  | .tup as, .tup bs, h => by simp only [encK]; exact Dif.cons (difKs as bs (fun z => h (by rw [z]))) _
theorem difKs : ∀ as bs : List NestedKey, as ≠ bs → Dif (encKs as) (encKs bs)
  | [], [], h => absurd rfl h
  | [], b :: bs, _ => by
    obtain ⟨x, r, e, p⟩ := encK_pos b
    simp only [encKs, e, List.cons_append]
    exact .at (by omega) _ _
  | a :: as, [], _ => by
    obtain ⟨x, r, e, p⟩ := encK_pos a
    simp only [encKs, e, List.cons_append]
    exact .at (by omega) _ _
  | a :: as, b :: bs, h => by
    simp only [encKs]
    by_cases e : a = b
    · subst e; exact (difKs as bs (fun z => h (by rw [z]))).pre _
    · exact (difK a b e).app _ _
end
theorem encK_inj {a b : NestedKey} (h : encK a = encK b) : a = b := by
  by_cases e : a = b
  · exact e
  · exact absurd h (difK a b e).ne
def kLt (a b : NestedKey) : Bool := decide (encK a < encK b)
theorem kLt_swo {α : Type} (f : α → NestedKey) : SrtO.Swo fun x y => kLt (f x) (f y) := by
  refine ⟨fun x y h => ?_, fun x y z h1 h2 => ?_⟩
  · have h := of_decide_eq_true h
    exact decide_eq_false (List.lt_asymm h)
  · have h1 := of_decide_eq_false h1
    have h2 := of_decide_eq_false h2
    exact decide_eq_false (List.not_lt.mpr (Std.le_trans (List.not_lt.mp h1) (List.not_lt.mp h2)))
theorem kLt_eq {a b : NestedKey} (h : kLt a b = false) (g : kLt b a = false) : a = b :=
  encK_inj (Std.le_antisymm (List.not_lt.mp (of_decide_eq_false g)) (List.not_lt.mp (of_decide_eq_false h)))
theorem kLt_num {i j : Int} : kLt (.num i) (.num j) = decide (i < j) := by
  unfold kLt
  simp only [encK]
  refine decide_eq_decide.mpr ?_
  rw [List.cons_lt_cons_iff]
  by_cases e : i = j
  · subst e; simp
  · simp [lt_cons' e]
theorem encT_lt : ∀ a b : List Nat, (a.map fun c : Nat => (c : Int) + 1) ++ [0] < (b.map fun c : Nat => (c : Int) + 1) ++ [0] ↔ a < b
  | [], [] => by simp
  | [], y :: b => by
    rw [List.map_nil, List.nil_append, List.map_cons, List.cons_append, lt_cons' (by omega)]
    simp <;> omega
  | x :: a, [] => by
    rw [List.map_nil, List.nil_append, List.map_cons, List.cons_append, lt_cons' (by omega)]
    simp; omega
  | x :: a, y :: b => by
    rw [List.map_cons, List.map_cons, List.cons_append, List.cons_append, List.cons_lt_cons_iff, List.cons_lt_cons_iff, encT_lt a b]
    constructor
    · rintro (h | ⟨h, g⟩)
      · exact .inl (by omega)
      · exact .inr ⟨by omega, g⟩
    · rintro (h | ⟨h, g⟩)
      · exact .inl (by omega)
      · exact .inr ⟨by omega, g⟩
theorem kLt_text {a b : Str} : kLt (.text a) (.text b) = decide (a.cps.toList < b.cps.toList) := by
  unfold kLt
  simp only [encK, encT]
  refine decide_eq_decide.mpr ?_
  rw [List.cons_lt_cons_iff]
  simp only [Int.lt_irrefl, false_or, true_and]
  exact encT_lt _ _
theorem kLt_tup : ∀ (as bs : List NestedKey), decide (encKs as < encKs bs) = Ob.lexAt (fun j => decide (as[j]? = bs[j]?)) (fun j => kLt (as.getD j .none) (bs.getD j .none)) (decide (as.length < bs.length)) 0 (min as.length bs.length)
  | [], [] => by simp [encKs, Ob.lexAt]
  | [], b :: bs => by
    obtain ⟨x, r, e, p⟩ := encK_pos b
    simp only [encKs, e, List.cons_append]
    rw [show min ([] : List NestedKey).length (b :: bs).length = 0 by simp, Ob.lexAt_zero]
    refine decide_eq_decide.mpr ?_
    rw [lt_cons' (by omega)]
    simp [p]
  | a :: as, [] => by
    obtain ⟨x, r, e, p⟩ := encK_pos a
    simp only [encKs, e, List.cons_append]
    rw [show min (a :: as).length ([] : List NestedKey).length = 0 by simp, Ob.lexAt_zero]
    refine decide_eq_decide.mpr ?_
    rw [lt_cons' (by omega)]
    simp; omega
  | a :: as, b :: bs => by
    rw [show min (a :: as).length (b :: bs).length = min as.length bs.length + 1 by simp only [List.length_cons]; omega, Ob.lexAt_succ]
    simp only [encKs, List.getElem?_cons_zero, Option.some.injEq, List.getD_cons_zero]
    by_cases e : a = b
    · subst e
      rw [if_pos (by simp)]
      refine Eq.trans (decide_eq_decide.mpr (lt_pre (q := encK a))) ((kLt_tup as bs).trans ?_)
      have shift : ∀ (n i : Nat), Ob.lexAt (fun j => decide (as[j]? = bs[j]?)) (fun j => kLt (as.getD j .none) (bs.getD j .none)) (decide (as.length < bs.length)) i n =
          Ob.lexAt (fun j => decide ((a :: as)[j]? = (a :: bs)[j]?)) (fun j => kLt ((a :: as).getD j .none) ((a :: bs).getD j .none)) (decide ((a :: as).length < (a :: bs).length)) (i + 1) n := by
        intro n
        induction n with
        | zero => intro i; rw [Ob.lexAt_zero, Ob.lexAt_zero]; exact decide_eq_decide.mpr (by simp)
        | succ n ih => intro i; rw [Ob.lexAt_succ, Ob.lexAt_succ, ih (i + 1)]; simp
      exact shift _ 0
    · rw [if_neg (by simp [e])]
      exact decide_eq_decide.mpr ((difK a b e).lt _ _)
end Fz
set_option Elab.async false
set_option linter.all false
set_option maxRecDepth 100000
set_option maxHeartbeats 4000000
namespace Fz
open PySem PySem.Spec PyProof.Rows L2 PySem.SeqAt
mutual
inductive NO (h : Heap) : NestedKey → Value → Prop
  | int (i t) : NO h (.num i) (.int i t)
  | text (x t) : NO h (.text x) (.str x t)
  | tup {a o vs n ks} : h.get? a = some o → o.cls = .type "tuple" → o.data = .seq vs n → NOs h ks vs.toList → NO h (.tup ks) (.ref a)
inductive NOs (h : Heap) : List NestedKey → List Value → Prop
  | nil : NOs h [] []
  | cons {k v ks vs} : NO h k v → NOs h ks vs → NOs h (k :: ks) (v :: vs)
end
mutual
theorem NO.is {h : Heap} : ∀ {k : NestedKey} {v : Value}, NO h k v → NestedIs h k v
  | _, _, .int i t => .int i t
  | _, _, .text x t => .text x t
  | _, _, .tup h1 h2 h3 h4 => .tup h1 h2 h3 h4.all
theorem NOs.all {h : Heap} : ∀ {ks : List NestedKey} {vs : List Value}, NOs h ks vs → NestedAll h ks vs
  | _, _, .nil => .nil
  | _, _, .cons h1 h2 => .cons h1.is h2.all
end
mutual
theorem NO.stay {h h' : Heap} (hk : ∀ b o, h.get? b = some o → o.cls = .type "tuple" → h'.get? b = some o) : ∀ {k : NestedKey} {v : Value}, NO h k v → NO h' k v
  | _, _, .int i t => .int i t
  | _, _, .text x t => .text x t
  | _, _, .tup h1 h2 h3 h4 => .tup (hk _ _ h1 h2) h2 h3 (NOs.stay hk h4)
theorem NOs.stay {h h' : Heap} (hk : ∀ b o, h.get? b = some o → o.cls = .type "tuple" → h'.get? b = some o) : ∀ {ks : List NestedKey} {vs : List Value}, NOs h ks vs → NOs h' ks vs
  | _, _, .nil => .nil
  | _, _, .cons h1 h2 => .cons (h1.stay hk) (h2.stay hk)
end
theorem NOs.length {h : Heap} : ∀ {ks : List NestedKey} {vs : List Value}, NOs h ks vs → vs.length = ks.length
  | _, _, .nil => rfl
  | _, _, .cons _ h2 => by rw [List.length_cons, List.length_cons, h2.length]
theorem NOs.get {h : Heap} : ∀ {ks : List NestedKey} {vs : List Value}, NOs h ks vs → ∀ (j : Nat) (h1 : j < vs.length), ∃ k, ks[j]? = some k ∧ NO h k vs[j]
  | _, _, .nil, j, h1 => absurd h1 (Nat.not_lt_zero _)
  | _, _, .cons h1 h2, 0, _ => ⟨_, rfl, h1⟩
  | _, _, .cons h1 h2, j + 1, hj => by
    obtain ⟨k, a, b⟩ := h2.get j (Nat.lt_of_succ_lt_succ hj)
    exact ⟨k, by simpa using a, by simpa using b⟩
mutual
def kComp : NestedKey → NestedKey → Bool
  | .num _, .num _ => true
  | .text _, .text _ => true
  | .tup as, .tup bs => kComps as bs
  | _, _ => false
def kComps : List NestedKey → List NestedKey → Bool
  | a :: as, b :: bs => kComp a b && kComps as bs
  | _, _ => true
end
theorem kComps_get : ∀ {as bs : List NestedKey}, kComps as bs = true → ∀ (j : Nat) {a b : NestedKey}, as[j]? = some a → bs[j]? = some b → kComp a b = true
  | a :: as, b :: bs, h, 0, x, y, h1, h2 => by
    cases h1; cases h2
    simp only [kComps, Bool.and_eq_true] at h
    exact h.1
  | a :: as, b :: bs, h, j + 1, x, y, h1, h2 => by
    simp only [kComps, Bool.and_eq_true] at h
    exact kComps_get h.2 j (by simpa using h1) (by simpa using h2)
  | [], _, _, j, _, _, h1, _ => by simp at h1
  | _ :: _, [], _, j, _, _, _, h2 => by simp at h2
theorem eq_key {A : Around} {s : Shared} {x y : NestedKey} {u v : Value} (hx : NO s.heap x u) (hy : NO s.heap y v) (hu : A.units + x.depth < cLine) : EqAt A s u v (decide (x = y)) := by
  rw [NestedKey.decide_eq]
  exact eqAt_key x y A s u v hx.is hy.is (by omega)
theorem depth_get {ks : List NestedKey} {j : Nat} {k : NestedKey} (h : ks[j]? = some k) : k.depth ≤ NestedKey.depthAll ks := depth_mem (List.mem_of_getElem? h)
theorem kLt_tup' (as bs : List NestedKey) : kLt (.tup as) (.tup bs) = decide (encKs as < encKs bs) := by
  unfold kLt
  simp only [encK]
  refine decide_eq_decide.mpr ?_
  rw [List.cons_lt_cons_iff]
  simp
theorem rc_key : ∀ (n : Nat) {x y : NestedKey} {A : Around} {s : Shared} {u v : Value}, x.depth ≤ n → NO s.heap x u → NO s.heap y v → kComp x y = true → A.units + x.depth < cLine → Ob.RcOp .Lt A s u v (kLt x y) := by
  intro n
  induction n with
  | zero =>
    intro x y A s u v hn hx hy hc hu
    cases hx with
    | int i t =>
      cases hy with
      | int j r => rw [kLt_num]; exact Ob.RcOp.lt_int i j t r
      | text _ _ => cases hc
      | tup _ _ _ _ => cases hc
    | text a t =>
      cases hy with
      | int _ _ => cases hc
      | text b r => rw [kLt_text]; exact fun prog w E Q h => PyProof.Rows.lt_str h
      | tup _ _ _ _ => cases hc
    | tup _ _ _ _ => simp [NestedKey.depth] at hn
  | succ n ih =>
    intro x y A s u v hn hx hy hc hu
    cases hx with
    | int i t =>
      cases hy with
      | int j r => rw [kLt_num]; exact Ob.RcOp.lt_int i j t r
      | text _ _ => cases hc
      | tup _ _ _ _ => cases hc
    | text a t =>
      cases hy with
      | int _ _ => cases hc
      | text b r => rw [kLt_text]; exact fun prog w E Q h => PyProof.Rows.lt_str h
      | tup _ _ _ _ => cases hc
    | @tup a o us m as h1 h2 h3 h4 =>
      cases hy with
      | int _ _ => cases hc
      | text _ _ => cases hc
      | @tup b o' vs m' bs g1 g2 g3 g4 =>
        have hc : kComps as bs = true := hc
        simp only [NestedKey.depth] at hn hu
        have l1 : us.size = as.length := by have := h4.length; rwa [Array.length_toList] at this
        have l2 : vs.size = bs.length := by have := g4.length; rwa [Array.length_toList] at this
        have r := Ob.RcOp.tuples_lt (A := A) (s := s) (l := a) (b := b) (items := us) (items2 := vs) (e := fun j => decide (as[j]? = bs[j]?)) (r := fun j => kLt (as.getD j .none) (bs.getD j .none)) ⟨o, h1, h2, m, h3⟩ ⟨o', g1, g2, m', g3⟩ (by omega)
          (fun j j1 j2 => by
            obtain ⟨k, e1, n1⟩ := h4.get j (by simpa using j1)
            obtain ⟨k', e2, n2⟩ := g4.get j (by simpa using j2)
            have d1 := depth_get e1
            have := eq_key (A := A.in1) n1 n2 (by show A.units + 1 + _ < _; omega)
            rw [e1, e2]
            simpa using this)
          (fun j j1 j2 _ => by
            obtain ⟨k, e1, n1⟩ := h4.get j (by simpa using j1)
            obtain ⟨k', e2, n2⟩ := g4.get j (by simpa using j2)
            have d1 := depth_get e1
            have := ih (A := A.in1) (x := k) (y := k') (by omega) n1 n2 (kComps_get hc j e1 e2) (by show A.units + 1 + _ < _; omega)
            rw [List.getD_eq_getElem?_getD, List.getD_eq_getElem?_getD, e1, e2]
            simpa using this)
        rw [l1, l2, ← kLt_tup as bs] at r
        rw [kLt_tup']
        exact r
def flatK : NestedKey → Bool
  | .tup _ => false
  | _ => true
theorem lex_go {P : Program} {w : World} {A : Around} {s : Shared} {b fin : Bool} {Q : Bool → Shared → Prop} : ∀ {as bs : List NestedKey} {us vs : List Value} (i : Nat), NOs s.heap as us → NOs s.heap bs vs → kComps as bs = true → A.units + NestedKey.depthAll as < cLine →
    fin = decide (as.length < bs.length) → (b = true → i = 0 → ∀ k, as[0]? = some k → flatK k = true) → Q (decide (encKs as < encKs bs)) s → PySem.W.KatLex P w A b fin Q (us.zip vs) i s
  | _, _, _, _, i, .nil, .nil, _, _, hf, _, h => by
    refine PySem.W.kat_nil ?_
    rw [hf]
    simpa [encKs] using h
  | _, _, _, _, i, .nil, .cons (k := k) (ks := ks) h1 h2, _, _, hf, _, h => by
    refine PySem.W.kat_nil ?_
    rw [hf]
    obtain ⟨x, r, e, p⟩ := encK_pos k
    have e2 : decide (encKs [] < encKs (k :: ks)) = true := by
      simp only [encKs, e, List.cons_append]
      exact decide_eq_true ((lt_cons' (by omega)).mpr p)
    rw [e2] at h
    simpa using h
  | _, _, _, _, i, .cons (k := k) (ks := ks) h1 h2, .nil, _, _, hf, _, h => by
    refine PySem.W.kat_nil ?_
    rw [hf]
    obtain ⟨x, r, e, p⟩ := encK_pos k
    have e2 : decide (encKs (k :: ks) < encKs []) = false := by
      simp only [encKs, e, List.cons_append]
      refine decide_eq_false fun z => ?_
      have := (lt_cons' (by omega)).mp z
      omega
    rw [e2] at h
    simpa using h
  | _, _, _, _, i, .cons (k := x) (v := u) (ks := as) h1 h2, .cons (k := y) (v := v) (ks := bs) g1 g2, hc, hu, hf, hb, h => by
    simp only [kComps, Bool.and_eq_true] at hc
    simp only [NestedKey.depthAll] at hu
    refine PySem.W.kat_cons (eq_key h1 g1 (by omega) P w _ _ ?_)
    by_cases e : x = y
    · subst e
      rw [decide_eq_true rfl]
      refine PySem.W.kat_yes (lex_go (i + 1) h2 g2 hc.2 (by omega) ?_ (fun _ z => absurd z (Nat.succ_ne_zero _)) ?_)
      · rw [hf]; exact decide_eq_decide.mpr (by simp)
      · have e2 : decide (encKs (x :: as) < encKs (x :: bs)) = decide (encKs as < encKs bs) := by
          simp only [encKs]
          exact decide_eq_decide.mpr lt_pre
        rwa [e2] at h
    · rw [decide_eq_false e]
      have e2 : decide (encKs (x :: as) < encKs (y :: bs)) = kLt x y := by
        simp only [encKs]
        exact decide_eq_decide.mpr ((difK x y e).lt _ _)
      rw [e2] at h
      refine PySem.W.kat_no ?_
      cases hbi : (b && i == 0) with
      | false => exact PySem.W.kat_one _ _ (rc_key _ (Nat.le_refl _) h1 g1 hc.1 (by omega) P w _ _ h)
      | true =>
        have hbi := (Bool.and_eq_true _ _).mp hbi
        have fl := hb hbi.1 (by simpa using hbi.2) x rfl
        cases h1 with
        | int i t =>
          cases g1 with
          | int j r => rw [kLt_num] at h; exact oneLt_int h
          | text _ _ => cases hc.1
          | tup _ _ _ _ => cases hc.1
        | text a t =>
          cases g1 with
          | int _ _ => cases hc.1
          | text b r => rw [kLt_text] at h; exact PyProof.Rows.oneLt_str h
          | tup _ _ _ _ => cases hc.1
        | tup _ _ _ _ => cases fl
end Fz
set_option Elab.async false
set_option linter.all false
set_option maxRecDepth 100000
set_option maxHeartbeats 4000000
namespace Fz
open PySem PySem.Spec PyProof.Rows L2 PySem.SeqAt
def SortK (ks : List NestedKey) : Prop := (∀ k ∈ ks, ∃ a r, k = .tup (a :: r)) ∧ ∀ k ∈ ks, ∀ k' ∈ ks, kComp k k' = true
theorem SortK.perm {ks ls : List NestedKey} (h : SortK ks) (p : ∀ k ∈ ls, k ∈ ks) : SortK ls := ⟨fun k hk => h.1 k (p k hk), fun k hk k' hk' => h.2 k (p k hk) k' (p k' hk')⟩
open Classical in
noncomputable def keyOf (h : Heap) (v : Value) : NestedKey := if e : ∃ k, NO h k v then e.choose else .none
theorem keyOf_eq {h : Heap} {k : NestedKey} {v : Value} (x : NO h k v) : keyOf h v = k := by
  unfold keyOf
  have e : ∃ k, NO h k v := ⟨k, x⟩
  rw [dif_pos e]
  exact NestedIs.inj _ _ _ e.choose_spec.is x.is
def tyK : NestedKey → String
  | .num _ => "int"
  | .text _ => "str"
  | _ => "tuple"
theorem tyK_comp {a b : NestedKey} (h : kComp a b = true) : tyK a = tyK b := by
  cases a <;> cases b <;> first | rfl | cases h
theorem NOs.mem {h : Heap} : ∀ {ks : List NestedKey} {vs : List Value}, NOs h ks vs → ∀ v ∈ vs, ∃ k ∈ ks, NO h k v
  | _, _, .nil, v, hv => nomatch hv
  | _, _, .cons h1 h2, v, hv => by
    rcases List.mem_cons.mp hv with rfl | hv
    · exact ⟨_, List.mem_cons_self, h1⟩
    · obtain ⟨k, a, b⟩ := h2.mem v hv
      exact ⟨k, List.mem_cons_of_mem _ a, b⟩
theorem firsts_n {h : Heap} {T : String} : ∀ {ks : List NestedKey} {vs : List Value}, NOs h ks vs → (∀ k ∈ ks, ∃ a r, k = .tup (a :: r) ∧ tyK a = T) → ∃ fs, PySem.W.KatTups h vs fs ∧ fs.length = vs.length ∧ ∀ f ∈ fs, ∃ a, NO h a f ∧ tyK a = T
  | _, _, .nil, _ => ⟨[], PySem.W.KatTups.nil, rfl, fun f hf => nomatch hf⟩
  | _, _, .cons (v := v) h1 h2, hs => by
    obtain ⟨fs, k, hl, ht⟩ := firsts_n h2 fun k hk => hs k (List.mem_cons_of_mem _ hk)
    obtain ⟨a, r, rfl, ta⟩ := hs _ List.mem_cons_self
    cases h1 with
    | @tup ad o us n _ g1 g2 g3 g4 =>
      obtain ⟨l⟩ := us
      cases g4 with
      | @cons _ u _ us n1 n2 =>
        refine ⟨u :: fs, PySem.W.KatTups.cons g1 g2 g3 (by simp) k, by simp [hl], fun f hf => ?_⟩
        rcases List.mem_cons.mp hf with rfl | hf
        · exact ⟨a, n1, ta⟩
        · exact ht f hf
section
variable {P : Program} {w : World} {A : Around} {E : Value → Shared → Prop} {s : Shared}
theorem n_sortable {a : Addr} {ks : List NestedKey} {vs : List Value} (p : NOs s.heap ks vs) (S : SortK ks) (hu : ∀ k ∈ ks, A.units + k.depth < cLine) (h0 : 0 < vs.length) (ha : ∀ o, s.heap.get? a = some o → o.cls ≠ .type "tuple") :
    SrtO.SortableO P w A s a vs fun v u => kLt (keyOf s.heap v) (keyOf s.heap u) := by
  intro h' keep
  have st : ∀ b o, s.heap.get? b = some o → o.cls = .type "tuple" → h'.get? b = some o := fun b o e c => keep b o (fun z => by subst z; exact ha o e c) e
  have p' : NOs h' ks vs := p.stay st
  obtain ⟨k0, ks0, rfl⟩ : ∃ k ks0, ks = k :: ks0 := by
    cases ks with
    | nil => have := p.length; simp at this; subst this; simp at h0
    | cons k ks0 => exact ⟨k, ks0, rfl⟩
  obtain ⟨a0, r0, e0⟩ := S.1 k0 List.mem_cons_self
  have ty : ∀ k ∈ k0 :: ks0, ∃ a r, k = .tup (a :: r) ∧ tyK a = tyK a0 := fun k hk => by
    obtain ⟨a, r, e⟩ := S.1 k hk
    have := S.2 k hk k0 List.mem_cons_self
    rw [e, e0] at this
    simp only [kComp, kComps, Bool.and_eq_true] at this
    exact ⟨a, r, e, tyK_comp this.1⟩
  obtain ⟨fs, f1, f2, f3⟩ := firsts_n p' ty
  refine ⟨tuples' (Value.type (tyK a0) != Value.type "tuple"), fun Q E hq => ?_, ?_⟩
  · refine PySem.W.kat_kind (T := .type (tyK a0)) f1 (by omega) (fun f hf => ?_) (by simp) hq
    obtain ⟨b, n, t⟩ := f3 f hf
    rw [← t]
    cases n with
    | int i t => exact PySem.W.Looks.of_pure rfl
    | text x t => exact PySem.W.Looks.of_pure rfl
    | tup g1 g2 _ _ => exact fun A Q E s k q => wpAny_typeOf ⟨_, k _ _ g1, g2⟩ q
  · intro x y hx hy
    obtain ⟨k, hk, n1⟩ := p'.mem x.1 hx
    obtain ⟨l, hl, n2⟩ := p'.mem y.1 hy
    obtain ⟨k', hk', n1'⟩ := p.mem x.1 hx
    obtain ⟨l', hl', n2'⟩ := p.mem y.1 hy
    show wpAny _ _ _ (fun r s' => s' = _ ∧ r = kLt (keyOf s.heap x.1) (keyOf s.heap y.1)) _ _
    rw [keyOf_eq n1', keyOf_eq n2', ← NestedIs.inj _ _ _ n1.is (n1'.stay st).is, ← NestedIs.inj _ _ _ n2.is (n2'.stay st).is]
    obtain ⟨ax, rx, ex, tx⟩ := ty k hk
    have cm := S.2 k hk l hl
    have du := hu k hk
    subst ex
    obtain ⟨ay, ry, ey, tyy⟩ := ty l hl
    subst ey
    obtain ⟨x1, x2⟩ := x
    obtain ⟨y1, y2⟩ := y
    dsimp only at n1 n2
    cases n1 with
    | @tup bx ox us n _ g1 g2 g3 g4 =>
      cases n2 with
      | @tup by' oy vs' n' _ q1 q2 q3 q4 =>
        have l1 := g4.length
        have l2 := q4.length
        rw [Array.length_toList] at l1 l2
        refine PySem.W.kat_lt g1 g3 q1 q3 (lex_go (s := { s with heap := h' }) 0 g4 q4 cm ?_ ?_ ?_ ?_)
        · simp only [NestedKey.depth] at du; omega
        · rw [l1, l2]
        · intro hb _ k hk
          cases hk
          cases ax with
          | tup _ =>
            rw [← tx] at hb
            exact absurd hb (by show ¬ (Value.type "tuple" != Value.type "tuple") = true; decide)
          | _ => rfl
        · exact ⟨rfl, (kLt_tup' _ _).symm⟩
end
end Fz
set_option Elab.async false
set_option linter.all false
set_option maxRecDepth 100000
set_option maxHeartbeats 4000000
namespace Fz
open PySem L2 PySem.Spec PyProof.Rows PySem.SeqAt
mutual
def ordD : D → Bool
  | .int _ => true
  | .str _ => true
  | .tup ds => ordDs ds
  | _ => false
def ordDs : List D → Bool
  | [] => true
  | d :: ds => ordD d && ordDs ds
end
def nkD (d : D) : NestedKey := (nk d).getD .none
mutual
theorem nk_ord : ∀ {d : D}, ordD d = true → nk d = some (nkD d)
  | .int _, _ => rfl
  | .str _, _ => rfl
  | .tup ds, h => by
    have e := nks_ord (show ordDs ds = true from h)
    have e2 : nk (.tup ds) = some (.tup (ds.map nkD)) := by unfold nk; rw [e]; rfl
    exact e2.trans (congrArg some (by show _ = (nk (.tup ds)).getD .none; rw [e2]; rfl))
  | .non, h => by cases h
  | .bl _, h => by cases h
  | .lst _, h => by cases h
  | .obj _ _, h => by cases h
  | .dct _ _, h => by cases h
  | .ext _ _, h => by cases h
theorem nks_ord : ∀ {ds : List D}, ordDs ds = true → nks ds = some (ds.map nkD)
  | [], _ => rfl
  | d :: ds, h => by
    have h := (Bool.and_eq_true _ _).mp (show (ordD d && ordDs ds) = true from h)
    unfold nks
    rw [nk_ord h.1, nks_ord h.2]
    rfl
end
theorem nkD_tup {ds : List D} (h : ordDs ds = true) : nkD (.tup ds) = .tup (ds.map nkD) := by
  have e2 : nk (.tup ds) = some (.tup (ds.map nkD)) := by unfold nk; rw [nks_ord h]; rfl
  show (nk (.tup ds)).getD .none = _
  rw [e2]
  rfl
mutual
theorem nkD_inj : ∀ {a b : D}, ordD a = true → ordD b = true → nkD a = nkD b → a = b
  | .int i, .int j, _, _, h => by injection (show NestedKey.num i = NestedKey.num j from h) with h; rw [h]
  | .int i, .str j, _, _, h => by cases (show NestedKey.num i = NestedKey.text j from h)
  | .str i, .int j, _, _, h => by cases (show NestedKey.text i = NestedKey.num j from h)
  | .str i, .str j, _, _, h => by injection (show NestedKey.text i = NestedKey.text j from h) with h; rw [h]
  | .int i, .tup ds, _, g, h => by rw [nkD_tup (show ordDs ds = true from g)] at h; cases h
  | .str i, .tup ds, _, g, h => by rw [nkD_tup (show ordDs ds = true from g)] at h; cases h
  | .tup ds, .int i, g, _, h => by rw [nkD_tup (show ordDs ds = true from g)] at h; cases h
  | .tup ds, .str i, g, _, h => by rw [nkD_tup (show ordDs ds = true from g)] at h; cases h
  | .tup ds, .tup es, g, f, h => by
    rw [nkD_tup (show ordDs ds = true from g), nkD_tup (show ordDs es = true from f)] at h
    injection h with h
    rw [nkDs_inj (show ordDs ds = true from g) (show ordDs es = true from f) h]
  | .non, _, h, _, _ => by cases h
  | .bl _, _, h, _, _ => by cases h
  | .lst _, _, h, _, _ => by cases h
  | .obj _ _, _, h, _, _ => by cases h
  | .dct _ _, _, h, _, _ => by cases h
  | .ext _ _, _, h, _, _ => by cases h
  | .int _, .non, _, h, _ => by cases h
  | .int _, .bl _, _, h, _ => by cases h
  | .int _, .lst _, _, h, _ => by cases h
  | .int _, .obj _ _, _, h, _ => by cases h
  | .int _, .dct _ _, _, h, _ => by cases h
  | .int _, .ext _ _, _, h, _ => by cases h
  | .str _, .non, _, h, _ => by cases h
  | .str _, .bl _, _, h, _ => by cases h
  | .str _, .lst _, _, h, _ => by cases h
  | .str _, .obj _ _, _, h, _ => by cases h
  | .str _, .dct _ _, _, h, _ => by cases h
  | .str _, .ext _ _, _, h, _ => by cases h
  | .tup _, .non, _, h, _ => by cases h
  | .tup _, .bl _, _, h, _ => by cases h
  | .tup _, .lst _, _, h, _ => by cases h
  | .tup _, .obj _ _, _, h, _ => by cases h
  | .tup _, .dct _ _, _, h, _ => by cases h
  | .tup _, .ext _ _, _, h, _ => by cases h
theorem nkDs_inj : ∀ {as bs : List D}, ordDs as = true → ordDs bs = true → as.map nkD = bs.map nkD → as = bs
  | [], [], _, _, _ => rfl
  | [], _ :: _, _, _, h => by cases h
  | _ :: _, [], _, _, h => by cases h
  | a :: as, b :: bs, g, f, h => by
    have g := (Bool.and_eq_true _ _).mp (show (ordD a && ordDs as) = true from g)
    have f := (Bool.and_eq_true _ _).mp (show (ordD b && ordDs bs) = true from f)
    rw [List.map_cons, List.map_cons] at h
    injection h with h1 h2
    rw [nkD_inj g.1 f.1 h1, nkDs_inj g.2 f.2 h2]
end
def leD (a b : D) : Bool := !kLt (nkD b) (nkD a)
def sortD (xs : List D) : List D := xs.mergeSort leD
theorem leD_trans (a b c : D) (h : leD a b = true) (g : leD b c = true) : leD a c = true := by
  unfold leD at *
  have := (kLt_swo nkD).tr a b c (by simpa using h) (by simpa using g)
  simp [this]
theorem leD_total (a b : D) : (leD a b || leD b a) = true := by
  unfold leD
  cases h : kLt (nkD b) (nkD a) with
  | false => rfl
  | true => rw [(kLt_swo nkD).asym b a h]; rfl
theorem leD_eq {a b : D} (ha : ordD a = true) (hb : ordD b = true) (h : leD a b = true) (g : leD b a = true) : a = b :=
  nkD_inj ha hb (kLt_eq (by simpa [leD] using g) (by simpa [leD] using h))
theorem sortD_perm (xs : List D) : (sortD xs).Perm xs := List.mergeSort_perm xs leD
theorem sortD_sorted (xs : List D) : (sortD xs).Pairwise fun a b => leD a b = true := List.pairwise_mergeSort (le := leD) leD_trans leD_total xs
theorem pwD_unique : ∀ {a b : List D}, a.Perm b → (∀ x ∈ a, ordD x = true) → a.Pairwise (fun a b => leD a b = true) → b.Pairwise (fun a b => leD a b = true) → a = b
  | [], b, p, _, _, _ => (List.nil_perm.mp p).symm
  | x :: r, b, p, o, ha, hb => by
    cases b with
    | nil => exact absurd p.length_eq (by simp)
    | cons y s =>
      have hx : x ∈ y :: s := p.mem_iff.mp (.head _)
      have hy : y ∈ x :: r := p.mem_iff.mpr (.head _)
      have e : x = y := by
        rcases List.mem_cons.mp hx with h | h
        · exact h
        · rcases List.mem_cons.mp hy with g | g
          · exact g.symm
          · exact leD_eq (o x (.head _)) (o y hy) ((List.pairwise_cons.mp ha).1 y g) ((List.pairwise_cons.mp hb).1 x h)
      subst e
      rw [pwD_unique (List.Perm.cons_inv p) (fun z hz => o z (.tail _ hz)) (List.pairwise_cons.mp ha).2 (List.pairwise_cons.mp hb).2]
theorem sortD_of {a b : List D} (p : a.Perm b) (o : ∀ x ∈ b, ordD x = true) (h : a.Pairwise fun a b => leD a b = true) : a = sortD b :=
  pwD_unique (p.trans (sortD_perm b).symm) (fun x hx => o x (p.mem_iff.mp hx)) h (sortD_sorted b)
def tupNE : D → Bool
  | .tup (_ :: _) => true
  | _ => false
def sortOk (xs : List D) : Bool := xs.all fun x => ordD x && tupNE x && decide ((nkD x).depth ≤ 8) && xs.all fun y => kComp (nkD x) (nkD y)
theorem sortOk_ord {xs : List D} (h : sortOk xs = true) : ∀ x ∈ xs, ordD x = true ∧ tupNE x = true ∧ (nkD x).depth ≤ 8 ∧ ∀ y ∈ xs, kComp (nkD x) (nkD y) = true := fun x hx => by
  have := List.all_eq_true.mp h x hx
  simp only [Bool.and_eq_true, List.all_eq_true, decide_eq_true_eq] at this
  exact ⟨this.1.1.1, this.1.1.2, this.1.2, this.2⟩
theorem sortOk_key {xs : List D} (h : sortOk xs = true) : SortK (xs.map nkD) := by
  refine ⟨fun k hk => ?_, fun k hk k' hk' => ?_⟩
  · obtain ⟨x, hx, rfl⟩ := List.mem_map.mp hk
    obtain ⟨o, t, _, _⟩ := sortOk_ord h x hx
    cases x with
    | tup ds =>
      rw [nkD_tup (show ordDs ds = true from o)]
      cases ds with
      | nil => cases t
      | cons d ds => exact ⟨nkD d, ds.map nkD, rfl⟩
    | _ => cases t
  · obtain ⟨x, hx, rfl⟩ := List.mem_map.mp hk
    obtain ⟨y, hy, rfl⟩ := List.mem_map.mp hk'
    exact (sortOk_ord h x hx).2.2.2 y hy
def memD (x : D) (r : List D) : Bool := r.any fun y => decide (nkD y = nkD x)
def nubD : List D → List D
  | [] => []
  | x :: r => if memD x r = true then nubD r else x :: nubD r
theorem memD_iff {x : D} {r : List D} (hx : ordD x = true) (hr : ∀ y ∈ r, ordD y = true) : memD x r = true ↔ x ∈ r := by
  unfold memD
  rw [List.any_eq_true]
  constructor
  · rintro ⟨y, hy, e⟩
    rwa [← nkD_inj (hr y hy) hx (of_decide_eq_true e)]
  · exact fun h => ⟨x, h, decide_eq_true rfl⟩
theorem mem_nubD : ∀ {r : List D}, (∀ y ∈ r, ordD y = true) → ∀ {x : D}, x ∈ nubD r ↔ x ∈ r
  | [], _, x => by simp [nubD]
  | y :: r, h, x => by
    have hr : ∀ y ∈ r, ordD y = true := fun z hz => h z (.tail _ hz)
    unfold nubD
    split
    · rename_i c
      have := (memD_iff (h y (.head _)) hr).mp c
      rw [mem_nubD hr, List.mem_cons]
      exact ⟨.inr, fun z => z.elim (fun e => e ▸ this) id⟩
    · rw [List.mem_cons, List.mem_cons, mem_nubD hr]
theorem nodup_nubD : ∀ {r : List D}, (∀ y ∈ r, ordD y = true) → (nubD r).Nodup
  | [], _ => List.nodup_nil
  | y :: r, h => by
    have hr : ∀ y ∈ r, ordD y = true := fun z hz => h z (.tail _ hz)
    unfold nubD
    split
    · exact nodup_nubD hr
    · rename_i c
      exact List.nodup_cons.mpr ⟨fun z => c ((memD_iff (h y (.head _)) hr).mpr ((mem_nubD hr).mp z)), nodup_nubD hr⟩
theorem permD_of_mem {a b : List D} (ha : a.Nodup) (hb : b.Nodup) (h : ∀ x, x ∈ a ↔ x ∈ b) : a.Perm b := (List.perm_ext_iff_of_nodup ha hb).mpr h
end Fz
set_option Elab.async false
set_option linter.all false
set_option maxRecDepth 100000
set_option maxHeartbeats 4000000
namespace Fz
open PySem L2 PySem.Spec PyProof.Rows PySem.SeqAt
section
variable {P : Program} {w : World} {H : Hp} {h : Heap}
mutual
theorem no_of {T : Tab} (ok : HOk P w H h) (kx : T.K.In h) : ∀ (d : D) {v : V} {u : Value}, Rep T H d v → RelV v u → ordD d = true → NO h (nkD d) u
  | .int i, v, u, r, rv, o => by unfold Rep at r; subst r; obtain ⟨t, rfl⟩ := rv; exact .int i t
  | .str s, v, u, r, rv, o => by unfold Rep at r; obtain ⟨rfl, _⟩ := r; obtain ⟨t, rfl⟩ := rv; exact .text s t
  | .tup ds, v, u, r, rv, o => by
    have o : ordDs ds = true := o
    unfold Rep at r
    obtain ⟨b, xs, rfl, ht, hr⟩ := r
    cases rv
    rw [nkD_tup o]
    rcases ht with ht | ⟨ob, its, n, h1, h2, h3, _, h5⟩
    · obtain ⟨_, its, rv, ob, h1, h2, n, h3⟩ := (show ObjOk P w H h b (.tup xs) from ok b _ ht)
      exact .tup h1 h2 h3 (nos_of ok kx ds hr (by simpa using rv) o)
    · exact .tup (kx b ob h1) h2 h3 (nos_of ok kx ds hr h5 o)
  | .non, _, _, _, _, o => by cases o
  | .bl _, _, _, _, _, o => by cases o
  | .lst _, _, _, _, _, o => by cases o
  | .obj _ _, _, _, _, _, o => by cases o
  | .dct _ _, _, _, _, _, o => by cases o
  | .ext _ _, _, _, _, _, o => by cases o
theorem nos_of {T : Tab} (ok : HOk P w H h) (kx : T.K.In h) : ∀ (ds : List D) {vs : List V} {us : List Value}, Reps T H ds vs → Vals vs us → ordDs ds = true → NOs h (ds.map nkD) us
  | [], vs, us, r, rv, o => by unfold Reps at r; subst r; cases rv; exact .nil
  | d :: ds, vs, us, r, rv, o => by
    have o := (Bool.and_eq_true _ _).mp (show (ordD d && ordDs ds) = true from o)
    unfold Reps at r
    obtain ⟨v, q, rfl, r1, r2⟩ := r
    cases rv with
    | cons h1 h2 => exact .cons (no_of ok kx d r1 h1 o.1) (nos_of ok kx ds r2 h2 o.2)
end
end
theorem ordDs_all : ∀ {ds : List D}, (∀ d ∈ ds, ordD d = true) → ordDs ds = true
  | [], _ => rfl
  | d :: ds, h => by show (ordD d && ordDs ds) = true; rw [h d (.head _), ordDs_all fun e he => h e (.tail _ he)]; rfl
abbrev Tri : Type := D × V × Value
theorem tri_of {T : Tab} {B : Hp} : ∀ {ds : List D} {xs : List V} {us : List Value}, Reps T B ds xs → Vals xs us → ∃ zs : List Tri, zs.map (·.1) = ds ∧ zs.map (·.2.2) = us ∧ ∀ z ∈ zs, Rep T B z.1 z.2.1 ∧ RelV z.2.1 z.2.2
  | [], xs, us, r, rv => by unfold Reps at r; subst r; cases rv; exact ⟨[], rfl, rfl, fun z hz => nomatch hz⟩
  | d :: ds, xs, us, r, rv => by
    unfold Reps at r
    obtain ⟨v, q, rfl, r1, r2⟩ := r
    cases rv with
    | @cons _ u _ us h1 h2 =>
      obtain ⟨zs, e1, e2, e3⟩ := tri_of r2 h2
      refine ⟨(d, v, u) :: zs, by rw [List.map_cons, e1], by rw [List.map_cons, e2], fun z hz => ?_⟩
      rcases List.mem_cons.mp hz with rfl | hz
      · exact ⟨r1, h1⟩
      · exact e3 z hz
theorem tri_back {T : Tab} {B : Hp} : ∀ {zs : List Tri}, (∀ z ∈ zs, Rep T B z.1 z.2.1 ∧ RelV z.2.1 z.2.2) → Reps T B (zs.map (·.1)) (zs.map (·.2.1)) ∧ Vals (zs.map (·.2.1)) (zs.map (·.2.2))
  | [], _ => ⟨reps_nil, .nil⟩
  | z :: zs, h => by
    obtain ⟨a, b⟩ := tri_back fun y hy => h y (.tail _ hy)
    obtain ⟨r, q⟩ := h z (.head _)
    exact ⟨reps_cons r a, .cons q b⟩
theorem tri_sorted {T : Tab} {P : Program} {w : World} {B H : Hp} {h : Heap} (eB : Ex B H) (ok : HOk P w H h) (kx : T.K.In h) {zs zs' : List Tri} {ds : List D} (hz : ∀ z ∈ zs', Rep T B z.1 z.2.1 ∧ RelV z.2.1 z.2.2) (o : ∀ d ∈ ds, ordD d = true) (pm : (zs'.map (·.1)).Perm ds)
    (pw : (zs'.map (·.2.2)).Pairwise fun v u => kLt (keyOf h u) (keyOf h v) = false) : zs'.map (·.1) = sortD ds := by
  refine sortD_of pm o ?_
  rw [List.pairwise_map] at pw ⊢
  refine List.Pairwise.imp_of_mem (fun {a b} ha hb p => ?_) pw
  have oa := o a.1 (pm.mem_iff.mp (List.mem_map.mpr ⟨a, ha, rfl⟩))
  have ob := o b.1 (pm.mem_iff.mp (List.mem_map.mpr ⟨b, hb, rfl⟩))
  have na := no_of ok kx a.1 ((hz a ha).1.mono eB) (hz a ha).2 oa
  have nb := no_of ok kx b.1 ((hz b hb).1.mono eB) (hz b hb).2 ob
  rw [keyOf_eq na, keyOf_eq nb] at p
  unfold leD
  rw [p]; rfl
section
variable {P : Program} {w : World} {A : Around} {E : Value → Shared → Prop} {s : Shared}
theorem sorted_set_n {a : Addr} {L : List (Addr × NestedKey)} {es : Array (Int × Value)} {ep : Nat} {t : SetTable} {Q : Value → Shared → Prop} (R : NSet P w s.heap a L es ep t) (hh : A.handled = none) (no : ∀ p ∈ L, NO s.heap p.2 (.ref p.1)) (S : SortK (L.map (·.2)))
    (hu : A.units + 20 < cLine)
    (hQ : ∀ s' p (out : List Value) (c : Nat), (∀ b o, s.heap.get? b = some o → s'.heap.get? b = some o) → s'.gens = s.gens → s'.os = s.os → s.heap.objs.size ≤ p → s'.heap.get? p = some (seqObj "list" out.toArray c) →
      out.Perm (L.map fun q => Value.ref q.1) → out.Pairwise (fun v u => kLt (keyOf s.heap u) (keyOf s.heap v) = false) → Q (.ref p) s') : wpAny (model P w) A (call (.builtin "sorted") [.ref a]) Q E s := by
  obtain ⟨o, ho, hex, hd⟩ := R.ob
  have hsz := R.len
  have few := R.few
  refine Calls.call_function_entry kind_sorted plain_sorted entry_sorted (args_sorted1 _) ?_
  unfold Builtin.«sorted»
  refine wpAny_bind (m := checkCount "sorted" 1 1 _) (wpAny_pure ?_)
  refine wpAny_bind (collect_set (A := A.in1) hh ⟨o, ho, hex.1, hd⟩ R.fits (by unfold scanBound; omega) R.tab.ris R.led fun s1 vs k1 hz g1 o1 pm => ?_)
  have er : es.toList.map (·.2) = L.map fun q => Value.ref q.1 := by rw [R.rows, List.map_map]; rfl
  rw [er] at pm
  have hvl : vs.length = L.length := by rw [pm.length_eq, List.length_map]
  have hbig : vs.length ≤ sizeLine := by rw [sizeLine_eq]; omega
  refine wpAny_bind (wpAny_newList ?_ hbig)
  have hoL : (s1.heap.push (seqObj "list" vs.toArray 0)).get? s1.heap.objs.size = some (seqObj "list" vs.toArray 0) := Heap.get?_push_size _ rfl
  have kk : ∀ b u, s.heap.get? b = some u → (s1.heap.push (seqObj "list" vs.toArray 0)).get? b = some u := fun b u e => Heap.get?_push_of_some _ (k1 b u e)
  -- the keys in the order of vs
  obtain ⟨N, p1, p2⟩ := perm_lift (fun q : Addr × NestedKey => Value.ref q.1) pm L rfl
  have nos : ∀ M : List (Addr × NestedKey), (∀ q ∈ M, q ∈ L) → NOs s.heap (M.map (·.2)) (M.map fun q => Value.ref q.1) := by
    intro M
    induction M with
    | nil => intro _; exact .nil
    | cons q M ih => intro hM; exact .cons (no q (hM q (.head _))) (ih fun r hr => hM r (.tail _ hr))
  have nN := nos N fun q hq => p1.mem_iff.mp hq
  rw [p2] at nN
  have SN : SortK (N.map (·.2)) := S.perm fun k hk => (p1.map (·.2)).mem_iff.mp hk
  have st : ∀ b u, s.heap.get? b = some u → u.cls = .type "tuple" → (s1.heap.push (seqObj "list" vs.toArray 0)).get? b = some u := fun b u e _ => kk b u e
  have du : ∀ k ∈ N.map (·.2), A.in1.in1.units + k.depth < cLine := fun k hk => by
    obtain ⟨q, hq, rfl⟩ := List.mem_map.mp hk
    have := (R.key q (p1.mem_iff.mp hq)).2
    show A.units + 1 + 1 + _ < _
    omega
  refine wpAny_bind (wpAny_holding (wpAny_call_entry slot_list_sort ⟨_, hoL, rfl⟩ entry_list_sort (SrtO.list_sort_ord (kLt_swo (keyOf s.heap)) hoL hbig (fun h2 => ?_) fun out hs hb => ⟨_, rfl, ?_⟩) (args_list_sort _)))
  · have := n_sortable (P := P) (w := w) (A := A.in1.in1) (s := { s1 with heap := s1.heap.push (seqObj "list" vs.toArray 0) }) (a := s1.heap.objs.size) (nN.stay st) SN du (by omega) fun o e => by
      have e' : some o = some (seqObj "list" vs.toArray 0) := e.symm.trans hoL
      cases e'
      intro c
      exact absurd (Value.type.inj c) (by decide)
    intro h' keep
    obtain ⟨κ, a1, a2⟩ := this h' keep
    refine ⟨κ, a1, fun x y hx hy => ?_⟩
    have := a2 x y hx hy
    obtain ⟨k, _, n1⟩ := nN.mem x.1 hx
    obtain ⟨l, _, n2⟩ := nN.mem y.1 hy
    have e1 : keyOf (s1.heap.push (seqObj "list" vs.toArray 0)) x.1 = keyOf s.heap x.1 := (keyOf_eq (n1.stay st)).trans (keyOf_eq n1).symm
    have e2 : keyOf (s1.heap.push (seqObj "list" vs.toArray 0)) y.1 = keyOf s.heap y.1 := (keyOf_eq (n2.stay st)).trans (keyOf_eq n2).symm
    show wpAny _ _ _ (fun r s' => s' = _ ∧ r = kLt (keyOf s.heap x.1) (keyOf s.heap y.1)) _ _
    rw [← e1, ← e2]
    exact this
  · obtain ⟨c, hc⟩ := sortedHeap_at (vs := vs) (out := out.toArray) hoL
    refine wpAny_pure ⟨_, rfl, hQ _ s1.heap.objs.size out c (fun b u e => ?_) g1 o1 hz hc (hb.perm.trans pm) hs⟩
    have q := k1 b u e
    have hlt := Heap.lt_size q
    show (sortedHeap (s1.heap.push (seqObj "list" vs.toArray 0)) s1.heap.objs.size vs out.toArray).get? b = some u
    rw [sortedHeap_old (Nat.ne_of_lt hlt) (by rw [size_push']; exact Nat.lt_succ_of_lt hlt)]
    exact Heap.get?_push_of_some _ q
end
end Fz
set_option Elab.async false
set_option linter.all false
set_option maxRecDepth 100000
set_option maxHeartbeats 4000000
namespace Fz
open PySem L2 PySem.Spec PyProof.Rows PySem.SeqAt
def adr : Value → Addr
  | .ref a => a
  | _ => 0
def kyT (z : Tri) : Addr × NestedKey := (adr z.2.2, nkD z.1)
theorem pick_tri {zs : List Tri} : ∀ {L : List (Addr × NestedKey)}, (∀ p ∈ L, p ∈ zs.map kyT) → ∃ N : List Tri, N.map kyT = L ∧ ∀ z ∈ N, z ∈ zs
  | [], _ => ⟨[], rfl, fun z hz => nomatch hz⟩
  | p :: L, h => by
    obtain ⟨z, hz, e⟩ := List.mem_map.mp (h p (.head _))
    obtain ⟨N, e2, hN⟩ := pick_tri fun q hq => h q (.tail _ hq)
    refine ⟨z :: N, by rw [List.map_cons, e, e2], fun y hy => ?_⟩
    rcases List.mem_cons.mp hy with rfl | hy
    · exact hz
    · exact hN y hy
theorem nodup_of_mapD {α β : Type} {f : α → β} {l : List α} (h : (l.map f).Nodup) : l.Nodup := List.Pairwise.of_map f (fun _ _ n e => n (congrArg f e)) h
def rSortSetN (T : Tab) : List V → Hp → VK → Prop := fun vs H Q => ∃ B a ds xs, vs = [V.ref a] ∧ Ex B H ∧ SqL T.K H a xs ∧ Reps T B ds xs ∧ sortOk ds = true ∧ ds.length < 64 ∧ ∀ ys p, Reps T B (sortD (nubD ds)) ys → H p = none → Q (.ref p) (upd H p (.lst ys))
def gSortSetN : List D → Option (List D)
  | [.lst xs] => if sortOk xs = true ∧ xs.length < 64 then some (sortD (nubD xs)) else none
  | _ => none
theorem p_sortSetN {T : Tab} : PrimL T (rSortSetN T) gSortSetN := by
  intro xs zs vs B H Q e hx hz k
  unfold gSortSetN at hz
  split at hz
  · rename_i ys
    split at hz
    · rename_i hs
      cases hz
      obtain ⟨v, rfl, r⟩ := reps1 hx
      unfold Rep at r
      obtain ⟨a, us, rfl, t1, r1⟩ := r
      exact ⟨B, a, ys, us, rfl, e, e.sqL t1, r1, hs.1, hs.2, fun zs p hr hn => k p zs B H (.refl e) hn hr⟩
    · cases hz
  · cases hz
section
variable {X : Cx} {e : Expr} {es : List Expr} {t : TA} {T : Tab}
theorem setN_made {pins : List (Addr × Obj)} {σ : L2.St} {B H : Hp} {s : Shared} {a : Addr} {ds : List D} {xs : List V} {E : Value → Shared → Prop} {Q : Value → Shared → Prop} (hc : X.calm = true) (hu : X.A.units + 65 < cLine) (hK : X.K = T.K) (I : Inv X pins σ H s) (eB : Ex B H)
    (hs : SqL T.K H a xs) (hr : Reps T B ds xs) (so : sortOk ds = true) (few : ds.length < 64)
    (q : ∀ S s' (zs : List Tri) L es ep t, Inv X pins σ H s' → zs.map (·.1) = ds → (∀ z ∈ zs, Rep T B z.1 z.2.1 ∧ RelV z.2.1 z.2.2 ∧ z.2.2 = .ref (adr z.2.2)) → NSet X.prog X.w s'.heap S L es ep t → Gath (zs.map kyT) (zs.map kyT).length L → Q (.ref S) s') :
    wpAny (model X.prog X.w) X.A (call (.type "set") [.ref a]) Q E s := by
  obtain ⟨its, rv, pl, hz⟩ := I.list (by rw [hK]; exact hs)
  have kx : T.K.In s.heap := by rw [← hK]; exact I.kIn
  obtain ⟨zs, e1, e2, e3⟩ := tri_of hr rv
  have ord : ∀ d ∈ ds, ordD d = true := fun d hd => (sortOk_ord so d hd).1
  have mem : ∀ z ∈ zs, z.1 ∈ ds := fun z hz => by rw [← e1]; exact List.mem_map.mpr ⟨z, hz, rfl⟩
  have no : ∀ z ∈ zs, NO s.heap (nkD z.1) z.2.2 := fun z hz => no_of I.hok kx z.1 ((e3 z hz).1.mono eB) (e3 z hz).2 (ord _ (mem z hz))
  have rf : ∀ z ∈ zs, z.2.2 = .ref (adr z.2.2) := fun z hz => by
    have n := no z hz
    obtain ⟨o, tn, _, _⟩ := sortOk_ord so z.1 (mem z hz)
    generalize hd : z.1 = d at n o tn
    cases d with
    | tup ds' =>
      rw [nkD_tup (show ordDs ds' = true from o)] at n
      generalize z.2.2 = v at n
      cases n
      rfl
    | _ => cases tn
  refine call_set_n (P := X.prog) (w := X.w) (zs.map kyT) (I.ok.hd hc) pl.isList ?_ (fun p hp => ?_) (by rw [List.length_map]; have := congrArg List.length e1; rw [List.length_map] at this; omega) (by omega) fun h' tk L es ep t R g k => ?_
  · rw [List.map_map]
    show its = _
    rw [← e2]
    exact List.map_congr_left fun z hz => rf z hz
  · obtain ⟨z, hz, rfl⟩ := List.mem_map.mp hp
    have n := no z hz
    rw [rf z hz] at n
    exact ⟨n.is, (sortOk_ord so _ (mem z hz)).2.2.1⟩
  · have J : Inv X pins σ H { s with heap := h', toks := tk } := I.kept k
    exact q _ _ zs L es ep t J e1 (fun z hz => ⟨(e3 z hz).1, (e3 z hz).2, rf z hz⟩) R g
theorem pe_sortSetN {p p2 q pos : Pos} (hc : X.calm = true) (hu : X.A.units + 65 < cLine) (hK : X.K = T.K) (hg : Gl X "sorted") (hm : X.mg "sorted" = none) (hg2 : Gl X "set") (hm2 : X.mg "set" = none) (ha : PA X (e :: es) t)
    (he : starEach (e :: es) X.env = (false, eval e X.env) :: starEach es X.env := by rfl) (hpl : (backTo q (starEach es X.env)).any (·.1) = false := by rfl) :
    PE X (.Call (.Name "sorted" p) [.Call (.Name "set" p2) (e :: es) [] q] [] pos) (tCB (rSortSetN T) t) := by
  refine ⟨fun pins s σ H Q I h => ?_⟩
  refine wpAny_Call_Name_kw (ld_blt I hg hm (by decide +kernel : bootBuiltins "sorted" = some (.builtin "sorted")) ?_ (by decide +kernel) (by decide +kernel))
  refine PyProof.Rows.callWith_builtin1 (PyProof.Rows.args_cons ?_ rfl) rfl rfl
  refine wpAny_Call_Name_kw (ld_blt I hg2 hm2 boot_set ?_)
  refine PyProof.Rows.callWith_type1 (thn (ha.run q pins s σ H _ I h) fun us s1 ⟨vs, H1, I1, r1, q1⟩ => ?_) he hpl
  obtain ⟨B, a, ds, xs, rfl, eB, hs, hr, so, few, q1⟩ := q1
  rw [Vals.ref1 r1]
  have ord : ∀ d ∈ ds, ordD d = true := fun d hd => (sortOk_ord so d hd).1
  refine setN_made hc hu hK I1 eB hs hr so few fun S s2 zs L es2 ep t2 I2 e1 e3 R g => ?_
  refine PyProof.Rows.args_nil ?_
  have kx : T.K.In s2.heap := by rw [← hK]; exact I2.kIn
  have mem : ∀ z ∈ zs, z.1 ∈ ds := fun z hz => by rw [← e1]; exact List.mem_map.mpr ⟨z, hz, rfl⟩
  have no : ∀ z ∈ zs, NO s2.heap (nkD z.1) z.2.2 := fun z hz => no_of I2.hok kx z.1 ((e3 z hz).1.mono eB) (e3 z hz).2.1 (ord _ (mem z hz))
  obtain ⟨N, n1, n2⟩ := pick_tri (zs := zs) (L := L) fun p hp => List.mem_of_mem_take (g.sub p hp)
  have SK : SortK (L.map (·.2)) := (sortOk_key so).perm fun k hk => by
    rw [← n1, List.map_map] at hk
    obtain ⟨z, hz, rfl⟩ := List.mem_map.mp hk
    exact List.mem_map.mpr ⟨z.1, mem z (n2 z hz), rfl⟩
  refine sorted_set_n R (I2.ok.hd hc) (fun p hp => ?_) SK (by omega) fun s' d out c k g' o hp hg' pm pw => ?_
  · rw [← n1] at hp
    obtain ⟨z, hz, rfl⟩ := List.mem_map.mp hp
    have n := no z (n2 z hz)
    rw [(e3 z (n2 z hz)).2.2] at n
    exact n
  · have eN : (L.map fun q => Value.ref q.1) = N.map fun z => z.2.2 := by
      rw [← n1, List.map_map]
      exact List.map_congr_left fun z hz => ((e3 z (n2 z hz)).2.2).symm
    rw [eN] at pm
    obtain ⟨zs', p1, p2⟩ := perm_lift (fun z : Tri => z.2.2) pm N rfl
    have hz' : ∀ z ∈ zs', Rep T B z.1 z.2.1 ∧ RelV z.2.1 z.2.2 := fun z hz => by
      obtain ⟨a1, a2, _⟩ := e3 z (n2 z (p1.mem_iff.mp hz))
      exact ⟨a1, a2⟩
    have keyN : (N.map (·.1)).map nkD = L.map (·.2) := by rw [← n1, List.map_map, List.map_map]; rfl
    have nd : (zs'.map (·.1)).Nodup := (p1.map (·.1)).nodup_iff.mpr (nodup_of_mapD (f := nkD) (by rw [keyN]; exact R.nd))
    have pd : (zs'.map (·.1)).Perm (nubD ds) := permD_of_mem nd (nodup_nubD ord) fun x => by
      rw [mem_nubD ord, (p1.map (·.1)).mem_iff]
      constructor
      · intro hx
        obtain ⟨z, hz, rfl⟩ := List.mem_map.mp hx
        exact mem z (n2 z hz)
      · intro hx
        rw [← e1] at hx
        obtain ⟨z, hz, rfl⟩ := List.mem_map.mp hx
        have hk := g.all (kyT z) (by rw [List.take_length]; exact List.mem_map.mpr ⟨z, hz, rfl⟩)
        rw [← keyN] at hk
        obtain ⟨d, hd, e⟩ := List.mem_map.mp hk
        obtain ⟨z', hz', rfl⟩ := List.mem_map.mp hd
        rw [nkD_inj (ord _ (mem z hz)) (ord _ (mem z' (n2 z' hz'))) e.symm]
        exact List.mem_map.mpr ⟨z', hz', rfl⟩
    have es := tri_sorted (zs := zs) eB I2.hok kx hz' (fun d hd => ord d ((mem_nubD ord).mp hd)) pd (by rw [p2]; exact pw)
    obtain ⟨b1, b2⟩ := tri_back hz'
    rw [es] at b1
    have hlen : (zs'.map (·.2.1)).length ≤ sizeLine := by
      have l1 : N.length = L.length := by rw [← n1, List.length_map]
      have := R.few
      rw [List.length_map, p1.length_eq, l1, sizeLine_eq]; omega
    have hn : H1 d = none := I2.hok.fresh hp
    have J : Inv X pins σ (upd H1 d (.lst (zs'.map (·.2.1)))) { s2 with heap := s'.heap, gens := s'.gens, drawn := s'.drawn, toks := s'.toks } :=
      I2.call (ch := []) (Un.laid k hp hn) (I2.hok.laid k hp ⟨hlen, out, c, by rw [← p2]; exact b2, hg'⟩) (by rw [g']; exact I2.bare) (fun _ z => nomatch z)
    have e : s' = { s2 with heap := s'.heap, gens := s'.gens, drawn := s'.drawn, toks := s'.toks } := by
      cases s'
      cases s2
      cases o
      rfl
    rw [e]
    exact ⟨.ref d, _, J, rfl, q1 _ d b1 hn⟩
end
section
variable {ι : Type} {T : Tab} {E : L2.St → XK} {X : ι → Cx} {pos : Pos} {e : Expr} {fs : M (List D)}
theorem xr_sortSetN {p p2 q : Pos} (hu : Rm X) (hm : ∀ j, (X j).mg "sorted" = none) (hm2 : ∀ j, (X j).mg "set" = none) (ha : XA T E X [e] fs) (hc : ∀ j, (X j).calm = true := by intro j; rfl) (hK : ∀ j, (X j).K = T.K := by intro j; rfl) (hg : ∀ j, Gl (X j) "sorted" := by intro j; rfl) (hg2 : ∀ j, Gl (X j) "set" := by intro j; rfl) (he : ∀ j, starEach [e] (X j).env = (false, eval e (X j).env) :: starEach [] (X j).env := by intro j; rfl) (hpl : ∀ j, (backTo q (starEach [] (X j).env)).any (·.1) = false := by intro j; rfl) : XR T E X (.Call (.Name "sorted" p) [.Call (.Name "set" p2) [e] [] q] [] pos) (rOp gSortSetN fs) :=
  let ⟨_, a1, a2⟩ := ha; ⟨_, fun j => pe_sortSetN (hc j) (hu j) (hK j) (hg j) (hm j) (hg2 j) (hm2 j) (a1 j) (he j) (hpl j), semR_callL p_sortSetN a2⟩
end
end Fz
set_option Elab.async false
set_option linter.all false
set_option maxRecDepth 100000
set_option maxHeartbeats 4000000
namespace Fz
open PySem L2 PySem.Spec PyProof.Rows PySem.SeqAt
section
variable {ι : Type} {T : Tab} {E : L2.St → XK} {X : ι → Cx} {pos : Pos} {e e2 e3 : Expr} {fs : M (List D)}
end
end Fz
set_option Elab.async false
set_option linter.all false
set_option maxRecDepth 100000
set_option maxHeartbeats 4000000
namespace Fz
open PySem L2 PySem.Spec PyProof.Rows
section
variable {T : Tab} {B H : Hp}
def fldNi : R → Option (Nat × List R)
  | .oi c fs => some (c, fs.map .d)
  | .ni c cs => some (c, cs)
  | _ => none
theorem rel_fldNi {r : R} {v : V} {c : Nat} {cs : List R} (h : RelR T B H r v) (e : fldNi r = some (c, cs)) : ∃ a dx fvs, v = .ref a ∧ H a = some (.ins (T.cls c) dx fvs) ∧ fvs.map (·.1) = (T.flds c).take cs.length ∧ RelRs T B H cs (fvs.map (·.2)) ∧ ¬ OwL H cs (fvs.map (·.2)) a ∧
    (∀ b, OwL H cs (fvs.map (·.2)) b → Ow H r v b) ∧ Ow H r v a := by
  cases r with
  | oi c' fs =>
    cases e
    unfold RelR at h
    obtain ⟨a, dx, fvs, rfl, h2, h3, h4⟩ := h
    obtain ⟨g1, g2⟩ := relRs_d (H := H) h4
    exact ⟨a, dx, fvs, rfl, h2, by rw [List.length_map]; exact h3, g1, g2 a, fun b z => absurd z (g2 b), by unfold Ow; rfl⟩
  | ni c' cs' =>
    cases e
    unfold RelR at h
    obtain ⟨a, dx, fvs, rfl, h2, h3, h4, h5⟩ := h
    exact ⟨a, dx, fvs, rfl, h2, h3, h4, h5, fun b z => by unfold Ow; exact .inr ⟨a, _, rfl, .inr (.inr (.inl ⟨_, _, _, h2, rfl⟩)), z⟩, by unfold Ow; exact .inl rfl⟩
  | _ => cases e
end
def sFldR (i : Nat) (ix : Nat → Option Nat) (m : M R) : MS := fun st => match m st with
  | some (.v q, s) => (match s[i]? with
    | some (some r) => (match fldNi r with
      | some (c, cs) => if ix c = some cs.length then some (.nx, s.set i (some (.ni c (cs ++ [q])))) else none
      | none => none)
    | _ => none)
  | some (.x c, s) => some (.x c, s)
  | none => none
section
variable {T : Tab} {E : L2.St → XK} {kp : Nat → Bool}
theorem semS_fldR {i : Nat} {ix : Nat → Option Nat} {f : Str} {tv : TE} {m : M R} (hx : ∀ c i, ix c = some i → ClsOk T c ∧ (T.flds c)[i]? = some f) (h : SemR T E tv m) : SemS T E kp (sFld T.K (tVar i) tv f) (sFldR i ix m) := by
  intro st σ B F H S fl s hf D hD
  unfold sFldR at hf
  split at hf
  · rename_i q s1 e
    split at hf
    · rename_i r hi
      split at hf
      · rename_i c cs hn
        split at hf
        · rename_i hk
          cases hf
          obtain ⟨ok, hfk⟩ := hx c _ hk
          refine h st σ B F H S _ _ e _ fun u B1 H1 e1 S1 => ?_
          obtain ⟨v, hv, rel⟩ := S1.pop.rel i r hi
          obtain ⟨p, dx, fvs, rfl, g2, g3, g4, g5, g6, g7⟩ := rel_fldNi rel hn
          have lf : fvs.length = cs.length := by
            have := congrArg List.length g3
            have l2 := (List.getElem?_eq_some_iff.mp hfk).1
            rw [List.length_map, List.length_take] at this
            omega
          have l2 := (List.getElem?_eq_some_iff.mp hfk).1
          have sm := ok.small
          refine ⟨_, hv, p, T.cls c, dx, fvs, rfl, g2, ok.cls, ok.no f (List.mem_of_getElem? hfk), by omega, ?_⟩
          have hnew : f ∉ fvs.map (·.1) := by
            rw [g3]
            intro hm
            obtain ⟨j, hj⟩ := List.getElem?_of_mem hm
            have hjl : j < cs.length := by have := (List.getElem?_eq_some_iff.mp hj).1; rw [List.length_take] at this; omega
            rw [List.getElem?_take_of_lt hjl] at hj
            have := nodup_ix ok.nd hj hfk
            omega
          have dis : ∀ b, Ow H1 q u b → ¬ Ow H1 r (.ref p) b := fun b h1 h2 => S1.sep 0 (i + 1) q r u _ b (by omega) rfl rfl (by simpa using hi) (by simpa using hv) h1 h2
          have nq : ¬ Ow H1 q u p := fun z => dis p z g7
          obtain ⟨r1, r2⟩ := relRs_snocR S1.top g4 fun b h1 h2 => dis b h1 (g6 b h2)
          have nt : ∀ xs, HO.ins (T.cls c) dx (putF f u fvs) ≠ .tup xs := fun _ z => nomatch z
          have tk : Tk H1 (upd H1 p (.ins (T.cls c) dx (putF f u fvs))) := fun b xs w => by rw [upd_ne (by intro e; subst e; rw [g2] at w; cases w)]; exact w
          have np : ¬ OwL H1 (cs ++ [q]) (fvs.map (·.2) ++ [u]) p := fun z => (r2 p z).elim g5 nq
          have keep : ∀ b o, OwL H1 (cs ++ [q]) (fvs.map (·.2) ++ [u]) b → H1 b = some o → upd H1 p (.ins (T.cls c) dx (putF f u fvs)) b = some o := fun b o z w => by rw [upd_ne (by intro e; subst e; exact np z)]; exact w
          have bk : ∀ b, OwL (upd H1 p (.ins (T.cls c) dx (putF f u fvs))) (cs ++ [q]) (fvs.map (·.2) ++ [u]) b → OwL H1 (cs ++ [q]) (fvs.map (·.2) ++ [u]) b := fun b z => OwL.back tk r1 keep z
          have snd : (putF f u fvs).map (·.2) = fvs.map (·.2) ++ [u] := by rw [putF_new hnew, List.map_append]; rfl
          refine hD σ B1 _ e1 (Kp.refl _ _) (S1.change2 hi hv g7 nt ?_ fun b z => ?_)
          · unfold RelR
            refine ⟨p, dx, _, rfl, upd_same, ?_, by rw [snd]; exact r1.keep (Ex.refl _) tk keep, by rw [snd]; exact fun z => np (bk p z)⟩
            rw [putF_new hnew, List.map_append, g3, List.length_append]
            show _ = (T.flds c).take (cs.length + 1)
            rw [List.take_succ, hfk]; rfl
          · unfold Ow at z
            rcases z with z | ⟨a, xs, z1, z2, z3⟩
            · cases z; exact .inl g7
            · cases z1
              cases HeldAt.inj (.inr (.inr (.inl ⟨_, _, _, upd_same, rfl⟩))) z2
              rw [snd] at z3
              exact (r2 b (bk b z3)).imp (g6 b) id
        · cases hf
      · cases hf
    · cases hf
  · rename_i c s1 e
    cases hf
    exact h st σ B F H S _ _ e _ fun d B1 H1 e1 S1 => hD d σ B1 H1 e1 (Kp.refl _ _) S1
  · cases hf
theorem xs_fldR {ι : Type} {X : ι → Cx} {pos : Pos} {e : Expr} {x : Str} {fr : M R} (i : Nat) {ix : Nat → Option Nat} {f : Str} {p pos' : Pos} (hx : ∀ c i, ix c = some i → ClsOk T c ∧ (T.flds c)[i]? = some f) (hv : XR T E X e fr) (hN : ∀ j, (X j).N[i]? = some x := by intro j; rfl) (hvis : ∀ j, Vis (X j).env.scope x := by intro j; first | exact Or.inl rfl | exact Or.inr (Or.inl rfl) | exact Or.inr (Or.inr rfl))
    (hd : (x == ("__debug__" : Str)) = false := by decide +kernel) (hcd : (x == ("__classdict__" : Str)) = false := by decide +kernel) (hK : ∀ j, (X j).K = T.K := by intro j; rfl) (hs : ∀ j, swapsWith e (some (.Attribute (.Name x p) f pos')) pos.line (X j).env = pure false := by intro j; rfl) : XS T E X kp (.Assign [.Attribute (.Name x p) f pos'] e pos) (sFldR i ix fr) :=
  let ⟨_, a1, a2⟩ := hv; ⟨_, fun j => by rw [← hK j]; exact ps_fld (pe_var (hN j) (hvis j) hd hcd) (a1 j) (hs j), semS_fldR hx a2⟩
end
def rMakeR (c nf n : Nat) (F : Fn) (fl : M (List Arg)) : M R := bnd fl fun as => fun st => if as.length + 1 = n then (match callF F (.o 0 :: as.map upA) (some (.oi c []) :: st) with
  | some (.v (.d .non), some (.ni c' cs) :: s) => if c' = c ∧ cs.length = nf then some (.v (.ni c cs), s) else none
  | some (.x k, _ :: s) => some (.x k, s)
  | _ => none) else none
section
variable {T : Tab} {E : L2.St → XK} {fl : M (List Arg)}
theorem semR_makeR {c nf n : Nat} {F : Fn} {ta : TA} (ha : SemAA T E ta fl) : SemR T E (tMakeS (T.cls c) (sp T n F) [] E ta) (rMakeR c nf n F fl) := by
  intro st σ B Fr H S o s h Q hQ
  rcases bnd_some h with ⟨k, e1, rfl⟩ | ⟨as, s1, e1, h2⟩
  · exact ha st σ B Fr H S _ _ e1 _ hQ
  · refine ha st σ B Fr H S _ _ e1 _ fun B1 H1 x1 S1 vs hvs => ?_
    intro x dx hx hd ne
    have hQ1 : Okr T (E σ) o s σ B1 Fr (fun v _ H' => Q v H') := by
      cases o with
      | v r => exact fun v B2 H2 x2 S2 => hQ v B2 H2 (x1.trans x2) S2
      | x c => exact fun d B2 H2 x2 S2 => hQ d B2 H2 (x1.trans x2) S2
    split at h2
    · rename_i hn
      have SI := S1.fresh_ins (T := T) (c := c) hx hd ne
      have hA : ArgsAre T B1 (some (V.ref x) :: σ) (Arg.o 0 :: as.map upA) (V.ref x :: vs) := .cons rfl (args_up hvs)
      have l := Paired.length hA
      rw [List.length_cons, List.length_map, hn] at l
      rw [List.append_nil, l]
      split at h2
      · rename_i c' cs s' ec
        split at h2
        · rename_i hc
          obtain ⟨rfl, hnf⟩ := hc
          cases h2
          refine okx_call SI hA ec fun v B2 H2 x2 S2 => ?_
          have e0 : Rep T B2 .non v := S2.top
          cases rep_non e0
          exact ⟨rfl, hQ1 _ B2 H2 x2 S2.pop⟩
        · cases h2
      · rename_i k s0 s' ec
        cases h2
        exact okx_call SI hA ec fun d B2 H2 x2 S2 => hQ1 d B2 H2 x2 S2.pop
      · cases h2
    · cases h2
theorem xr_makeR {ι : Type} {X : ι → Cx} {pos : Pos} {e : Expr} {es : List Expr} {x : Str} {c nf n : Nat} {F : Fn} {p : Pos} (hf : ∀ j, MakeAt (X j) T E x c n F) (ha : XAA T E X (e :: es) fl)
    (hg : ∀ j, Gl (X j) x := by intro j; rfl) (hdb : (x == ("__debug__" : Str)) = false := by decide +kernel) (he : ∀ j, starEach (e :: es) (X j).env = (false, eval e (X j).env) :: starEach es (X j).env := by intro j; rfl) (hpl : ∀ j, (backTo pos (starEach es (X j).env)).any (·.1) = false := by intro j; rfl) :
    XR T E X (.Call (.Name x p) (e :: es) [] pos) (rMakeR c nf n F fl) := by
  obtain ⟨t, a1, a2⟩ := ha
  refine ⟨tMakeS (T.cls c) (sp T n F) [] E t, fun j => ?_, semR_makeR a2⟩
  obtain ⟨f, fd, ps, CX, k, h1, h2, h3, h4, h5, h6⟩ := (hf j).ex
  exact pe_makeS h2 h4 h5 (hg j) h1 h3 .nil h6 (a1 j) hdb (he j) (hpl j)
end
mutual
def immR : R → Bool
  | .d x => imm x
  | .ol xs => imms xs
  | .oi _ fs => imms fs
  | .od ks vs => ks.all imm && imms vs
  | .nl cs => immRs cs
  | .nt cs => immRs cs
  | .ni _ cs => immRs cs
  | .nd ks cs => ks.all imm && immRs cs
def immRs : List R → Bool
  | [] => true
  | r :: rs => immR r && immRs rs
end
section
variable {T : Tab} {B B' H : Hp}
end
def rFullN (n : Nat → Nat) (f : M R) : M R := fun st => match f (vwN n st) with
  | some (.v r, _) => if immR r = true then some (.v r, st) else none
  | some (.x c, _) => some (.x c, st)
  | none => none
section
variable {T : Tab} {E : L2.St → XK}
end
end Fz
set_option Elab.async false
set_option linter.all false
set_option maxRecDepth 100000
set_option maxHeartbeats 4000000
namespace Fz
open PySem L2
def fldR (ix : Nat → Option Nat) (q : R) : Option (Option R) → Option R
  | some (some r) => (match fldNi r with
    | some (c, cs) => if ix c = some cs.length then some (.ni c (cs ++ [q])) else none
    | none => none)
  | _ => none
theorem fldR_oi {ix : Nat → Option Nat} {q : R} {c : Nat} {fs : List D} (h : ix c = some fs.length) : fldR ix q (some (some (.oi c fs))) = some (.ni c (fs.map R.d ++ [q])) := by
  show (if ix c = some (fs.map R.d).length then _ else _) = _
  rw [List.length_map]
  exact if_pos h
theorem fldR_ni {ix : Nat → Option Nat} {q : R} {c : Nat} {cs : List R} (h : ix c = some cs.length) : fldR ix q (some (some (.ni c cs))) = some (.ni c (cs ++ [q])) := if_pos h
def kFsR (i : Nat) (QS : Fl → Sl → Prop) (s : Sl) : R → Prop := fun r => QS .nx (s.set i (some r))
theorem kFsR_a {i : Nat} {QS : Fl → Sl → Prop} {s : Sl} {r : R} : kFsR i QS s r = QS .nx (s.set i (some r)) := rfl
def kFldR (i : Nat) (ix : Nat → Option Nat) (QS : Fl → Sl → Prop) : Oc R → Sl → Prop := fun o s => match o with
  | .v x => wo (fldR ix x s[i]?) (kFsR i QS s)
  | .x c => QS (.x c) s
theorem kFldR_v {i : Nat} {ix : Nat → Option Nat} {QS : Fl → Sl → Prop} {x : R} {s : Sl} : kFldR i ix QS (.v x) s = wo (fldR ix x s[i]?) (kFsR i QS s) := rfl
theorem n_sFldR {i : Nat} {ix : Nat → Option Nat} {m : M R} {st : Sl} {QS : Fl → Sl → Prop} : ws (sFldR i ix m) st QS = wp m st (kFldR i ix QS) := by
  unfold ws wp sFldR
  cases m st with
  | none => rfl
  | some p =>
    obtain ⟨o, s⟩ := p
    cases o with
    | x c => rfl
    | v x =>
      show _ = wo (fldR ix x s[i]?) (kFsR i QS s)
      cases h : s[i]? with
      | none => simp [h, fldR, wo]
      | some z =>
        cases z with
        | none => simp [h, fldR, wo]
        | some r =>
          unfold fldR
          cases hn : fldNi r with
          | none => simp [h, hn, wo]
          | some q =>
            obtain ⟨c, cs⟩ := q
            by_cases hc : ix c = some cs.length
            · simp [h, hn, hc, wo, kFsR]
            · simp [h, hn, hc, wo]
def mkR (c nf : Nat) (Q : Oc R → Sl → Prop) : Oc R → Sl → Prop
  | .v (.d .non), some (.ni c2 cs) :: s => wc (c2 = c ∧ cs.length = nf) (ku Q (.ni c cs) s)
  | .x k, _ :: s => Q (.x k) s
  | _, _ => False
theorem mkR_v {c nf c2 : Nat} {Q : Oc R → Sl → Prop} {cs : List R} {s : Sl} : mkR c nf Q (.v (.d .non)) (some (.ni c2 cs) :: s) = wc (c2 = c ∧ cs.length = nf) (ku Q (.ni c cs) s) := rfl
theorem mkR_x {c nf k : Nat} {Q : Oc R → Sl → Prop} {a : Option R} {s : Sl} : mkR c nf Q (.x k) (a :: s) = Q (.x k) s := by
  cases a with
  | none => rfl
  | some r => rfl
def kMrU (c nf : Nat) (F : Fn) (as : List Arg) (Q : Oc R → Sl → Prop) (s : Sl) : Unit → Prop := fun _ => wp (callF F (.o 0 :: as.map upA)) (some (.oi c []) :: s) (mkR c nf Q)
theorem kMrU_a {c nf : Nat} {F : Fn} {as : List Arg} {Q : Oc R → Sl → Prop} {s : Sl} : kMrU c nf F as Q s () = wp (callF F (.o 0 :: as.map upA)) (some (.oi c []) :: s) (mkR c nf Q) := rfl
def kMr (c nf n : Nat) (F : Fn) (Q : Oc R → Sl → Prop) : Oc (List Arg) → Sl → Prop := vx Q fun as s => wc (as.length + 1 = n) (kMrU c nf F as Q s)
theorem kMr_v {c nf n : Nat} {F : Fn} {Q : Oc R → Sl → Prop} {as : List Arg} {s : Sl} : kMr c nf n F Q (.v as) s = wc (as.length + 1 = n) (kMrU c nf F as Q s) := rfl
theorem n_rMakeR {c nf n : Nat} {F : Fn} {fl : M (List Arg)} {st : Sl} {Q : Oc R → Sl → Prop} : wp (rMakeR c nf n F fl) st Q = wp fl st (kMr c nf n F Q) := by
  unfold rMakeR
  rw [wp_bnd]
  refine congrArg _ ?_
  funext o s
  cases o with
  | x k => rfl
  | v as =>
    show wp (fun st => if as.length + 1 = n then _ else none) s Q = wc (as.length + 1 = n) (kMrU c nf F as Q s)
    unfold wc wa kMrU wp
    by_cases h : as.length + 1 = n
    · simp only [h, if_true, true_and]
      cases callF F (.o 0 :: as.map upA) (some (.oi c []) :: s) with
      | none => rfl
      | some p =>
        obtain ⟨o, s2⟩ := p
        cases o with
        | x k =>
          cases s2 with
          | nil => rfl
          | cons a s2 => exact mkR_x.symm
        | v r =>
          cases r with
          | d x =>
            cases x <;> try rfl
            cases s2 with
            | nil => rfl
            | cons a s2 =>
              cases a with
              | none => rfl
              | some r2 =>
                cases r2 <;> try rfl
                rename_i c2 cs
                simp only [mkR, wc, wa, ku]
                by_cases h2 : c2 = c ∧ cs.length = nf
                · simp [h2]
                · simp [h2]
          | _ => rfl
    · simp only [h, if_false, false_and]
def rfn (QR : Oc R → Sl → Prop) (st : Sl) : Oc R → Sl → Prop
  | .v r, _ => wc (immR r = true) (kU (fun r => QR (.v r) st) r)
  | .x c, _ => QR (.x c) st
theorem rfn_v {QR : Oc R → Sl → Prop} {st s : Sl} {r : R} : rfn QR st (.v r) s = wc (immR r = true) (kU (fun r => QR (.v r) st) r) := rfl
theorem n_rFullN {n : Nat → Nat} {fr : M R} {st : Sl} {QR : Oc R → Sl → Prop} : wp (rFullN n fr) st QR = wpe fr (vwN n st) (rfn QR st) := by
  apply propext
  show _ ↔ wp fr (vwN n st) (rfn QR st)
  rw [wp_iff, wp_iff]
  constructor
  · rintro ⟨o, s, e, h⟩
    unfold rFullN at e
    split at e
    · rename_i r s1 e1
      split at e
      · rename_i hi; cases e; exact ⟨_, s1, e1, hi, h⟩
      · cases e
    · rename_i c s1 e1
      cases e; exact ⟨_, s1, e1, h⟩
    · cases e
  · rintro ⟨o, s1, e1, h⟩
    cases o with
    | x c => exact ⟨.x c, st, by unfold rFullN; rw [e1], h⟩
    | v r => obtain ⟨h1, h2⟩ := h; exact ⟨.v r, st, by unfold rFullN; rw [e1]; exact if_pos h1, h2⟩
theorem immR_ni {c : Nat} {cs : List R} : immR (.ni c cs) = immRs cs := rfl
theorem immR_d {x : D} : immR (.d x) = imm x := rfl
theorem immR_ol {xs : List D} : immR (.ol xs) = imms xs := rfl
theorem immRs_nil : immRs [] = true := rfl
theorem immRs_cons {r : R} {rs : List R} : immRs (r :: rs) = (immR r && immRs rs) := rfl
end Fz
set_option Elab.async false
set_option linter.all false
set_option maxRecDepth 100000
set_option maxHeartbeats 4000000
namespace Fz
open PySem L2 PySem.Spec PyProof.Rows PySem.SeqAt
theorem ent_vals {w : World} : ∀ {es : List (KX × V)} {en : List DictEntry}, Paired (entOk w) es en → Vals (es.map fun e => e.1.vv) (en.map fun e => e.key)
  | _, _, .nil => .nil
  | _, _, .cons h t => .cons (KX.rel h.2.1) (ent_vals t)
def rSortDN (T : Tab) : List V → Hp → VK → Prop := fun vs H Q => ∃ B a ep es ds, vs = [V.ref a] ∧ Ex B H ∧ H a = some (dG T.w a ep es) ∧ DGOk a es ∧ Reps T B ds (es.map fun e => e.1.vv) ∧ sortOk ds = true ∧ ∀ ys p, Reps T B (sortD ds) ys → H p = none → Q (.ref p) (upd H p (.lst ys))
theorem cr_sortDN {X : Cx} {T : Tab} (hc : X.calm = true) (hu : X.A.units + 65 < cLine) (hK : X.K = T.K) (hw : X.w = T.w) : CallR X (.builtin "sorted") (rSortDN T) := by
  intro pins s σ H vs us Q I r h
  obtain ⟨B, a, ep, es, ds, rfl, eB, h1, h2, hr, so, q⟩ := h
  obtain ⟨u, rfl, ru⟩ := vals1 r
  obtain rfl : u = Value.ref a := ru
  rw [← hw] at h1
  obtain ⟨en, raw, pr⟩ := dg_raw I.hok h1
  have l := ent_len pr
  have z := h2.len
  have rv := ent_vals pr
  have kx : T.K.In s.heap := by rw [← hK]; exact I.kIn
  have ord : ∀ d ∈ ds, ordD d = true := fun d hd => (sortOk_ord so d hd).1
  refine Calls.call_function_entry kind_sorted plain_sorted entry_sorted (args_sorted1 _) ?_
  unfold Builtin.«sorted»
  refine wpAny_bind (m := checkCount "sorted" 1 1 _) (wpAny_pure ?_)
  refine wpAny_bind (PySem.W.kdu_collect (A := X.A.in1) (KdlSrc.rawDict (prog := X.prog) (w := X.w) h2.sm) (I.ok.hd hc) raw (by omega) fun h' tk acc hk it => ?_)
  have ea : acc.toList = en.toList.map fun e => e.key := by
    refine List.ext_getElem? fun j => ?_
    rw [List.getElem?_map, Array.getElem?_toList, Array.getElem?_toList]
    by_cases hj : j < acc.size
    · have hje : j < en.size := by rw [← it.1]; exact hj
      obtain ⟨_, e⟩ := it.2 j _ (Array.getElem?_eq_getElem hj)
      rw [Array.getElem?_eq_getElem hj, Array.getElem?_eq_getElem hje, e]
      rfl
    · have hje : ¬ j < en.size := by rw [← it.1]; exact hj
      rw [Array.getElem?_eq_none (by omega), Array.getElem?_eq_none (by omega)]
      rfl
  rw [← ea] at rv
  have nos := nos_of I.hok kx ds (hr.mono eB) rv (ordDs_all ord)
  obtain ⟨zs, e1, e2, e3⟩ := tri_of hr rv
  generalize acc.toList = vs at rv nos e2
  have lv : vs.length = es.length := by rw [← rv.length, List.length_map]
  have hbig : vs.length ≤ sizeLine := by omega
  refine wpAny_bind (wpAny_newList ?_ hbig)
  have hoL : (h'.push (seqObj "list" vs.toArray 0)).get? h'.objs.size = some (seqObj "list" vs.toArray 0) := Heap.get?_push_size _ rfl
  have kk : ∀ b u, s.heap.get? b = some u → (h'.push (seqObj "list" vs.toArray 0)).get? b = some u := fun b u e => Heap.get?_push_of_some _ (hk b u e)
  have st : ∀ b u, s.heap.get? b = some u → u.cls = .type "tuple" → (h'.push (seqObj "list" vs.toArray 0)).get? b = some u := fun b u e _ => kk b u e
  refine wpAny_bind (wpAny_holding (wpAny_call_entry slot_list_sort ⟨_, hoL, rfl⟩ entry_list_sort (SrtO.list_sort_ord (kLt_swo (keyOf s.heap)) hoL hbig (fun h2' => ?_) fun out hs hb => ⟨_, rfl, ?_⟩) (args_list_sort _)))
  · have := n_sortable (P := X.prog) (w := X.w) (A := X.A.in1.in1) (s := { s with heap := h'.push (seqObj "list" vs.toArray 0), toks := tk }) (a := h'.objs.size) (nos.stay st) (sortOk_key so) (fun k hk => by
        obtain ⟨x, hx, rfl⟩ := List.mem_map.mp hk
        have := (sortOk_ord so x hx).2.2.1
        show X.A.units + 1 + 1 + _ < _
        omega) (by omega) fun o e => by
      have e' : some o = some (seqObj "list" vs.toArray 0) := e.symm.trans hoL
      cases e'
      intro c
      exact absurd (Value.type.inj c) (by decide)
    intro h1' keep
    obtain ⟨κ, a1, a2⟩ := this h1' keep
    refine ⟨κ, a1, fun x y hx hy => ?_⟩
    have := a2 x y hx hy
    obtain ⟨k, _, n1⟩ := nos.mem x.1 hx
    obtain ⟨l, _, n2⟩ := nos.mem y.1 hy
    have e1 : keyOf (h'.push (seqObj "list" vs.toArray 0)) x.1 = keyOf s.heap x.1 := (keyOf_eq (n1.stay st)).trans (keyOf_eq n1).symm
    have e2 : keyOf (h'.push (seqObj "list" vs.toArray 0)) y.1 = keyOf s.heap y.1 := (keyOf_eq (n2.stay st)).trans (keyOf_eq n2).symm
    show wpAny _ _ _ (fun r s' => s' = _ ∧ r = kLt (keyOf s.heap x.1) (keyOf s.heap y.1)) _ _
    rw [← e1, ← e2]
    exact this
  · obtain ⟨c, hc'⟩ := sortedHeap_at (vs := vs) (out := out.toArray) hoL
    obtain ⟨zs', p1, p2⟩ := perm_lift (fun z : Tri => z.2.2) hb.perm zs e2
    have hz' : ∀ z ∈ zs', Rep T B z.1 z.2.1 ∧ RelV z.2.1 z.2.2 := fun z hz => e3 z (p1.mem_iff.mp hz)
    have es' := tri_sorted (zs := zs) eB I.hok kx hz' ord (by rw [← e1]; exact p1.map _) (by rw [p2]; exact hs)
    obtain ⟨b1, b2⟩ := tri_back hz'
    rw [es'] at b1
    have hlen : (zs'.map (·.2.1)).length ≤ sizeLine := by
      have l1 : zs.length = vs.length := by rw [← e2, List.length_map]
      rw [List.length_map, p1.length_eq, l1]; exact hbig
    have hno : s.heap.get? h'.objs.size = none := by
      cases y : s.heap.get? h'.objs.size with
      | none => rfl
      | some o => exact absurd (Heap.lt_size (hk _ _ y)) (Nat.lt_irrefl _)
    have hn : H h'.objs.size = none := I.hok.gone hno
    have ext : ∀ b o, s.heap.get? b = some o → (sortedHeap (h'.push (seqObj "list" vs.toArray 0)) h'.objs.size vs out.toArray).get? b = some o := fun b o e => by
      have q1 := hk b o e
      have hlt := Heap.lt_size q1
      rw [sortedHeap_old (Nat.ne_of_lt hlt) (by rw [size_push']; exact Nat.lt_succ_of_lt hlt)]
      exact Heap.get?_push_of_some _ q1
    have J := I.laidN (o := .lst (zs'.map (·.2.1))) (t' := tk) ext hno hn ⟨hlen, out, c, by rw [← p2]; exact b2, hc'⟩
    exact wpAny_pure ⟨_, rfl, .ref h'.objs.size, _, J, rfl, q _ _ b1 hn⟩
def gSortDN : List D → Option (List D)
  | [.dct ks _] => if sortOk ks = true ∧ okKs ks = true then some (sortD ks) else none
  | _ => none
theorem p_sortDN {T : Tab} : PrimL T (rSortDN T) gSortDN := by
  intro xs zs vs B H Q e hx hz k
  unfold gSortDN at hz
  split at hz
  · split at hz
    · rename_i hs
      cases hz
      obtain ⟨v, rfl, r⟩ := reps1 hx
      rw [rep_dct] at r
      obtain ⟨a, xs, rfl, ⟨ep, es, g1, g2, g3, rfl⟩, _⟩ := r
      have := krep_vv g3 hs.2
      rw [List.map_map] at this
      exact ⟨B, a, ep, es, _, rfl, e, e a _ g1, g2, this, hs.1, fun zs p hr hn => k p zs B H (.refl e) hn hr⟩
    · cases hz
  · cases hz
section
variable {ι : Type} {T : Tab} {E : L2.St → XK} {X : ι → Cx} {pos : Pos} {e : Expr} {fs : M (List D)}
theorem xr_sortDN {p : Pos} (hu : Rm X) (hm : ∀ j, (X j).mg "sorted" = none) (ha : XA T E X [e] fs) (hc : ∀ j, (X j).calm = true := by intro j; rfl) (hK : ∀ j, (X j).K = T.K := by intro j; rfl) (hW : ∀ j, (X j).w = T.w := by intro j; rfl) (hg : ∀ j, Gl (X j) "sorted" := by intro j; rfl) (he : ∀ j, starEach [e] (X j).env = (false, eval e (X j).env) :: starEach [] (X j).env := by intro j; rfl) (hpl : ∀ j, (backTo pos (starEach [] (X j).env)).any (·.1) = false := by intro j; rfl) : XR T E X (.Call (.Name "sorted" p) [e] [] pos) (rOp gSortDN fs) :=
  xr_callB (fun j => cr_sortDN (hc j) (hu j) (hK j) (hW j)) p_sortDN hm (by decide +kernel) ha hg (by decide +kernel) (by decide +kernel) he hpl
end
end Fz
set_option Elab.async false
set_option linter.all false
set_option maxRecDepth 100000
set_option maxHeartbeats 0
namespace K52
open PySem L2 PySem.Spec PyProof.Rows Fz
abbrev N_Machine___init__ : List Str := ["self", "names", "bells", "steps"]
abbrev P_Machine___init__ : List Str := ["self", "names", "bells", "steps"]
theorem sc_Machine___init__ : FnScope N_Machine___init__ P_Machine___init__ (defScope s_Machine___init__) := ⟨rfl, rfl, rfl, by decide +kernel, rfl, by decide +kernel, by decide +kernel⟩
abbrev N_Machine_count : List Str := ["self", "step"]
abbrev P_Machine_count : List Str := ["self"]
theorem sc_Machine_count : FnScope N_Machine_count P_Machine_count (defScope s_Machine_count) := ⟨rfl, rfl, rfl, by decide +kernel, rfl, by decide +kernel, by decide +kernel⟩
abbrev N_steps_by_state : List Str := ["machine", "found", "state", "moment", "target", "rung"]
abbrev P_steps_by_state : List Str := ["machine"]
theorem sc_steps_by_state : FnScope N_steps_by_state P_steps_by_state (defScope s_steps_by_state) := ⟨rfl, rfl, rfl, by decide +kernel, rfl, by decide +kernel, by decide +kernel⟩
abbrev N_finer : List Str := ["told", "places", "known", "found", "steps", "look", "moment", "target", "rung"]
abbrev P_finer : List Str := ["told", "places"]
theorem sc_finer : FnScope N_finer P_finer (defScope s_finer) := ⟨rfl, rfl, rfl, by decide +kernel, rfl, by decide +kernel, by decide +kernel⟩
abbrev N_class_places : List Str := ["machine", "told", "places", "fresh", "steps"]
abbrev P_class_places : List Str := ["machine"]
theorem sc_class_places : FnScope N_class_places P_class_places (defScope s_class_places) := ⟨rfl, rfl, rfl, by decide +kernel, rfl, by decide +kernel, by decide +kernel⟩
abbrev N_classes_of : List Str := ["machine", "places", "found", "state", "number"]
abbrev P_classes_of : List Str := ["machine"]
theorem sc_classes_of : FnScope N_classes_of P_classes_of (defScope s_classes_of) := ⟨rfl, rfl, rfl, by decide +kernel, rfl, by decide +kernel, by decide +kernel⟩
abbrev N_folded : List Str := ["machine", "places", "steps", "state", "moment", "target", "rung"]
abbrev P_folded : List Str := ["machine"]
theorem sc_folded : FnScope N_folded P_folded (defScope s_folded) := ⟨rfl, rfl, rfl, by decide +kernel, rfl, by decide +kernel, by decide +kernel⟩
abbrev N__law_cell_at : List Str := ["_law_script", "_law_k"]
abbrev P__law_cell_at : List Str := ["_law_script", "_law_k"]
theorem sc__law_cell_at : FnScope N__law_cell_at P__law_cell_at (defScope s__law_cell_at) := ⟨rfl, rfl, rfl, by decide +kernel, rfl, by decide +kernel, by decide +kernel⟩
abbrev N__law_mixed : List Str := ["_law_script", "_law_start", "_law_many", "_law_found", "_law_more", "_law_k"]
abbrev P__law_mixed : List Str := ["_law_script", "_law_start", "_law_many"]
theorem sc__law_mixed : FnScope N__law_mixed P__law_mixed (defScope s__law_mixed) := ⟨rfl, rfl, rfl, by decide +kernel, rfl, by decide +kernel, by decide +kernel⟩
abbrev N__law_marks_by : List Str := ["_law_cell", "_law_some"]
abbrev P__law_marks_by : List Str := ["_law_cell"]
theorem sc__law_marks_by : FnScope N__law_marks_by P__law_marks_by (defScope s__law_marks_by) := ⟨rfl, rfl, rfl, by decide +kernel, rfl, by decide +kernel, by decide +kernel⟩
abbrev N__law_moment_of : List Str := ["_law_marks", "_law_bits", "_law_found", "_law_mark"]
abbrev P__law_moment_of : List Str := ["_law_marks", "_law_bits"]
theorem sc__law_moment_of : FnScope N__law_moment_of P__law_moment_of (defScope s__law_moment_of) := ⟨rfl, rfl, rfl, by decide +kernel, rfl, by decide +kernel, by decide +kernel⟩
abbrev N__law_steps_by : List Str := ["_law_cells", "_law_marks", "_law_many", "_law_bells", "_law_found", "_law_cell", "_law_moment", "_law_rung", "_law_bell"]
abbrev P__law_steps_by : List Str := ["_law_cells", "_law_marks", "_law_many", "_law_bells"]
theorem sc__law_steps_by : FnScope N__law_steps_by P__law_steps_by (defScope s__law_steps_by) := ⟨rfl, rfl, rfl, by decide +kernel, rfl, by decide +kernel, by decide +kernel⟩
abbrev N__law_doubled : List Str := ["_law_steps", "_law_cells", "_law_found", "_law_k", "_law_state", "_law_moment", "_law_target", "_law_rung", "_law_copy", "_law_more"]
abbrev P__law_doubled : List Str := ["_law_steps", "_law_cells"]
theorem sc__law_doubled : FnScope N__law_doubled P__law_doubled (defScope s__law_doubled) := ⟨rfl, rfl, rfl, by decide +kernel, rfl, by decide +kernel, by decide +kernel⟩
abbrev N__law_machine_by : List Str := ["_law_cells", "_law_marks", "_law_bells", "_law_steps"]
abbrev P__law_machine_by : List Str := ["_law_cells", "_law_marks"]
theorem sc__law_machine_by : FnScope N__law_machine_by P__law_machine_by (defScope s__law_machine_by) := ⟨rfl, rfl, rfl, by decide +kernel, rfl, by decide +kernel, by decide +kernel⟩
abbrev N__law_follows : List Str := ["_law_one", "_law_other", "_law_near_here", "_law_moment", "_law_target", "_law_rung", "_law_m", "_law_t", "_law_r"]
abbrev P__law_follows : List Str := ["_law_one", "_law_other", "_law_near_here"]
theorem sc__law_follows : FnScope N__law_follows P__law_follows (defScope s__law_follows) := ⟨rfl, rfl, rfl, by decide +kernel, rfl, by decide +kernel, by decide +kernel⟩
abbrev N__law_near : List Str := ["_law_steps", "_law_many", "_law_told", "_law_near_here", "_law_changed", "_law_one", "_law_other", "_law_both", "_law_state", "_law_step"]
abbrev P__law_near : List Str := ["_law_steps"]
theorem sc__law_near : FnScope N__law_near P__law_near (defScope s__law_near) := ⟨rfl, rfl, rfl, by decide +kernel, rfl, by decide +kernel, by decide +kernel⟩
abbrev N__law_classes : List Str := ["_law_steps", "_law_near_here", "_law_found", "_law_state", "_law_other"]
abbrev P__law_classes : List Str := ["_law_steps"]
theorem sc__law_classes : FnScope N__law_classes P__law_classes (defScope s__law_classes) := ⟨rfl, rfl, rfl, by decide +kernel, rfl, by decide +kernel, by decide +kernel⟩
abbrev N__law_between : List Str := ["_law_steps", "_law_places", "_law_number", "_law_row", "_law_state", "_law_found", "_law_moment", "_law_target", "_law_rung"]
abbrev P__law_between : List Str := ["_law_steps"]
theorem sc__law_between : FnScope N__law_between P__law_between (defScope s__law_between) := ⟨rfl, rfl, rfl, by decide +kernel, rfl, by decide +kernel, by decide +kernel⟩
abbrev N__law_so : List Str := ["_law_found", "_law_names", "_law_bells", "_law_due"]
abbrev P__law_so : List Str := ["_law_found", "_law_names", "_law_bells", "_law_due"]
theorem sc__law_so : FnScope N__law_so P__law_so (defScope s__law_so) := ⟨rfl, rfl, rfl, by decide +kernel, rfl, by decide +kernel, by decide +kernel⟩
abbrev N__law_right_by : List Str := ["_law_script", "_law_cells", "_law_marks", "_law_names", "_law_bells", "_law_steps", "_law_machine", "_law_due", "_law_found", "_law_k", "_law_step"]
abbrev P__law_right_by : List Str := ["_law_script"]
theorem sc__law_right_by : FnScope N__law_right_by P__law_right_by (defScope s__law_right_by) := ⟨rfl, rfl, rfl, by decide +kernel, rfl, by decide +kernel, by decide +kernel⟩
abbrev N_law : List Str := ["_law_script", "_law_some"]
abbrev P_law : List Str := ["_law_script"]
theorem sc_law : FnScope N_law P_law (defScope s_law) := ⟨rfl, rfl, rfl, by decide +kernel, rfl, by decide +kernel, by decide +kernel⟩
def clsN : Nat → Str
  | 0 => "Machine"
  | _ => ""
def flds : Nat → List Str
  | 0 => ["names", "bells", "steps"]
  | _ => []
abbrev nf : Nat → Nat := fun c => (flds c).length
abbrev tb (w : World) (K : PySem.W.Frag) : Tab := ⟨K, fun c => He.ga K (clsN c), flds, xoT K clsN, w⟩
def is_Machine : Nat → Option Bool
  | 0 => some true
  | _ => none
def ix_bells : Nat → Option Nat
  | 0 => some 1
  | _ => none
def ix_names : Nat → Option Nat
  | 0 => some 0
  | _ => none
def ix_steps : Nat → Option Nat
  | 0 => some 2
  | _ => none
abbrev k0 : Nat → Bool := fun i => i == 0
abbrev kNo : Nat → Bool := fun _ => false
def b_Machine___init__ : MS := (sSeq (sFldR 0 ix_names (rD (eVar 1))) (sSeq (sFldR 0 ix_bells (rD (eVar 2))) (sFldR 0 ix_steps (rOp dList (eCons (eVar 3) eNil)))))
def F_Machine___init__ : Fn := fnOf 4 4 k0 b_Machine___init__
def b_Machine_count : MS := (sRet (rD (eBin dAdd (ret (.int 1)) (eMaxD (eCons (eFz nf (rLc (iSeq (eFld ix_steps (eVar 0))) (gN 1) cYes (eOp dMax2 (eCons (eBin dIx (eVar 1) (ret (.int 0))) (eCons (eBin dIx (eVar 1) (ret (.int 2))) eNil))) [1])) eNil) (ret (.int 0))))))
def F_Machine_count : Fn := fnOf 1 2 kNo b_Machine_count
def tab_count : Nat → Option Fn
  | 0 => some F_Machine_count
  | _ => none
def b_steps_by_state : MS := (sSeq (sSet 1 (rLcR (iR1 (eCons (eFz nf (rMeth 1 tab_count (eVar 0) aNil)) eNil)) (gN 2) cYes (rLst eNil) [2])) (sSeq (sFor (iSeq (eFld ix_steps (eVar 0))) (gT 4 (gsC (gN 2) (gsC (gN 3) (gsC (gN 4) (gsC (gN 5) gsN))))) (sDrop (rD (eMut 1 (pIx nf 1 (pName 1) (eVar 2)) (aHid 1 (eCons (eTup (eCons (eVar 3) (eCons (eVar 4) (eCons (eVar 5) eNil)))) eNil)) opApp)))) (sRet (rMv 1))))
def F_steps_by_state : Fn := fnOf 1 6 kNo b_steps_by_state
def b_finer : MS := (sSeq (sSet 2 rDct0) (sSeq (sSet 3 (rLst eNil)) (sSeq (sFor (iLst (eVar 0)) (gN 4) (sSeq (sSet 5 (rD (eOp dTuple (eCons (eFz nf (rOp gSortSetN (eCons (eFz nf (rLc (iSeq (eVar 4)) (gT 3 (gsC (gN 6) (gsC (gN 7) (gsC (gN 8) gsN)))) cYes (eTup (eCons (eVar 6) (eCons (eBin dIx (eVar 1) (eVar 7)) (eCons (eVar 8) eNil)))) [6, 7, 8])) eNil))) eNil)))) (sApp' 3 (eMut 2 (pName 2) (aFull nf (eCons (eVar 5) (eCons (eOp dLenD (eCons (eVar 2) eNil)) eNil))) opSetd)))) (sRet (rMv 3)))))
def F_finer : Fn := fnOf 2 9 kNo b_finer
def b_class_places : MS := (sSeq (sSet 1 (rCall 1 F_steps_by_state [] (aV (eVar 0) aNil))) (sSeq (sSet 2 (rLc (iLst (eVarO nf 1)) (gN 4) cYes (ret (.int 0)) [4])) (sSeq (sSet 3 (rCall 2 F_finer [] (aV (eVarO nf 1) (aV (eVar 2) aNil)))) (sSeq (whileL (eTst (eBin dGt (eOp dMax1 (eCons (eVar 3) eNil)) (eOp dMax1 (eCons (eVar 2) eNil)))) (sSeq (sSet 2 (rD (eVar 3))) (sSet 3 (rCall 2 F_finer [] (aV (eVarO nf 1) (aV (eVar 2) aNil))))) 100) (sRet (rMv 3))))))
def F_class_places : Fn := fnOf 1 5 kNo b_class_places
def b_classes_of : MS := (sSeq (sSet 1 (rCall 1 F_class_places [] (aV (eVar 0) aNil))) (sSeq (sSet 2 (rLcR (iR1 (eCons (eBin dAdd (eOp dMax1 (eCons (eVar 1) eNil)) (ret (.int 1))) eNil)) (gN 4) cYes (rLst eNil) [4])) (sSeq (sFor (iEn (eCons (eVar 1) eNil)) (gT 2 (gsC (gN 3) (gsC (gN 4) gsN))) (sDrop (rD (eMut 2 (pIx nf 2 (pName 2) (eVar 4)) (aHid 2 (eCons (eVar 3) eNil)) opApp)))) (sRet (rMv 2)))))
def F_classes_of : Fn := fnOf 1 5 kNo b_classes_of
def b_folded : MS := (sSeq (sSet 1 (rCall 1 F_class_places [] (aV (eVar 0) aNil))) (sSeq (sSet 2 rDct0) (sSeq (sFor (iSeq (eFld ix_steps (eVar 0))) (gT 4 (gsC (gN 3) (gsC (gN 4) (gsC (gN 5) (gsC (gN 6) gsN))))) (sSetA nf 2 (pName 2) (eTup (eCons (eBin dIx (eVar 1) (eVar 3)) (eCons (eVar 4) (eCons (eBin dIx (eVar 1) (eVar 5)) (eCons (eVar 6) eNil))))) (rD (ret (.bl true))))) (sRet (rMakeR 0 3 4 F_Machine___init__ (aV (eFld ix_names (eVar 0)) (aV (eFld ix_bells (eVar 0)) (aV (eFz nf (rOp gSortDN (eCons (eVar 2) eNil))) aNil))))))))
def F_folded : Fn := fnOf 1 7 kNo b_folded
def b__law_cell_at : MS := (sSeq (sIf (eTst (eBin dLt (eVar 1) (eOp dLen (eCons (eVar 0) eNil)))) (sRet (rD (eBin dIx (eVar 0) (eVar 1)))) sNext) (sRet (rD (ret (.int 0)))))
def F__law_cell_at : Fn := fnOf 2 2 kNo b__law_cell_at
def b__law_mixed : MS := (sSeq (sSet 3 (rLst eNil)) (sSeq (sSet 4 (rD (ret (.int 7)))) (sSeq (sFor (iR1 (eCons (eVar 2) eNil)) (gN 5) (sSeq (sSet 4 (rD (eBin dMod (eBin dAdd (eBin dAdd (eBin dAdd (eBin dMul (eVar 4) (ret (.int 48271))) (eFz nf (rCall 2 F__law_cell_at [] (aV (eVar 0) (aV (eBin dAdd (eVar 1) (eVar 5)) aNil))))) (eBin dMul (ret (.int 31)) (eVar 5))) (ret (.int 1))) (ret (.int 2147483647))))) (sApp' 3 (eBin dMod (eBin dAdd (eBin dMul (eVar 4) (eVar 4)) (eBin dMul (ret (.int 16807)) (eVar 4))) (ret (.int 2147483629)))))) (sRet (rMv 3)))))
def F__law_mixed : Fn := fnOf 3 6 kNo b__law_mixed
def b__law_marks_by : MS := (sSeq (sSet 1 (rLst (eCons (eFz nf (rLst (eCons (ret (.str "p")) (eCons (ret (.str "pq")) (eCons (ret (.str "p1")) eNil))))) (eCons (eFz nf (rLst (eCons (ret (.str "a")) (eCons (ret (.str "b")) (eCons (ret (.str "c")) eNil))))) (eCons (eFz nf (rLst (eCons (ret (.str "nots")) (eCons (ret (.str "nott")) (eCons (ret (.str "no1")) eNil))))) (eCons (eFz nf (rLst (eCons (ret (.str "until1")) (eCons (ret (.str "until2")) (eCons (ret (.str "yes1")) eNil))))) eNil)))))) (sSeq (sSet 1 (rBin gCat (eVar 1) (eFz nf (rLst (eCons (eFz nf (rLst (eCons (ret (.str "abcdefgh")) (eCons (ret (.str "abcdefgi")) (eCons (ret (.str "abcdefg")) eNil))))) (eCons (eFz nf (rLst (eCons (ret (.str "b")) (eCons (ret (.str "a")) (eCons (ret (.str "ab")) eNil))))) eNil)))))) (sRet (rD (eBin dIx (eVar 1) (eBin dMod (eVar 0) (ret (.int 6))))))))
def F__law_marks_by : Fn := fnOf 1 2 kNo b__law_marks_by
def b__law_moment_of : MS := (sSeq (sSet 2 (rLst eNil)) (sSeq (sFor (iLst (eVar 0)) (gN 3) (sSeq (sIf (eTst (eBin dEq (eBin dMod (eVar 1) (ret (.int 2))) (ret (.int 1)))) (sApp' 2 (eVar 3)) sNext) (sSet 1 (rD (eBin dDiv (eVar 1) (ret (.int 2))))))) (sRet (rD (eOp dTuple (eCons (eFz nf (rOp gSorted (eCons (eVar 2) eNil))) eNil))))))
def F__law_moment_of : Fn := fnOf 2 4 kNo b__law_moment_of
def b__law_steps_by : MS := (sSeq (sSet 4 rDct0) (sSeq (sFor (iLst (eVar 0)) (gN 5) (sSeq (sSet 6 (rCall 2 F__law_moment_of [] (aV (eVar 1) (aV (eBin dDiv (eVar 5) (ret (.int 72))) aNil)))) (sSeq (sSet 7 (rLc (iR1 (eCons (eVar 3) eNil)) (gN 8) (eTst (eBin dEq (eBin dMod (eBin dDiv (eBin dDiv (eVar 5) (ret (.int 1000))) (eBin dIx (eFz nf (rLst (eCons (ret (.int 1)) (eCons (ret (.int 2)) (eCons (ret (.int 4)) eNil))))) (eVar 8))) (ret (.int 2))) (ret (.int 1)))) (eVar 8) [8])) (sSetA nf 4 (pName 4) (eTup (eCons (eBin dMod (eVar 5) (eVar 2)) (eCons (eVar 6) (eCons (eBin dMod (eBin dDiv (eVar 5) (ret (.int 6))) (eVar 2)) (eCons (eOp dTuple (eCons (eVar 7) eNil)) eNil))))) (rD (ret (.bl true))))))) (sRet (rOp gSortDN (eCons (eVar 4) eNil)))))
def F__law_steps_by : Fn := fnOf 4 9 kNo b__law_steps_by
def b__law_doubled : MS := (sSeq (sSet 2 rDct0) (sSeq (sFor (iR1 (eCons (eOp dLen (eCons (eVar 0) eNil)) eNil)) (gN 3) (sSeq (sAsg (eBin dIx (eVar 0) (eVar 3)) (gT 4 (gsC (gN 4) (gsC (gN 5) (gsC (gN 6) (gsC (gN 7) gsN)))))) (sFor (iR1 (eCons (ret (.int 2)) eNil)) (gN 8) (sSeq (sSet 9 (rD (eBin dMod (eBin dDiv (eBin dIx (eVar 1) (eBin dMod (eBin dAdd (eVar 3) (eVar 8)) (eOp dLen (eCons (eVar 1) eNil)))) (ret (.int 16))) (ret (.int 2))))) (sSetA nf 2 (pName 2) (eTup (eCons (eBin dAdd (eBin dMul (ret (.int 2)) (eVar 4)) (eVar 8)) (eCons (eVar 5) (eCons (eBin dAdd (eBin dMul (ret (.int 2)) (eVar 6)) (eVar 9)) (eCons (eVar 7) eNil))))) (rD (ret (.bl true)))))))) (sRet (rOp gSortDN (eCons (eVar 2) eNil)))))
def F__law_doubled : Fn := fnOf 2 10 kNo b__law_doubled
def b__law_machine_by : MS := (sSeq (sSet 2 (rD (eBin dMod (eBin dDiv (eBin dIx (eVar 0) (ret (.int 0))) (ret (.int 6))) (ret (.int 4))))) (sSeq (sSet 3 (rCall 4 F__law_steps_by [] (aV (eFz nf (rSlL' (eVar 0) (oSome (ret (.int 1))) (oSome (eBin dAdd (ret (.int 1)) (eBin dMod (eBin dDiv (eBin dIx (eVar 0) (ret (.int 0))) (ret (.int 24))) (ret (.int 14))))))) (aV (eVar 1) (aV (eBin dAdd (ret (.int 1)) (eBin dMod (eBin dIx (eVar 0) (ret (.int 0))) (ret (.int 6)))) (aV (eVar 2) aNil)))))) (sSeq (sIf (eTst (eBin dGt (eBin dMod (eBin dDiv (eBin dIx (eVar 0) (ret (.int 0))) (ret (.int 288))) (ret (.int 3))) (ret (.int 0)))) (sSet 3 (rCall 2 F__law_doubled [] (aV (eVar 3) (aV (eFz nf (rSlL' (eVar 0) (oSome (ret (.int 1))) oNone)) aNil)))) sNext) (sRet (rD (eTup (eCons (eOp dTuple (eCons (eFz nf (rOp gSorted (eCons (eVar 1) eNil))) eNil)) (eCons (eVar 2) (eCons (eVar 3) eNil)))))))))
def F__law_machine_by : Fn := fnOf 2 4 kNo b__law_machine_by
def b__law_follows : MS := (sSeq (sFor (iSeq (eVar 0)) (gT 3 (gsC (gN 3) (gsC (gN 4) (gsC (gN 5) gsN)))) (sIf (eTst (eBin dEqL (eFz nf (rLc (iSeq (eVar 1)) (gT 3 (gsC (gN 6) (gsC (gN 7) (gsC (gN 8) gsN)))) (cAnd (eTst (eBin dEq (eVar 6) (eVar 3))) (cAnd (eTst (eBin dEq (eVar 8) (eVar 5))) (eTst (eBin dIx (eBin dIx (eVar 2) (eVar 4)) (eVar 7))))) (ret (.int 1)) [6, 7, 8])) (eFz nf (rLst eNil)))) (sRet (rD (ret (.bl false)))) sNext)) (sRet (rD (ret (.bl true)))))
def F__law_follows : Fn := fnOf 3 9 kNo b__law_follows
def b__law_near : MS := (sSeq (sSet 1 (rD (eBin dAdd (ret (.int 1)) (eMaxD (eCons (eFz nf (rLc (iSeq (eVar 0)) (gN 9) cYes (eOp dMax2 (eCons (eBin dIx (eVar 9) (ret (.int 0))) (eCons (eBin dIx (eVar 9) (ret (.int 2))) eNil))) [9])) eNil) (ret (.int 0)))))) (sSeq (sSet 2 (rLc (iR1 (eCons (eVar 1) eNil)) (gN 8) cYes (eFz nf (rLc (iSeq (eVar 0)) (gN 9) (eTst (eBin dEq (eBin dIx (eVar 9) (ret (.int 0))) (eVar 8))) (eSl (eVar 9) (oSome (ret (.int 1))) oNone) [9])) [8])) (sSeq (sSet 3 (rLcR (iR1 (eCons (eVar 1) eNil)) (gN 8) cYes (rBin gMul (eFz nf (rLst (eCons (ret (.bl true)) eNil))) (eVar 1)) [8])) (sSeq (sSet 4 (rD (ret (.bl true)))) (sSeq (whileL (eTst (eVar 4)) (sSeq (sSet 4 (rD (ret (.bl false)))) (sFor (iR1 (eCons (eVar 1) eNil)) (gN 5) (sFor (iR1 (eCons (eVar 1) eNil)) (gN 6) (sSeq (sSet 7 (rD (eFull nf (eAnd (eFz nf (rCall 3 F__law_follows [] (aV (eBin dIx (eVar 2) (eVar 5)) (aV (eBin dIx (eVar 2) (eVar 6)) (aV (eVarO nf 3) aNil))))) (eFz nf (rCall 3 F__law_follows [] (aV (eBin dIx (eVar 2) (eVar 6)) (aV (eBin dIx (eVar 2) (eVar 5)) (aV (eVarO nf 3) aNil))))))))) (sIf (tFull nf (cAnd (eTst (eBin dIx (eBin dIx (eVarO nf 3) (eVar 5)) (eVar 6))) (cNot (eTst (eVar 7))))) (sSeq (sSetA nf 3 (pIx nf 3 (pName 3) (eVar 5)) (eVar 6) (rD (ret (.bl false)))) (sSet 4 (rD (ret (.bl true))))) sNext))))) 200) (sRet (rMv 3)))))))
def F__law_near : Fn := fnOf 1 10 kNo b__law_near
def b__law_classes : MS := (sSeq (sSet 1 (rCall 1 F__law_near [] (aV (eVar 0) aNil))) (sSeq (sSet 2 (rLst eNil)) (sSeq (sFor (iR1 (eCons (eOp dLen (eCons (eVarO nf 1) eNil)) eNil)) (gN 3) (sIf (eTst (eBin dEqL (eFz nf (rLc (iR1 (eCons (eVar 3) eNil)) (gN 4) (eTst (eBin dIx (eBin dIx (eVarO nf 1) (eVar 3)) (eVar 4))) (ret (.int 1)) [4])) (eFz nf (rLst eNil)))) (sApp' 2 (eFz nf (rLc (iR1 (eCons (eOp dLen (eCons (eVarO nf 1) eNil)) eNil)) (gN 4) (eTst (eBin dIx (eBin dIx (eVarO nf 1) (eVar 3)) (eVar 4))) (eVar 4) [4]))) sNext)) (sRet (rMv 2)))))
def F__law_classes : Fn := fnOf 1 5 kNo b__law_classes
def b__law_between : MS := (sSeq (sSet 1 rDct0) (sSeq (sFor (iEn (eCons (eFz nf (rCall 1 F__law_classes [] (aV (eVar 0) aNil))) eNil)) (gT 2 (gsC (gN 2) (gsC (gN 3) gsN))) (sFor (iSeq (eVar 3)) (gN 4) (sSetA nf 1 (pName 1) (eVar 4) (rD (eVar 2))))) (sSeq (sSet 5 rDct0) (sSeq (sFor (iSeq (eVar 0)) (gT 4 (gsC (gN 4) (gsC (gN 6) (gsC (gN 7) (gsC (gN 8) gsN))))) (sSetA nf 5 (pName 5) (eTup (eCons (eBin dIxD (eVar 1) (eVar 4)) (eCons (eVar 6) (eCons (eBin dIxD (eVar 1) (eVar 7)) (eCons (eVar 8) eNil))))) (rD (ret (.bl true))))) (sRet (rOp gSortDN (eCons (eVar 5) eNil)))))))
def F__law_between : Fn := fnOf 1 9 kNo b__law_between
def b__law_so : MS := (sRet (rD (eAnd (eUn (dIsc is_Machine) (eVar 0)) (eAnd (eBin dEq (eFld ix_names (eVar 0)) (eVar 1)) (eAnd (eBin dEq (eFld ix_bells (eVar 0)) (eVar 2)) (eBin dEq (eFld ix_steps (eVar 0)) (eVar 3)))))))
def F__law_so : Fn := fnOf 4 4 kNo b__law_so
def b__law_right_by : MS := (sSeq (sSet 1 (rCall 3 F__law_mixed [] (aV (eVar 0) (aV (ret (.int 0)) (aV (ret (.int 20)) aNil))))) (sSeq (sSet 2 (rOp gSorted (eCons (eFz nf (rSlL' (eFz nf (rCall 1 F__law_marks_by [] (aV (eBin dIx (eVar 1) (ret (.int 19))) aNil))) oNone (oSome (eBin dMod (eBin dIx (eVar 1) (ret (.int 18))) (ret (.int 3)))))) eNil))) (sSeq (sAsg (eFz nf (rCall 2 F__law_machine_by [] (aV (eFz nf (rSlL' (eVar 1) oNone (oSome (ret (.int 18))))) (aV (eVar 2) aNil)))) (gT 3 (gsC (gN 3) (gsC (gN 4) (gsC (gN 5) gsN))))) (sSeq (sSet 6 (rMakeR 0 3 4 F_Machine___init__ (aV (eVar 3) (aV (eVar 4) (aV (eFz nf (rOp dList (eCons (eVar 5) eNil))) aNil))))) (sSeq (sSet 7 (rCall 1 F__law_between [] (aV (eVar 5) aNil))) (sSeq (sSet 8 (rCall 1 F_folded [] (aV (eVarO nf 6) aNil))) (sSeq (sIf (tFull nf (cOr (cNot (eTst (eFz nf (rCall 4 F__law_so [] (aV (eVarO nf 8) (aV (eVar 3) (aV (eVar 4) (aV (eVar 7) aNil)))))))) (cNot (eTst (eFz nf (rCall 4 F__law_so [] (aV (eVarO nf 6) (aV (eVar 3) (aV (eVar 4) (aV (eVar 5) aNil)))))))))) (sRet (rD (ret (.bl false)))) sNext) (sSeq (sIf (tFull nf (cOr (cNot (eTst (eFz nf (rCall 4 F__law_so [] (aV (eFz nf (rCall 1 F_folded [] (aV (eVarO nf 8) aNil))) (aV (eVar 3) (aV (eVar 4) (aV (eVar 7) aNil)))))))) (eTst (eBin dNe (eFz nf (rCall 1 F_classes_of [] (aV (eVarO nf 8) aNil))) (eFz nf (rLc (iR1 (eCons (eFz nf (rMeth 1 tab_count (eVarO nf 8) aNil)) eNil)) (gN 9) cYes (eFz nf (rLst (eCons (eVar 9) eNil))) [9])))))) (sRet (rD (ret (.bl false)))) sNext) (sSeq (sIf (tFull nf (eTst (eBin dNe (eFz nf (rMeth 1 tab_count (eVarO nf 8) aNil)) (eBin dAdd (ret (.int 1)) (eMaxD (eCons (eFz nf (rLc (iLst (eVar 7)) (gN 10) cYes (eOp dMax2 (eCons (eBin dIx (eVar 10) (ret (.int 0))) (eCons (eBin dIx (eVar 10) (ret (.int 2))) eNil))) [10])) eNil) (ret (.int 0))))))) (sRet (rD (ret (.bl false)))) sNext) (sSeq (sDrop (rD (eMut 8 (pFld 8 ix_steps (pName 8)) aNo opClr))) (sRet (rD (eAnd (eFz nf (rCall 4 F__law_so [] (aV (eFz nf (rCall 1 F_folded [] (aV (eVarO nf 6) aNil))) (aV (eVar 3) (aV (eVar 4) (aV (eVar 7) aNil)))))) (eFz nf (rCall 4 F__law_so [] (aV (eVarO nf 6) (aV (eVar 3) (aV (eVar 4) (aV (eVar 5) aNil)))))))))))))))))))
def F__law_right_by : Fn := fnOf 1 11 kNo b__law_right_by
def b_law : MS := (sSeq (sFor (iLst (eFz nf (rLst (eCons (eVar 0) (eCons (eFz nf (rBin gCat (eFz nf (rSlL' (eVar 0) (oSome (ret (.int 1))) oNone)) (eFz nf (rLst (eCons (eBin dAdd (ret (.int 7)) (eOp dLen (eCons (eVar 0) eNil))) eNil))))) (eCons (eVar 0) eNil)))))) (gN 1) (sIf (cNot (eTst (eFz nf (rCall 1 F__law_right_by [] (aV (eVar 1) aNil))))) (sRet (rD (ret (.bl false)))) sNext)) (sRet (rD (ret (.bl true)))))
def F_law : Fn := fnOf 1 2 kNo b_law
structure Vx (w : World) (K : PySem.W.Frag) (mg : Str → Option Value) : Prop where
  n_enumerate : mg "enumerate" = none
  n_isinstance : mg "isinstance" = none
  n_len : mg "len" = none
  n_list : mg "list" = none
  n_max : mg "max" = none
  n_range : mg "range" = none
  n_set : mg "set" = none
  n_sorted : mg "sorted" = none
  n_tuple : mg "tuple" = none
  f_steps_by_state : GFun (tb w K) mg "steps_by_state" s_steps_by_state P_steps_by_state
  f_finer : GFun (tb w K) mg "finer" s_finer P_finer
  f_class_places : GFun (tb w K) mg "class_places" s_class_places P_class_places
  f_classes_of : GFun (tb w K) mg "classes_of" s_classes_of P_classes_of
  f_folded : GFun (tb w K) mg "folded" s_folded P_folded
  f__law_cell_at : GFun (tb w K) mg "_law_cell_at" s__law_cell_at P__law_cell_at
  f__law_mixed : GFun (tb w K) mg "_law_mixed" s__law_mixed P__law_mixed
  f__law_marks_by : GFun (tb w K) mg "_law_marks_by" s__law_marks_by P__law_marks_by
  f__law_moment_of : GFun (tb w K) mg "_law_moment_of" s__law_moment_of P__law_moment_of
  f__law_steps_by : GFun (tb w K) mg "_law_steps_by" s__law_steps_by P__law_steps_by
  f__law_doubled : GFun (tb w K) mg "_law_doubled" s__law_doubled P__law_doubled
  f__law_machine_by : GFun (tb w K) mg "_law_machine_by" s__law_machine_by P__law_machine_by
  f__law_follows : GFun (tb w K) mg "_law_follows" s__law_follows P__law_follows
  f__law_near : GFun (tb w K) mg "_law_near" s__law_near P__law_near
  f__law_classes : GFun (tb w K) mg "_law_classes" s__law_classes P__law_classes
  f__law_between : GFun (tb w K) mg "_law_between" s__law_between P__law_between
  f__law_so : GFun (tb w K) mg "_law_so" s__law_so P__law_so
  f__law_right_by : GFun (tb w K) mg "_law_right_by" s__law_right_by P__law_right_by
  f_law : GFun (tb w K) mg "law" s_law P_law
  m_Machine_count : GMth (tb w K) 0 "count" "Machine.count" s_Machine_count P_Machine_count
  g_Machine : mg "Machine" = some (.ref ((tb w K).cls 0))
  i_Machine : GIs (tb w K) 0 is_Machine
  k_Machine : GMk (tb w K) mg "Machine" 0 "Machine.__init__" s_Machine___init__ P_Machine___init__
  q_Machine : ClsOk (tb w K) 0
section
variable {P : Program} {w : World} {K : PySem.W.Frag} {mg : Str → Option Value} {base : Heap}
theorem ixok_bells (V : Vx w K mg) : ∀ c i, ix_bells c = some i → ClsOk (tb w K) c ∧ ((tb w K).flds c)[i]? = some "bells" := by
  intro c i h
  unfold ix_bells at h
  split at h
  · cases h; exact ⟨V.q_Machine, rfl⟩
  · cases h
theorem ixok_names (V : Vx w K mg) : ∀ c i, ix_names c = some i → ClsOk (tb w K) c ∧ ((tb w K).flds c)[i]? = some "names" := by
  intro c i h
  unfold ix_names at h
  split at h
  · cases h; exact ⟨V.q_Machine, rfl⟩
  · cases h
theorem ixok_steps (V : Vx w K mg) : ∀ c i, ix_steps c = some i → ClsOk (tb w K) c ∧ ((tb w K).flds c)[i]? = some "steps" := by
  intro c i h
  unfold ix_steps at h
  split at h
  · cases h; exact ⟨V.q_Machine, rfl⟩
  · cases h
theorem does_Machine___init__ (V : Vx w K mg) : Does P w (tb w K) mg base N_Machine___init__ "Machine.__init__" s_Machine___init__ 0 k0 b_Machine___init__ := by
  intro f cdv A outer s H E hr
  unfold b_Machine___init__
  exact (xss_cons (xs_fldR 0 (ixok_names V) (xr_d (xe_var 1))) (xss_cons (xs_fldR 0 (ixok_bells V) (xr_d (xe_var 2))) (xss_one (xs_fldR 0 (ixok_steps V) (xr_list (fun _ => V.n_list) (xa_cons (xe_var 3) xa_nil))))))
theorem mok_Machine (V : Vx w K mg) : MkG P w (tb w K) mg base "Machine" 0 4 F_Machine___init__ 1 := mkg_g V.k_Machine sc_Machine___init__ (does_Machine___init__ V)
theorem does_Machine_count (V : Vx w K mg) : Does P w (tb w K) mg base N_Machine_count "Machine.count" s_Machine_count 0 kNo b_Machine_count := by
  intro f cdv A outer s H E hr
  unfold b_Machine_count
  exact (xss_one (xs_ret (xr_d (xe_add (ha := xe_int) (hb := (xe_maxd (fun _ => V.n_max) (xa_cons (xe_fz (xr_lc (own := [("step", 1)]) (fun _ => sc_Machine_count.nd) (xi_seq (h := (xe_fld (ixok_steps V) (xe_var 0)))) (fun _ => show BlkOk N_Machine_count (defScope s_Machine_count) _ _ from blkOk_by (by decide +kernel)) (xgb_name 1 (by simp) (fun _ => sc_Machine_count.nd)) xts_nil (xe_max2 (fun _ => V.n_max) (xa_cons (xe_ix (ha := (xe_var 1)) (hb := xe_int)) (xa_cons (xe_ix (ha := (xe_var 1)) (hb := xe_int)) xa_nil))))) xa_nil) xe_int))))))
theorem tok_count (V : Vx w K mg) : MtT P w (tb w K) mg base "count" 1 1 tab_count := by
  intro c F h
  unfold tab_count at h
  split at h
  · cases h; exact (mtg_g V.m_Machine_count V.q_Machine (show ("count" : Str) ∉ flds 0 by decide +kernel) sc_Machine_count (does_Machine_count V)).mono (by decide)
  · cases h
theorem does_steps_by_state (V : Vx w K mg) : Does P w (tb w K) mg base N_steps_by_state "steps_by_state" s_steps_by_state 1 kNo b_steps_by_state := by
  intro f cdv A outer s H E hr
  unfold b_steps_by_state
  exact (xss_cons (xs_setLcR 1 (own := [("state", 2)]) (fun _ => sc_steps_by_state.nd) (xi_r1 (fun _ => V.n_range) (xa_cons (xe_fz (xr_meth0 ((tok_count V).d hr (by omega)) (tok_count V (P := P) (base := base)).nf (xe_var 0))) xa_nil)) (fun _ => show BlkOk N_steps_by_state (defScope s_steps_by_state) _ _ from blkOk_by (by decide +kernel)) (xgb_name 2 (by simp) (fun _ => sc_steps_by_state.nd)) xts_nil (xr_lst xa_nil) (fun _ => sw_true rfl rfl rfl (by decide +kernel))) (xss_cons (xs_for (xi_seq (h := (xe_fld (ixok_steps V) (xe_var 0)))) (xg_tup (n := 4) (h := (xgs_cons (xg_name 2 (hN := (fun _ => sc_steps_by_state.nd))) (xgs_cons (xg_name 3 (hN := (fun _ => sc_steps_by_state.nd))) (xgs_cons (xg_name 4 (hN := (fun _ => sc_steps_by_state.nd))) (xgs_cons (xg_name 5 (hN := (fun _ => sc_steps_by_state.nd))) xgs_nil)))))) (xss_one (xs_expr (xr_d (xe_mut (op := opApp) PySem.F.plainAttrs_list PySem.F.slot_list_append PySem.F.type_list_append (fun _ => mt_append) m_app (xp_ix (rm_def hr) (xp_name 1) (xe_var 2)) (xk_hid (xa_cons (xe_tup (xa_cons (xe_var 3) (xa_cons (xe_var 4) (xa_cons (xe_var 5) xa_nil)))) xa_nil)))))) own_def) (xss_one (xs_ret (xr_mv 1)))))
theorem ok_steps_by_state (V : Vx w K mg) : FnG P w (tb w K) mg base "steps_by_state" 1 F_steps_by_state 2 := fng_g V.f_steps_by_state sc_steps_by_state (does_steps_by_state V)
theorem does_finer (V : Vx w K mg) : Does P w (tb w K) mg base N_finer "finer" s_finer 0 kNo b_finer := by
  intro f cdv A outer s H E hr
  unfold b_finer
  exact (xss_cons (xs_set 2 (fun _ => sc_finer.nd) xr_dct0) (xss_cons (xs_set 3 (fun _ => sc_finer.nd) (xr_lst xa_nil)) (xss_cons (xs_for (xi_lst (h := (xe_var 0))) (xg_name 4 (hN := (fun _ => sc_finer.nd))) (xss_cons (xs_set 5 (fun _ => sc_finer.nd) (xr_d (xe_tuple (fun _ => V.n_tuple) (xa_cons (xe_fz (xr_sortSetN (rm_def hr) (fun _ => V.n_sorted) (fun _ => V.n_set) (xa_cons (xe_fz (xr_lc (own := [("moment", 6), ("target", 7), ("rung", 8)]) (fun _ => sc_finer.nd) (xi_seq (h := (xe_var 4))) (fun _ => show BlkOk N_finer (defScope s_finer) _ _ from blkOk_by (by decide +kernel)) (xgb_tup (n := 3) (h := (xgbs_cons (xgb_name 6 (by simp) (fun _ => sc_finer.nd)) (xgbs_cons (xgb_name 7 (by simp) (fun _ => sc_finer.nd)) (xgbs_cons (xgb_name 8 (by simp) (fun _ => sc_finer.nd)) xgbs_nil))))) xts_nil (xe_tup (xa_cons (xe_var 6) (xa_cons (xe_ix (ha := (xe_var 1)) (hb := (xe_var 7))) (xa_cons (xe_var 8) xa_nil)))))) xa_nil))) xa_nil)))) (xss_one (xs_app 3 (xe_mut (op := opSetd) PySem.F.plainAttrs_dict PySem.F.slot_dict_setdefault PySem.F.type_dict_setdefault (fun _ => (mt_gsetd ((rm_def hr) _) rfl rfl)) m_setd (xp_name 2) (xk_full (xa_cons (xe_var 5) (xa_cons (xe_lenD (fun _ => V.n_len) (xa_cons (xe_var 2) xa_nil)) xa_nil))))))) own_def) (xss_one (xs_ret (xr_mv 3))))))
theorem ok_finer (V : Vx w K mg) : FnG P w (tb w K) mg base "finer" 2 F_finer 1 := fng_g V.f_finer sc_finer (does_finer V)
theorem does_class_places (V : Vx w K mg) : Does P w (tb w K) mg base N_class_places "class_places" s_class_places 2 kNo b_class_places := by
  intro f cdv A outer s H E hr
  unfold b_class_places
  exact (xss_cons (xs_set 1 (fun _ => sc_class_places.nd) (xr_call (dvs := []) (dd := []) ((ok_steps_by_state V).d hr (by omega)) .nil (fun _ => reps_nil) (xaa_v (xe_var 0) xaa_nil))) (xss_cons (xs_setLc 2 (own := [("steps", 4)]) (fun _ => sc_class_places.nd) (xi_lst (h := (xe_varO 1))) (fun _ => show BlkOk N_class_places (defScope s_class_places) _ _ from blkOk_by (by decide +kernel)) (xgb_name 4 (by simp) (fun _ => sc_class_places.nd)) xts_nil xe_int (fun _ => sw_true rfl rfl rfl (by decide +kernel))) (xss_cons (xs_set 3 (fun _ => sc_class_places.nd) (xr_call (dvs := []) (dd := []) ((ok_finer V).d hr (by omega)) .nil (fun _ => reps_nil) (xaa_v (xe_varO 1) (xaa_v (xe_var 2) xaa_nil)))) (xss_cons (xs_while 100 (xt_gt (xe_max1 (fun _ => V.n_max) (xa_cons (xe_var 3) xa_nil)) (xe_max1 (fun _ => V.n_max) (xa_cons (xe_var 2) xa_nil))) (xss_cons (xs_set 2 (fun _ => sc_class_places.nd) (xr_d (xe_var 3))) (xss_one (xs_set 3 (fun _ => sc_class_places.nd) (xr_call (dvs := []) (dd := []) ((ok_finer V).d hr (by omega)) .nil (fun _ => reps_nil) (xaa_v (xe_varO 1) (xaa_v (xe_var 2) xaa_nil)))))) own_def) (xss_one (xs_ret (xr_mv 3)))))))
theorem ok_class_places (V : Vx w K mg) : FnG P w (tb w K) mg base "class_places" 1 F_class_places 3 := fng_g V.f_class_places sc_class_places (does_class_places V)
theorem does_classes_of (V : Vx w K mg) : Does P w (tb w K) mg base N_classes_of "classes_of" s_classes_of 3 kNo b_classes_of := by
  intro f cdv A outer s H E hr
  unfold b_classes_of
  exact (xss_cons (xs_set 1 (fun _ => sc_classes_of.nd) (xr_call (dvs := []) (dd := []) ((ok_class_places V).d hr (by omega)) .nil (fun _ => reps_nil) (xaa_v (xe_var 0) xaa_nil))) (xss_cons (xs_setLcR 2 (own := [("number", 4)]) (fun _ => sc_classes_of.nd) (xi_r1 (fun _ => V.n_range) (xa_cons (xe_add (ha := (xe_max1 (fun _ => V.n_max) (xa_cons (xe_var 1) xa_nil))) (hb := xe_int)) xa_nil)) (fun _ => show BlkOk N_classes_of (defScope s_classes_of) _ _ from blkOk_by (by decide +kernel)) (xgb_name 4 (by simp) (fun _ => sc_classes_of.nd)) xts_nil (xr_lst xa_nil) (fun _ => sw_true rfl rfl rfl (by decide +kernel))) (xss_cons (xs_for (xi_en (hm := (fun _ => V.n_enumerate)) (h := (xa_cons (xe_var 1) xa_nil))) (xg_tup (n := 2) (h := (xgs_cons (xg_name 3 (hN := (fun _ => sc_classes_of.nd))) (xgs_cons (xg_name 4 (hN := (fun _ => sc_classes_of.nd))) xgs_nil)))) (xss_one (xs_expr (xr_d (xe_mut (op := opApp) PySem.F.plainAttrs_list PySem.F.slot_list_append PySem.F.type_list_append (fun _ => mt_append) m_app (xp_ix (rm_def hr) (xp_name 2) (xe_var 4)) (xk_hid (xa_cons (xe_var 3) xa_nil)))))) own_def) (xss_one (xs_ret (xr_mv 2))))))
theorem ok_classes_of (V : Vx w K mg) : FnG P w (tb w K) mg base "classes_of" 1 F_classes_of 4 := fng_g V.f_classes_of sc_classes_of (does_classes_of V)
theorem does_folded (V : Vx w K mg) : Does P w (tb w K) mg base N_folded "folded" s_folded 3 kNo b_folded := by
  intro f cdv A outer s H E hr
  unfold b_folded
  exact (xss_cons (xs_set 1 (fun _ => sc_folded.nd) (xr_call (dvs := []) (dd := []) ((ok_class_places V).d hr (by omega)) .nil (fun _ => reps_nil) (xaa_v (xe_var 0) xaa_nil))) (xss_cons (xs_set 2 (fun _ => sc_folded.nd) xr_dct0) (xss_cons (xs_for (xi_seq (h := (xe_fld (ixok_steps V) (xe_var 0)))) (xg_tup (n := 4) (h := (xgs_cons (xg_name 3 (hN := (fun _ => sc_folded.nd))) (xgs_cons (xg_name 4 (hN := (fun _ => sc_folded.nd))) (xgs_cons (xg_name 5 (hN := (fun _ => sc_folded.nd))) (xgs_cons (xg_name 6 (hN := (fun _ => sc_folded.nd))) xgs_nil)))))) (xss_one (xs_setA (rm_def hr) (xr_d xe_bl) (xp_name 2) (xe_tup (xa_cons (xe_ix (ha := (xe_var 1)) (hb := (xe_var 3))) (xa_cons (xe_var 4) (xa_cons (xe_ix (ha := (xe_var 1)) (hb := (xe_var 5))) (xa_cons (xe_var 6) xa_nil))))))) own_def) (xss_one (xs_ret (xr_makeR (nf := 3) ((mok_Machine V).d hr (by omega)) (xaa_v (xe_fld (ixok_names V) (xe_var 0)) (xaa_v (xe_fld (ixok_bells V) (xe_var 0)) (xaa_v (xe_fz (xr_sortDN (rm_def hr) (fun _ => V.n_sorted) (xa_cons (xe_var 2) xa_nil))) xaa_nil)))))))))
theorem ok_folded (V : Vx w K mg) : FnG P w (tb w K) mg base "folded" 1 F_folded 4 := fng_g V.f_folded sc_folded (does_folded V)
theorem does__law_cell_at (V : Vx w K mg) : Does P w (tb w K) mg base N__law_cell_at "_law_cell_at" s__law_cell_at 0 kNo b__law_cell_at := by
  intro f cdv A outer s H E hr
  unfold b__law_cell_at
  exact (xss_cons (xs_if (xt_lt (xe_var 1) (xe_len (fun _ => V.n_len) (xa_cons (xe_var 0) xa_nil))) (xss_one (xs_ret (xr_d (xe_ix (ha := (xe_var 0)) (hb := (xe_var 1)))))) xss_nil) (xss_one (xs_ret (xr_d xe_int))))
theorem ok__law_cell_at (V : Vx w K mg) : FnG P w (tb w K) mg base "_law_cell_at" 2 F__law_cell_at 1 := fng_g V.f__law_cell_at sc__law_cell_at (does__law_cell_at V)
theorem does__law_mixed (V : Vx w K mg) : Does P w (tb w K) mg base N__law_mixed "_law_mixed" s__law_mixed 1 kNo b__law_mixed := by
  intro f cdv A outer s H E hr
  unfold b__law_mixed
  exact (xss_cons (xs_set 3 (fun _ => sc__law_mixed.nd) (xr_lst xa_nil)) (xss_cons (xs_set 4 (fun _ => sc__law_mixed.nd) (xr_d xe_int)) (xss_cons (xs_for (xi_r1 (fun _ => V.n_range) (xa_cons (xe_var 2) xa_nil)) (xg_name 5 (hN := (fun _ => sc__law_mixed.nd))) (xss_cons (xs_set 4 (fun _ => sc__law_mixed.nd) (xr_d (xe_mod (xe_add (ha := (xe_add (ha := (xe_add (ha := (xe_mul (xe_var 4) xe_int)) (hb := (xe_fz (xr_call (dvs := []) (dd := []) ((ok__law_cell_at V).d hr (by omega)) .nil (fun _ => reps_nil) (xaa_v (xe_var 0) (xaa_v (xe_add (ha := (xe_var 1)) (hb := (xe_var 5))) xaa_nil))))))) (hb := (xe_mul xe_int (xe_var 5))))) (hb := xe_int)) xe_int))) (xss_one (xs_app 3 (xe_mod (xe_add (ha := (xe_mul (xe_var 4) (xe_var 4))) (hb := (xe_mul xe_int (xe_var 4)))) xe_int)))) own_def) (xss_one (xs_ret (xr_mv 3))))))
theorem ok__law_mixed (V : Vx w K mg) : FnG P w (tb w K) mg base "_law_mixed" 3 F__law_mixed 2 := fng_g V.f__law_mixed sc__law_mixed (does__law_mixed V)
theorem does__law_marks_by (V : Vx w K mg) : Does P w (tb w K) mg base N__law_marks_by "_law_marks_by" s__law_marks_by 0 kNo b__law_marks_by := by
  intro f cdv A outer s H E hr
  unfold b__law_marks_by
  exact (xss_cons (xs_set 1 (fun _ => sc__law_marks_by.nd) (xr_lst (xa_cons (xe_fz (xr_lst (xa_cons xe_str (xa_cons xe_str (xa_cons xe_str xa_nil))))) (xa_cons (xe_fz (xr_lst (xa_cons xe_str (xa_cons xe_str (xa_cons xe_str xa_nil))))) (xa_cons (xe_fz (xr_lst (xa_cons xe_str (xa_cons xe_str (xa_cons xe_str xa_nil))))) (xa_cons (xe_fz (xr_lst (xa_cons xe_str (xa_cons xe_str (xa_cons xe_str xa_nil))))) xa_nil)))))) (xss_cons (xs_set 1 (fun _ => sc__law_marks_by.nd) (xr_cat (xe_var 1) (xe_fz (xr_lst (xa_cons (xe_fz (xr_lst (xa_cons xe_str (xa_cons xe_str (xa_cons xe_str xa_nil))))) (xa_cons (xe_fz (xr_lst (xa_cons xe_str (xa_cons xe_str (xa_cons xe_str xa_nil))))) xa_nil)))))) (xss_one (xs_ret (xr_d (xe_ix (ha := (xe_var 1)) (hb := (xe_mod (xe_var 0) xe_int))))))))
theorem ok__law_marks_by (V : Vx w K mg) : FnG P w (tb w K) mg base "_law_marks_by" 1 F__law_marks_by 1 := fng_g V.f__law_marks_by sc__law_marks_by (does__law_marks_by V)
theorem does__law_moment_of (V : Vx w K mg) : Does P w (tb w K) mg base N__law_moment_of "_law_moment_of" s__law_moment_of 0 kNo b__law_moment_of := by
  intro f cdv A outer s H E hr
  unfold b__law_moment_of
  exact (xss_cons (xs_set 2 (fun _ => sc__law_moment_of.nd) (xr_lst xa_nil)) (xss_cons (xs_for (xi_lst (h := (xe_var 0))) (xg_name 3 (hN := (fun _ => sc__law_moment_of.nd))) (xss_cons (xs_if (xt_eq (rm_def hr) (ha := (xe_mod (xe_var 1) xe_int)) (hb := xe_int)) (xss_one (xs_app 2 (xe_var 3))) xss_nil) (xss_one (xs_set 1 (fun _ => sc__law_moment_of.nd) (xr_d (xe_div (xe_var 1) xe_int))))) own_def) (xss_one (xs_ret (xr_d (xe_tuple (fun _ => V.n_tuple) (xa_cons (xe_fz (xr_sorted (fun _ => V.n_sorted) (xa_cons (xe_var 2) xa_nil))) xa_nil)))))))
theorem ok__law_moment_of (V : Vx w K mg) : FnG P w (tb w K) mg base "_law_moment_of" 2 F__law_moment_of 1 := fng_g V.f__law_moment_of sc__law_moment_of (does__law_moment_of V)
theorem does__law_steps_by (V : Vx w K mg) : Does P w (tb w K) mg base N__law_steps_by "_law_steps_by" s__law_steps_by 1 kNo b__law_steps_by := by
  intro f cdv A outer s H E hr
  unfold b__law_steps_by
  exact (xss_cons (xs_set 4 (fun _ => sc__law_steps_by.nd) xr_dct0) (xss_cons (xs_for (xi_lst (h := (xe_var 0))) (xg_name 5 (hN := (fun _ => sc__law_steps_by.nd))) (xss_cons (xs_set 6 (fun _ => sc__law_steps_by.nd) (xr_call (dvs := []) (dd := []) ((ok__law_moment_of V).d hr (by omega)) .nil (fun _ => reps_nil) (xaa_v (xe_var 1) (xaa_v (xe_div (xe_var 5) xe_int) xaa_nil)))) (xss_cons (xs_setLc 7 (own := [("_law_bell", 8)]) (fun _ => sc__law_steps_by.nd) (xi_r1 (fun _ => V.n_range) (xa_cons (xe_var 3) xa_nil)) (fun _ => show BlkOk N__law_steps_by (defScope s__law_steps_by) _ _ from blkOk_by (by decide +kernel)) (xgb_name 8 (by simp) (fun _ => sc__law_steps_by.nd)) (xts_one (xt_eq (rm_blk (rm_def hr)) (ha := (xe_mod (xe_div (xe_div (xe_var 5) xe_int) (xe_ix (ha := (xe_fz (xr_lst (xa_cons xe_int (xa_cons xe_int (xa_cons xe_int xa_nil)))))) (hb := (xe_var 8)))) xe_int)) (hb := xe_int))) (xe_var 8) (fun _ => sw_true rfl rfl rfl (by decide +kernel))) (xss_one (xs_setA (rm_def hr) (xr_d xe_bl) (xp_name 4) (xe_tup (xa_cons (xe_mod (xe_var 5) (xe_var 2)) (xa_cons (xe_var 6) (xa_cons (xe_mod (xe_div (xe_var 5) xe_int) (xe_var 2)) (xa_cons (xe_tuple (fun _ => V.n_tuple) (xa_cons (xe_var 7) xa_nil)) xa_nil))))))))) own_def) (xss_one (xs_ret (xr_sortDN (rm_def hr) (fun _ => V.n_sorted) (xa_cons (xe_var 4) xa_nil))))))
theorem ok__law_steps_by (V : Vx w K mg) : FnG P w (tb w K) mg base "_law_steps_by" 4 F__law_steps_by 2 := fng_g V.f__law_steps_by sc__law_steps_by (does__law_steps_by V)
theorem does__law_doubled (V : Vx w K mg) : Does P w (tb w K) mg base N__law_doubled "_law_doubled" s__law_doubled 0 kNo b__law_doubled := by
  intro f cdv A outer s H E hr
  unfold b__law_doubled
  exact (xss_cons (xs_set 2 (fun _ => sc__law_doubled.nd) xr_dct0) (xss_cons (xs_for (xi_r1 (fun _ => V.n_range) (xa_cons (xe_len (fun _ => V.n_len) (xa_cons (xe_var 0) xa_nil)) xa_nil)) (xg_name 3 (hN := (fun _ => sc__law_doubled.nd))) (xss_cons (xs_asg (xe_ix (ha := (xe_var 0)) (hb := (xe_var 3))) (xg_tup (n := 4) (h := (xgs_cons (xg_name 4 (hN := (fun _ => sc__law_doubled.nd))) (xgs_cons (xg_name 5 (hN := (fun _ => sc__law_doubled.nd))) (xgs_cons (xg_name 6 (hN := (fun _ => sc__law_doubled.nd))) (xgs_cons (xg_name 7 (hN := (fun _ => sc__law_doubled.nd))) xgs_nil))))))) (xss_one (xs_for (xi_r1 (fun _ => V.n_range) (xa_cons xe_int xa_nil)) (xg_name 8 (hN := (fun _ => sc__law_doubled.nd))) (xss_cons (xs_set 9 (fun _ => sc__law_doubled.nd) (xr_d (xe_mod (xe_div (xe_ix (ha := (xe_var 1)) (hb := (xe_mod (xe_add (ha := (xe_var 3)) (hb := (xe_var 8))) (xe_len (fun _ => V.n_len) (xa_cons (xe_var 1) xa_nil))))) xe_int) xe_int))) (xss_one (xs_setA (rm_def hr) (xr_d xe_bl) (xp_name 2) (xe_tup (xa_cons (xe_add (ha := (xe_mul xe_int (xe_var 4))) (hb := (xe_var 8))) (xa_cons (xe_var 5) (xa_cons (xe_add (ha := (xe_mul xe_int (xe_var 6))) (hb := (xe_var 9))) (xa_cons (xe_var 7) xa_nil)))))))) own_def))) own_def) (xss_one (xs_ret (xr_sortDN (rm_def hr) (fun _ => V.n_sorted) (xa_cons (xe_var 2) xa_nil))))))
theorem ok__law_doubled (V : Vx w K mg) : FnG P w (tb w K) mg base "_law_doubled" 2 F__law_doubled 1 := fng_g V.f__law_doubled sc__law_doubled (does__law_doubled V)
theorem does__law_machine_by (V : Vx w K mg) : Does P w (tb w K) mg base N__law_machine_by "_law_machine_by" s__law_machine_by 2 kNo b__law_machine_by := by
  intro f cdv A outer s H E hr
  unfold b__law_machine_by
  exact (xss_cons (xs_set 2 (fun _ => sc__law_machine_by.nd) (xr_d (xe_mod (xe_div (xe_ix (ha := (xe_var 0)) (hb := xe_int)) xe_int) xe_int))) (xss_cons (xs_set 3 (fun _ => sc__law_machine_by.nd) (xr_call (dvs := []) (dd := []) ((ok__law_steps_by V).d hr (by omega)) .nil (fun _ => reps_nil) (xaa_v (xe_fz (xr_sl (ha := (xe_var 0)) (hl := (xo_some xe_int)) (hh := (xo_some (xe_add (ha := xe_int) (hb := (xe_mod (xe_div (xe_ix (ha := (xe_var 0)) (hb := xe_int)) xe_int) xe_int))))))) (xaa_v (xe_var 1) (xaa_v (xe_add (ha := xe_int) (hb := (xe_mod (xe_ix (ha := (xe_var 0)) (hb := xe_int)) xe_int))) (xaa_v (xe_var 2) xaa_nil)))))) (xss_cons (xs_if (xt_gt (xe_mod (xe_div (xe_ix (ha := (xe_var 0)) (hb := xe_int)) xe_int) xe_int) xe_int) (xss_one (xs_set 3 (fun _ => sc__law_machine_by.nd) (xr_call (dvs := []) (dd := []) ((ok__law_doubled V).d hr (by omega)) .nil (fun _ => reps_nil) (xaa_v (xe_var 3) (xaa_v (xe_fz (xr_sl (ha := (xe_var 0)) (hl := (xo_some xe_int)) (hh := xo_none))) xaa_nil))))) xss_nil) (xss_one (xs_ret (xr_d (xe_tup (xa_cons (xe_tuple (fun _ => V.n_tuple) (xa_cons (xe_fz (xr_sorted (fun _ => V.n_sorted) (xa_cons (xe_var 1) xa_nil))) xa_nil)) (xa_cons (xe_var 2) (xa_cons (xe_var 3) xa_nil))))))))))
theorem ok__law_machine_by (V : Vx w K mg) : FnG P w (tb w K) mg base "_law_machine_by" 2 F__law_machine_by 3 := fng_g V.f__law_machine_by sc__law_machine_by (does__law_machine_by V)
theorem does__law_follows (V : Vx w K mg) : Does P w (tb w K) mg base N__law_follows "_law_follows" s__law_follows 0 kNo b__law_follows := by
  intro f cdv A outer s H E hr
  unfold b__law_follows
  exact (xss_cons (xs_for (xi_seq (h := (xe_var 0))) (xg_tup (n := 3) (h := (xgs_cons (xg_name 3 (hN := (fun _ => sc__law_follows.nd))) (xgs_cons (xg_name 4 (hN := (fun _ => sc__law_follows.nd))) (xgs_cons (xg_name 5 (hN := (fun _ => sc__law_follows.nd))) xgs_nil))))) (xss_one (xs_if (xt_eqL (rm_def hr) (ha := (xe_fz (xr_lc (own := [("_law_m", 6), ("_law_t", 7), ("_law_r", 8)]) (fun _ => sc__law_follows.nd) (xi_seq (h := (xe_var 1))) (fun _ => show BlkOk N__law_follows (defScope s__law_follows) _ _ from blkOk_by (by decide +kernel)) (xgb_tup (n := 3) (h := (xgbs_cons (xgb_name 6 (by simp) (fun _ => sc__law_follows.nd)) (xgbs_cons (xgb_name 7 (by simp) (fun _ => sc__law_follows.nd)) (xgbs_cons (xgb_name 8 (by simp) (fun _ => sc__law_follows.nd)) xgbs_nil))))) (xts_one (xt_w (xw_and (xt_eq (rm_blk (rm_def hr)) (ha := (xe_var 6)) (hb := (xe_var 3))) (xw_and (xt_eq (rm_blk (rm_def hr)) (ha := (xe_var 8)) (hb := (xe_var 5))) (xw_and1 (xt_val (xe_ix (ha := (xe_ix (ha := (xe_var 2)) (hb := (xe_var 4)))) (hb := (xe_var 7))))))))) xe_int))) (hb := (xe_fz (xr_lst xa_nil)))) (xss_one (xs_ret (xr_d xe_bl))) xss_nil)) own_def) (xss_one (xs_ret (xr_d xe_bl))))
theorem ok__law_follows (V : Vx w K mg) : FnG P w (tb w K) mg base "_law_follows" 3 F__law_follows 1 := fng_g V.f__law_follows sc__law_follows (does__law_follows V)
theorem does__law_near (V : Vx w K mg) : Does P w (tb w K) mg base N__law_near "_law_near" s__law_near 1 kNo b__law_near := by
  intro f cdv A outer s H E hr
  unfold b__law_near
  exact (xss_cons (xs_set 1 (fun _ => sc__law_near.nd) (xr_d (xe_add (ha := xe_int) (hb := (xe_maxd (fun _ => V.n_max) (xa_cons (xe_fz (xr_lc (own := [("_law_step", 9)]) (fun _ => sc__law_near.nd) (xi_seq (h := (xe_var 0))) (fun _ => show BlkOk N__law_near (defScope s__law_near) _ _ from blkOk_by (by decide +kernel)) (xgb_name 9 (by simp) (fun _ => sc__law_near.nd)) xts_nil (xe_max2 (fun _ => V.n_max) (xa_cons (xe_ix (ha := (xe_var 9)) (hb := xe_int)) (xa_cons (xe_ix (ha := (xe_var 9)) (hb := xe_int)) xa_nil))))) xa_nil) xe_int))))) (xss_cons (xs_setLc 2 (own := [("_law_state", 8)]) (fun _ => sc__law_near.nd) (xi_r1 (fun _ => V.n_range) (xa_cons (xe_var 1) xa_nil)) (fun _ => show BlkOk N__law_near (defScope s__law_near) _ _ from blkOk_by (by decide +kernel)) (xgb_name 8 (by simp) (fun _ => sc__law_near.nd)) xts_nil (xe_fz (xr_lc (own := [("_law_step", 9)]) (fun _ => sc__law_near.nd) (xi_seq (h := (xe_var 0))) (fun _ => blkOk_by (by kernel_rfl)) (xgb_name 9 (by simp) (fun _ => sc__law_near.nd)) (xts_one (xt_eq (rm_blk (rm_blk (rm_def hr))) (ha := (xe_ix (ha := (xe_var 9)) (hb := xe_int))) (hb := (xe_var 8)))) (xe_sl (ha := (xe_var 9)) (hl := (xo_some xe_int)) (hh := xo_none)))) (fun _ => sw_true rfl rfl rfl (by decide +kernel))) (xss_cons (xs_setLcR 3 (own := [("_law_state", 8)]) (fun _ => sc__law_near.nd) (xi_r1 (fun _ => V.n_range) (xa_cons (xe_var 1) xa_nil)) (fun _ => show BlkOk N__law_near (defScope s__law_near) _ _ from blkOk_by (by decide +kernel)) (xgb_name 8 (by simp) (fun _ => sc__law_near.nd)) xts_nil (xr_mulL (xe_fz (xr_lst (xa_cons xe_bl xa_nil))) (xe_var 1)) (fun _ => sw_true rfl rfl rfl (by decide +kernel))) (xss_cons (xs_set 4 (fun _ => sc__law_near.nd) (xr_d xe_bl)) (xss_cons (xs_while 200 (xt_val (xe_var 4)) (xss_cons (xs_set 4 (fun _ => sc__law_near.nd) (xr_d xe_bl)) (xss_one (xs_for (xi_r1 (fun _ => V.n_range) (xa_cons (xe_var 1) xa_nil)) (xg_name 5 (hN := (fun _ => sc__law_near.nd))) (xss_one (xs_for (xi_r1 (fun _ => V.n_range) (xa_cons (xe_var 1) xa_nil)) (xg_name 6 (hN := (fun _ => sc__law_near.nd))) (xss_cons (xs_set 7 (fun _ => sc__law_near.nd) (xr_d (xe_full (xe_and (xe_fz (xr_call (dvs := []) (dd := []) ((ok__law_follows V).d hr (by omega)) .nil (fun _ => reps_nil) (xaa_v (xe_ix (ha := (xe_var 2)) (hb := (xe_var 5))) (xaa_v (xe_ix (ha := (xe_var 2)) (hb := (xe_var 6))) (xaa_v (xe_varO 3) xaa_nil))))) (xe_one (xe_fz (xr_call (dvs := []) (dd := []) ((ok__law_follows V).d hr (by omega)) .nil (fun _ => reps_nil) (xaa_v (xe_ix (ha := (xe_var 2)) (hb := (xe_var 6))) (xaa_v (xe_ix (ha := (xe_var 2)) (hb := (xe_var 5))) (xaa_v (xe_varO 3) xaa_nil)))))))))) (xss_one (xs_if (xt_full (xt_w (xw_and (xt_val (xe_ix (ha := (xe_ix (ha := (xe_varO 3)) (hb := (xe_var 5)))) (hb := (xe_var 6)))) (xw_and1 (xt_not (xt_val (xe_var 7))))))) (xss_cons (xs_setA (rm_def hr) (xr_d xe_bl) (xp_ix (rm_def hr) (xp_name 3) (xe_var 5)) (xe_var 6)) (xss_one (xs_set 4 (fun _ => sc__law_near.nd) (xr_d xe_bl)))) xss_nil))) own_def)) own_def))) own_def) (xss_one (xs_ret (xr_mv 3))))))))
theorem ok__law_near (V : Vx w K mg) : FnG P w (tb w K) mg base "_law_near" 1 F__law_near 2 := fng_g V.f__law_near sc__law_near (does__law_near V)
theorem does__law_classes (V : Vx w K mg) : Does P w (tb w K) mg base N__law_classes "_law_classes" s__law_classes 2 kNo b__law_classes := by
  intro f cdv A outer s H E hr
  unfold b__law_classes
  exact (xss_cons (xs_set 1 (fun _ => sc__law_classes.nd) (xr_call (dvs := []) (dd := []) ((ok__law_near V).d hr (by omega)) .nil (fun _ => reps_nil) (xaa_v (xe_var 0) xaa_nil))) (xss_cons (xs_set 2 (fun _ => sc__law_classes.nd) (xr_lst xa_nil)) (xss_cons (xs_for (xi_r1 (fun _ => V.n_range) (xa_cons (xe_len (fun _ => V.n_len) (xa_cons (xe_varO 1) xa_nil)) xa_nil)) (xg_name 3 (hN := (fun _ => sc__law_classes.nd))) (xss_one (xs_if (xt_eqL (rm_def hr) (ha := (xe_fz (xr_lc (own := [("_law_other", 4)]) (fun _ => sc__law_classes.nd) (xi_r1 (fun _ => V.n_range) (xa_cons (xe_var 3) xa_nil)) (fun _ => show BlkOk N__law_classes (defScope s__law_classes) _ _ from blkOk_by (by decide +kernel)) (xgb_name 4 (by simp) (fun _ => sc__law_classes.nd)) (xts_one (xt_val (xe_ix (ha := (xe_ix (ha := (xe_varO 1)) (hb := (xe_var 3)))) (hb := (xe_var 4))))) xe_int))) (hb := (xe_fz (xr_lst xa_nil)))) (xss_one (xs_app 2 (xe_fz (xr_lc (own := [("_law_other", 4)]) (fun _ => sc__law_classes.nd) (xi_r1 (fun _ => V.n_range) (xa_cons (xe_len (fun _ => V.n_len) (xa_cons (xe_varO 1) xa_nil)) xa_nil)) (fun _ => show BlkOk N__law_classes (defScope s__law_classes) _ _ from blkOk_by (by decide +kernel)) (xgb_name 4 (by simp) (fun _ => sc__law_classes.nd)) (xts_one (xt_val (xe_ix (ha := (xe_ix (ha := (xe_varO 1)) (hb := (xe_var 3)))) (hb := (xe_var 4))))) (xe_var 4))))) xss_nil)) own_def) (xss_one (xs_ret (xr_mv 2))))))
theorem ok__law_classes (V : Vx w K mg) : FnG P w (tb w K) mg base "_law_classes" 1 F__law_classes 3 := fng_g V.f__law_classes sc__law_classes (does__law_classes V)
theorem does__law_between (V : Vx w K mg) : Does P w (tb w K) mg base N__law_between "_law_between" s__law_between 3 kNo b__law_between := by
  intro f cdv A outer s H E hr
  unfold b__law_between
  exact (xss_cons (xs_set 1 (fun _ => sc__law_between.nd) xr_dct0) (xss_cons (xs_for (xi_en (hm := (fun _ => V.n_enumerate)) (h := (xa_cons (xe_fz (xr_call (dvs := []) (dd := []) ((ok__law_classes V).d hr (by omega)) .nil (fun _ => reps_nil) (xaa_v (xe_var 0) xaa_nil))) xa_nil))) (xg_tup (n := 2) (h := (xgs_cons (xg_name 2 (hN := (fun _ => sc__law_between.nd))) (xgs_cons (xg_name 3 (hN := (fun _ => sc__law_between.nd))) xgs_nil)))) (xss_one (xs_for (xi_seq (h := (xe_var 3))) (xg_name 4 (hN := (fun _ => sc__law_between.nd))) (xss_one (xs_setA (rm_def hr) (xr_d (xe_var 2)) (xp_name 1) (xe_var 4))) own_def)) own_def) (xss_cons (xs_set 5 (fun _ => sc__law_between.nd) xr_dct0) (xss_cons (xs_for (xi_seq (h := (xe_var 0))) (xg_tup (n := 4) (h := (xgs_cons (xg_name 4 (hN := (fun _ => sc__law_between.nd))) (xgs_cons (xg_name 6 (hN := (fun _ => sc__law_between.nd))) (xgs_cons (xg_name 7 (hN := (fun _ => sc__law_between.nd))) (xgs_cons (xg_name 8 (hN := (fun _ => sc__law_between.nd))) xgs_nil)))))) (xss_one (xs_setA (rm_def hr) (xr_d xe_bl) (xp_name 5) (xe_tup (xa_cons (xe_ixD (rm_def hr) (xe_var 1) (xe_var 4)) (xa_cons (xe_var 6) (xa_cons (xe_ixD (rm_def hr) (xe_var 1) (xe_var 7)) (xa_cons (xe_var 8) xa_nil))))))) own_def) (xss_one (xs_ret (xr_sortDN (rm_def hr) (fun _ => V.n_sorted) (xa_cons (xe_var 5) xa_nil))))))))
theorem ok__law_between (V : Vx w K mg) : FnG P w (tb w K) mg base "_law_between" 1 F__law_between 4 := fng_g V.f__law_between sc__law_between (does__law_between V)
theorem does__law_so (V : Vx w K mg) : Does P w (tb w K) mg base N__law_so "_law_so" s__law_so 0 kNo b__law_so := by
  intro f cdv A outer s H E hr
  unfold b__law_so
  exact (xss_one (xs_ret (xr_d (xe_and (xe_isc V.i_Machine (fun _ => V.n_isinstance) (fun _ => V.g_Machine) (xe_var 0)) (xe_and (xe_eq (rm_def hr) (ha := (xe_fld (ixok_names V) (xe_var 0))) (hb := (xe_var 1))) (xe_and (xe_eq (rm_def hr) (ha := (xe_fld (ixok_bells V) (xe_var 0))) (hb := (xe_var 2))) (xe_one (xe_eq (rm_def hr) (ha := (xe_fld (ixok_steps V) (xe_var 0))) (hb := (xe_var 3))))))))))
theorem ok__law_so (V : Vx w K mg) : FnG P w (tb w K) mg base "_law_so" 4 F__law_so 1 := fng_g V.f__law_so sc__law_so (does__law_so V)
theorem does__law_right_by (V : Vx w K mg) : Does P w (tb w K) mg base N__law_right_by "_law_right_by" s__law_right_by 4 kNo b__law_right_by := by
  intro f cdv A outer s H E hr
  unfold b__law_right_by
  exact (xss_cons (xs_set 1 (fun _ => sc__law_right_by.nd) (xr_call (dvs := []) (dd := []) ((ok__law_mixed V).d hr (by omega)) .nil (fun _ => reps_nil) (xaa_v (xe_var 0) (xaa_v xe_int (xaa_v xe_int xaa_nil))))) (xss_cons (xs_set 2 (fun _ => sc__law_right_by.nd) (xr_sorted (fun _ => V.n_sorted) (xa_cons (xe_fz (xr_sl (ha := (xe_fz (xr_call (dvs := []) (dd := []) ((ok__law_marks_by V).d hr (by omega)) .nil (fun _ => reps_nil) (xaa_v (xe_ix (ha := (xe_var 1)) (hb := xe_int)) xaa_nil)))) (hl := xo_none) (hh := (xo_some (xe_mod (xe_ix (ha := (xe_var 1)) (hb := xe_int)) xe_int))))) xa_nil))) (xss_cons (xs_asg (xe_fz (xr_call (dvs := []) (dd := []) ((ok__law_machine_by V).d hr (by omega)) .nil (fun _ => reps_nil) (xaa_v (xe_fz (xr_sl (ha := (xe_var 1)) (hl := xo_none) (hh := (xo_some xe_int)))) (xaa_v (xe_var 2) xaa_nil)))) (xg_tup (n := 3) (h := (xgs_cons (xg_name 3 (hN := (fun _ => sc__law_right_by.nd))) (xgs_cons (xg_name 4 (hN := (fun _ => sc__law_right_by.nd))) (xgs_cons (xg_name 5 (hN := (fun _ => sc__law_right_by.nd))) xgs_nil)))))) (xss_cons (xs_set 6 (fun _ => sc__law_right_by.nd) (xr_makeR (nf := 3) ((mok_Machine V).d hr (by omega)) (xaa_v (xe_var 3) (xaa_v (xe_var 4) (xaa_v (xe_fz (xr_list (fun _ => V.n_list) (xa_cons (xe_var 5) xa_nil))) xaa_nil))))) (xss_cons (xs_set 7 (fun _ => sc__law_right_by.nd) (xr_call (dvs := []) (dd := []) ((ok__law_between V).d hr (by omega)) .nil (fun _ => reps_nil) (xaa_v (xe_var 5) xaa_nil))) (xss_cons (xs_set 8 (fun _ => sc__law_right_by.nd) (xr_call (dvs := []) (dd := []) ((ok_folded V).d hr (by omega)) .nil (fun _ => reps_nil) (xaa_v (xe_varO 6) xaa_nil))) (xss_cons (xs_if (xt_full (xt_w (xw_or (xt_not (xt_val (xe_fz (xr_call (dvs := []) (dd := []) ((ok__law_so V).d hr (by omega)) .nil (fun _ => reps_nil) (xaa_v (xe_varO 8) (xaa_v (xe_var 3) (xaa_v (xe_var 4) (xaa_v (xe_var 7) xaa_nil)))))))) (xw_or1 (xt_not (xt_val (xe_fz (xr_call (dvs := []) (dd := []) ((ok__law_so V).d hr (by omega)) .nil (fun _ => reps_nil) (xaa_v (xe_varO 6) (xaa_v (xe_var 3) (xaa_v (xe_var 4) (xaa_v (xe_var 5) xaa_nil)))))))))))) (xss_one (xs_ret (xr_d xe_bl))) xss_nil) (xss_cons (xs_if (xt_full (xt_w (xw_or (xt_not (xt_val (xe_fz (xr_call (dvs := []) (dd := []) ((ok__law_so V).d hr (by omega)) .nil (fun _ => reps_nil) (xaa_v (xe_fz (xr_call (dvs := []) (dd := []) ((ok_folded V).d hr (by omega)) .nil (fun _ => reps_nil) (xaa_v (xe_varO 8) xaa_nil))) (xaa_v (xe_var 3) (xaa_v (xe_var 4) (xaa_v (xe_var 7) xaa_nil)))))))) (xw_or1 (xt_ne (rm_def hr) (ha := (xe_fz (xr_call (dvs := []) (dd := []) ((ok_classes_of V).d hr (by omega)) .nil (fun _ => reps_nil) (xaa_v (xe_varO 8) xaa_nil)))) (hb := (xe_fz (xr_lc (own := [("_law_k", 9)]) (fun _ => sc__law_right_by.nd) (xi_r1 (fun _ => V.n_range) (xa_cons (xe_fz (xr_meth0 ((tok_count V).d hr (by omega)) (tok_count V (P := P) (base := base)).nf (xe_varO 8))) xa_nil)) (fun _ => show BlkOk N__law_right_by (defScope s__law_right_by) _ _ from blkOk_by (by decide +kernel)) (xgb_name 9 (by simp) (fun _ => sc__law_right_by.nd)) xts_nil (xe_fz (xr_lst (xa_cons (xe_var 9) xa_nil))))))))))) (xss_one (xs_ret (xr_d xe_bl))) xss_nil) (xss_cons (xs_if (xt_full (xt_ne (rm_def hr) (ha := (xe_fz (xr_meth0 ((tok_count V).d hr (by omega)) (tok_count V (P := P) (base := base)).nf (xe_varO 8)))) (hb := (xe_add (ha := xe_int) (hb := (xe_maxd (fun _ => V.n_max) (xa_cons (xe_fz (xr_lc (own := [("_law_step", 10)]) (fun _ => sc__law_right_by.nd) (xi_lst (h := (xe_var 7))) (fun _ => show BlkOk N__law_right_by (defScope s__law_right_by) _ _ from blkOk_by (by decide +kernel)) (xgb_name 10 (by simp) (fun _ => sc__law_right_by.nd)) xts_nil (xe_max2 (fun _ => V.n_max) (xa_cons (xe_ix (ha := (xe_var 10)) (hb := xe_int)) (xa_cons (xe_ix (ha := (xe_var 10)) (hb := xe_int)) xa_nil))))) xa_nil) xe_int)))))) (xss_one (xs_ret (xr_d xe_bl))) xss_nil) (xss_cons (xs_expr (xr_d (xe_mut0 (op := opClr) PySem.F.plainAttrs_list PySem.F.slot_list_clear PySem.F.type_list_clear (fun _ => mt_clear) m_clr (xp_fld (ixok_steps V) (xp_name 8))))) (xss_one (xs_ret (xr_d (xe_and (xe_fz (xr_call (dvs := []) (dd := []) ((ok__law_so V).d hr (by omega)) .nil (fun _ => reps_nil) (xaa_v (xe_fz (xr_call (dvs := []) (dd := []) ((ok_folded V).d hr (by omega)) .nil (fun _ => reps_nil) (xaa_v (xe_varO 6) xaa_nil))) (xaa_v (xe_var 3) (xaa_v (xe_var 4) (xaa_v (xe_var 7) xaa_nil)))))) (xe_one (xe_fz (xr_call (dvs := []) (dd := []) ((ok__law_so V).d hr (by omega)) .nil (fun _ => reps_nil) (xaa_v (xe_varO 6) (xaa_v (xe_var 3) (xaa_v (xe_var 4) (xaa_v (xe_var 5) xaa_nil)))))))))))))))))))))
theorem ok__law_right_by (V : Vx w K mg) : FnG P w (tb w K) mg base "_law_right_by" 1 F__law_right_by 5 := fng_g V.f__law_right_by sc__law_right_by (does__law_right_by V)
theorem does_law (V : Vx w K mg) : Does P w (tb w K) mg base N_law "law" s_law 5 kNo b_law := by
  intro f cdv A outer s H E hr
  unfold b_law
  exact (xss_cons (xs_for (xi_lst (h := (xe_fz (xr_lst (xa_cons (xe_var 0) (xa_cons (xe_fz (xr_cat (xe_fz (xr_sl (ha := (xe_var 0)) (hl := (xo_some xe_int)) (hh := xo_none))) (xe_fz (xr_lst (xa_cons (xe_add (ha := xe_int) (hb := (xe_len (fun _ => V.n_len) (xa_cons (xe_var 0) xa_nil)))) xa_nil))))) (xa_cons (xe_var 0) xa_nil))))))) (xg_name 1 (hN := (fun _ => sc_law.nd))) (xss_one (xs_if (xt_not (xt_val (xe_fz (xr_call (dvs := []) (dd := []) ((ok__law_right_by V).d hr (by omega)) .nil (fun _ => reps_nil) (xaa_v (xe_var 1) xaa_nil))))) (xss_one (xs_ret (xr_d xe_bl))) xss_nil)) own_def) (xss_one (xs_ret (xr_d xe_bl))))
end
end K52
set_option Elab.async false
set_option linter.all false
set_option maxRecDepth 100000
namespace FzP
variable {K : Type} [DecidableEq K]
def ddG : List K → List K → List K
  | kn, [] => kn
  | kn, x :: r => if x ∈ kn then ddG kn r else ddG (kn ++ [x]) r
def numG : List K → List K → List Nat
  | _, [] => []
  | kn, x :: r => if x ∈ kn then kn.idxOf x :: numG kn r else kn.length :: numG (kn ++ [x]) r
theorem ddG_pre : ∀ (xs kn : List K), ∃ t, ddG kn xs = kn ++ t
  | [], kn => ⟨[], by simp [ddG]⟩
  | x :: r, kn => by
    unfold ddG
    split
    · exact ddG_pre r kn
    · obtain ⟨t, e⟩ := ddG_pre r (kn ++ [x])
      exact ⟨x :: t, by rw [e]; simp⟩
theorem ddG_nodup : ∀ (xs : List K) {kn : List K}, kn.Nodup → (ddG kn xs).Nodup
  | [], kn, h => h
  | x :: r, kn, h => by
    unfold ddG
    split
    · exact ddG_nodup r h
    · rename_i hx
      refine ddG_nodup r (List.nodup_append.mpr ⟨h, by simp, fun a ha b hb e => hx ?_⟩)
      rw [List.mem_singleton] at hb
      subst hb; subst e; exact ha
theorem mem_ddG : ∀ (xs : List K) {kn : List K} {x : K}, x ∈ ddG kn xs ↔ x ∈ kn ∨ x ∈ xs
  | [], kn, x => by simp [ddG]
  | y :: r, kn, x => by
    unfold ddG
    split
    · rename_i hy
      rw [mem_ddG r, List.mem_cons]
      constructor
      · rintro (h | h)
        · exact .inl h
        · exact .inr (.inr h)
      · rintro (h | rfl | h)
        · exact .inl h
        · exact .inl hy
        · exact .inr h
    · rw [mem_ddG r, List.mem_append, List.mem_singleton, List.mem_cons, or_assoc]
theorem idx_app {kn t : List K} {x : K} (h : x ∈ kn) : (kn ++ t).idxOf x = kn.idxOf x := by
  rw [List.idxOf_append, if_pos h]
theorem numG_eq : ∀ (xs kn : List K), numG kn xs = xs.map fun x => (ddG kn xs).idxOf x
  | [], kn => rfl
  | x :: r, kn => by
    unfold numG ddG
    by_cases h : x ∈ kn
    · obtain ⟨t, e⟩ := ddG_pre r kn
      rw [if_pos h, if_pos h, List.map_cons, numG_eq r kn, e, idx_app h]
    · obtain ⟨t, e⟩ := ddG_pre r (kn ++ [x])
      rw [if_neg h, if_neg h, List.map_cons, numG_eq r (kn ++ [x]), e, idx_app (by simp), List.idxOf_append, if_neg h]
      simp
def dd (xs : List K) : List K := ddG [] xs
def num (xs : List K) : List Nat := numG [] xs
theorem dd_nodup (xs : List K) : (dd xs).Nodup := ddG_nodup xs List.nodup_nil
theorem mem_dd {xs : List K} {x : K} : x ∈ dd xs ↔ x ∈ xs := (mem_ddG xs).trans (by simp)
theorem num_eq (xs : List K) : num xs = xs.map fun x => (dd xs).idxOf x := numG_eq xs []
theorem num_len (xs : List K) : (num xs).length = xs.length := by rw [num_eq, List.length_map]
theorem idx_inj {l : List K} {x y : K} (hx : x ∈ l) (h : l.idxOf x = l.idxOf y) : x = y := by
  have h1 : l.idxOf x < l.length := List.idxOf_lt_length_iff.mpr hx
  have h2 : l.idxOf y < l.length := by rw [← h]; exact h1
  have e1 : l[l.idxOf x] = x := List.getElem_idxOf h1
  have e2 : l[l.idxOf y] = y := List.getElem_idxOf h2
  rw [← e1, ← e2]
  congr 1
theorem num_same {xs : List K} {s t : Nat} (hs : s < xs.length) (ht : t < xs.length) : (num xs)[s]'(by rw [num_len]; exact hs) = (num xs)[t]'(by rw [num_len]; exact ht) ↔ xs[s] = xs[t] := by
  simp only [num_eq, List.getElem_map]
  exact ⟨fun h => idx_inj (mem_dd.mpr (List.getElem_mem hs)) h, fun h => by rw [h]⟩
theorem num_lt {xs : List K} {k : Nat} (h : k ∈ num xs) : k < (dd xs).length := by
  rw [num_eq] at h
  obtain ⟨x, hx, rfl⟩ := List.mem_map.mp h
  exact List.idxOf_lt_length_iff.mpr (mem_dd.mpr hx)
theorem num_mem {xs : List K} {k : Nat} (h : k < (dd xs).length) : k ∈ num xs := by
  rw [num_eq]
  refine List.mem_map.mpr ⟨(dd xs)[k], mem_dd.mp (List.getElem_mem h), ?_⟩
  have h1 : (dd xs).idxOf (dd xs)[k] < (dd xs).length := List.idxOf_lt_length_iff.mpr (List.getElem_mem h)
  have e : (dd xs)[(dd xs).idxOf (dd xs)[k]] = (dd xs)[k] := List.getElem_idxOf h1
  exact (List.getElem_inj (dd_nodup xs)).mp e
theorem ddG_snoc : ∀ (xs kn : List K) (x : K), ddG kn (xs ++ [x]) = if x ∈ ddG kn xs then ddG kn xs else ddG kn xs ++ [x]
  | [], kn, x => by
    show (if x ∈ kn then ddG kn [] else ddG (kn ++ [x]) []) = _
    by_cases h : x ∈ kn
    · rw [if_pos h]; exact (if_pos (show x ∈ ddG kn [] from h)).symm
    · rw [if_neg h]; exact (if_neg (show ¬ x ∈ ddG kn [] from h)).symm
  | y :: r, kn, x => by
    rw [List.cons_append]
    unfold ddG
    split
    · exact ddG_snoc r kn x
    · exact ddG_snoc r _ x
theorem dd_snoc (xs : List K) (x : K) : dd (xs ++ [x]) = if x ∈ xs then dd xs else dd xs ++ [x] := by
  unfold dd
  rw [ddG_snoc]
  have : (x ∈ ddG [] xs) = (x ∈ xs) := propext (mem_dd (xs := xs))
  simp only [this]
def firsts (xs : List K) : List Nat := (List.range xs.length).filter fun i => !((List.range i).any fun j => decide (xs[j]? = xs[i]?))
theorem firsts_map : ∀ (n : Nat) (xs : List K), xs.length = n → (firsts xs).map (fun i => xs[i]?) = (dd xs).map some := by
  intro n
  induction n with
  | zero =>
    intro xs h
    have : xs = [] := List.eq_nil_of_length_eq_zero h
    subst this; rfl
  | succ n ih =>
    intro xs h
    obtain ⟨ys, x, rfl⟩ : ∃ ys x, xs = ys ++ [x] := by
      refine ⟨xs.dropLast, xs.getLast (by intro e; subst e; simp at h), ?_⟩
      exact (List.dropLast_concat_getLast _).symm
    have hl : ys.length = n := by simpa using h
    have low : ∀ i, i < n → (ys ++ [x])[i]? = ys[i]? := fun i hi => List.getElem?_append_left (by omega)
    have same : (List.range n).filter (fun i => !((List.range i).any fun j => decide ((ys ++ [x])[j]? = (ys ++ [x])[i]?))) = firsts ys := by
      unfold firsts
      rw [hl]
      refine List.filter_congr fun i hi => ?_
      have hi := List.mem_range.mp hi
      congr 1
      rw [Bool.eq_iff_iff, List.any_eq_true, List.any_eq_true]
      constructor
      · rintro ⟨j, hj, e⟩
        have := List.mem_range.mp hj
        rw [low i hi, low j (by omega)] at e
        exact ⟨j, hj, e⟩
      · rintro ⟨j, hj, e⟩
        have := List.mem_range.mp hj
        refine ⟨j, hj, ?_⟩
        rw [low i hi, low j (by omega)]
        exact e
    have last : (ys ++ [x])[n]? = some x := by rw [List.getElem?_append_right (by omega), hl]; simp
    have met : ((List.range n).any fun j => decide ((ys ++ [x])[j]? = (ys ++ [x])[n]?)) = decide (x ∈ ys) := by
      rw [Bool.eq_iff_iff, List.any_eq_true, decide_eq_true_iff]
      constructor
      · rintro ⟨j, hj, e⟩
        have := List.mem_range.mp hj
        rw [last, low j this, decide_eq_true_iff] at e
        exact List.mem_of_getElem? e
      · intro hx
        obtain ⟨j, hj⟩ := List.mem_iff_getElem?.mp hx
        have hjn : j < n := by rw [← hl]; exact (List.getElem?_eq_some_iff.mp hj).1
        exact ⟨j, List.mem_range.mpr hjn, by rw [last, low j hjn, hj]; simp⟩
    have key : firsts (ys ++ [x]) = if x ∈ ys then firsts ys else firsts ys ++ [n] := by
      have e0 : firsts (ys ++ [x]) = (List.range (n + 1)).filter fun i => !((List.range i).any fun j => decide ((ys ++ [x])[j]? = (ys ++ [x])[i]?)) := by
        unfold firsts; rw [h]
      rw [e0, List.range_succ, List.filter_append, same]
      by_cases hx : x ∈ ys
      · rw [if_pos hx, List.filter_cons_of_neg (by rw [met]; simp [hx])]
        simp
      · rw [if_neg hx, List.filter_cons_of_pos (by rw [met]; simp [hx])]
        simp
    have mlow : (firsts ys).map (fun i => (ys ++ [x])[i]?) = (firsts ys).map fun i => ys[i]? := by
      refine List.map_congr_left fun i hi => low i ?_
      rw [← hl]
      exact List.mem_range.mp (List.mem_filter.mp hi).1
    rw [key, dd_snoc]
    by_cases hx : x ∈ ys
    · rw [if_pos hx, if_pos hx, mlow, ih ys hl]
    · rw [if_neg hx, if_neg hx, List.map_append, List.map_append, mlow, ih ys hl, List.map_cons, last]
      rfl
end FzP
set_option Elab.async false
set_option linter.all false
set_option maxRecDepth 100000
namespace FzP
theorem fill_perm {α : Type} [DecidableEq α] : ∀ {M L : List α}, M.Nodup → (∀ x ∈ M, x ∈ L) → L.length ≤ M.length → L.Perm M
  | [], L, _, _, h => by
    have : L = [] := List.eq_nil_of_length_eq_zero (Nat.le_zero.mp h)
    subst this; exact .refl _
  | x :: M, L, n, s, h => by
    have n := List.nodup_cons.mp n
    have hx : x ∈ L := s x (.head _)
    have p : L.Perm (x :: L.erase x) := List.perm_cons_erase hx
    have ih := fill_perm (M := M) (L := L.erase x) n.2 (fun y hy => (List.mem_erase_of_ne (fun e : y = x => n.1 (by rw [← e]; exact hy))).mpr (s y (.tail _ hy))) (by
      rw [List.length_erase_of_mem hx]
      simp at h; omega)
    exact p.trans (ih.cons x)
theorem inj_of_nodup {α β : Type} {g : α → β} {l : List α} (h : (l.map g).Nodup) {a b : α} (ha : a ∈ l) (hb : b ∈ l) (e : g a = g b) : a = b := by
  obtain ⟨i, hi, rfl⟩ := List.getElem_of_mem ha
  obtain ⟨j, hj, rfl⟩ := List.getElem_of_mem hb
  have : (l.map g)[i]'(by simpa using hi) = (l.map g)[j]'(by simpa using hj) := by simpa using e
  have := (List.getElem_inj h).mp this
  subst this; rfl
section
variable {K J : Type} [DecidableEq K] [DecidableEq J]
theorem idx_map {g : K → J} : ∀ {l : List K} {x : K}, (∀ y ∈ l, g y = g x → y = x) → (l.map g).idxOf (g x) = l.idxOf x
  | [], x, _ => rfl
  | y :: l, x, h => by
    rw [List.map_cons, List.idxOf_cons, List.idxOf_cons]
    by_cases e : y = x
    · subst e; simp
    · have n : ¬ g y = g x := fun z => e (h y (.head _) z)
      have e1 : (g y == g x) = false := by simpa using n
      have e2 : (y == x) = false := by simpa using e
      rw [e1, e2, idx_map fun z hz => h z (.tail _ hz)]
theorem numG_map {g : K → J} : ∀ {xs kn : List K}, (∀ x ∈ kn ++ xs, ∀ y ∈ kn ++ xs, g x = g y → x = y) → numG (kn.map g) (xs.map g) = numG kn xs
  | [], kn, _ => rfl
  | x :: r, kn, h => by
    have hm : g x ∈ kn.map g ↔ x ∈ kn := by
      constructor
      · intro z
        obtain ⟨y, hy, e⟩ := List.mem_map.mp z
        rw [← h y (List.mem_append_left _ hy) x (List.mem_append_right _ (.head _)) e]
        exact hy
      · exact fun z => List.mem_map.mpr ⟨x, z, rfl⟩
    rw [List.map_cons]
    unfold numG
    by_cases c : x ∈ kn
    · rw [if_pos c, if_pos (hm.mpr c), idx_map fun y hy e => h y (List.mem_append_left _ hy) x (List.mem_append_right _ (.head _)) e, numG_map fun a ha b hb => h a (by
        rcases List.mem_append.mp ha with z | z
        · exact List.mem_append_left _ z
        · exact List.mem_append_right _ (.tail _ z)) b (by
        rcases List.mem_append.mp hb with z | z
        · exact List.mem_append_left _ z
        · exact List.mem_append_right _ (.tail _ z))]
    · have e1 : kn.map g ++ [g x] = (kn ++ [x]).map g := by simp
      rw [if_neg c, if_neg (fun z => c (hm.mp z)), e1, List.length_map, numG_map (kn := kn ++ [x]) fun a ha b hb => h a (by simpa using ha) b (by simpa using hb)]
theorem num_map {g : K → J} {xs : List K} (h : ∀ x ∈ xs, ∀ y ∈ xs, g x = g y → x = y) : num (xs.map g) = num xs := numG_map (kn := []) (by simpa using h)
def Fine (ys : List J) (xs : List K) : Prop := ys.length = xs.length ∧ ∀ s t : Nat, s < ys.length → t < ys.length → ys[s]? = ys[t]? → xs[s]? = xs[t]?
theorem fine_map {ys : List J} {xs : List K} (h : Fine ys xs) (d : K) : xs = ys.map fun y => (xs[ys.idxOf y]?).getD d := by
  refine List.ext_getElem? fun s => ?_
  rw [List.getElem?_map]
  by_cases hs : s < ys.length
  · have hx : s < xs.length := h.1 ▸ hs
    rw [List.getElem?_eq_getElem hs, Option.map_some]
    have h1 : ys.idxOf ys[s] < ys.length := List.idxOf_lt_length_iff.mpr (List.getElem_mem hs)
    have e : ys[ys.idxOf ys[s]]? = ys[s]? := by
      rw [List.getElem?_eq_getElem h1, List.getElem?_eq_getElem hs, List.getElem_idxOf h1]
    rw [h.2 _ _ h1 hs e, List.getElem?_eq_getElem hx]
    rfl
  · have hx : ¬ s < xs.length := h.1 ▸ hs
    rw [List.getElem?_eq_none (by omega), List.getElem?_eq_none (by omega)]
    rfl
theorem fine_same {ys : List J} {xs : List K} (h : Fine ys xs) (c : (dd ys).length ≤ (dd xs).length) : Fine xs ys ∧ num ys = num xs := by
  cases xs with
  | nil =>
    have : ys = [] := List.eq_nil_of_length_eq_zero h.1
    subst this
    exact ⟨⟨rfl, fun s t hs => absurd hs (Nat.not_lt_zero _)⟩, rfl⟩
  | cons d xs' =>
    generalize hX : d :: xs' = xs at h c
    have e := fine_map h d
    generalize hg : (fun y => (xs[ys.idxOf y]?).getD d) = g at e
    have p : ((dd ys).map g).Perm (dd xs) := fill_perm (dd_nodup xs) (fun x hx => by
      rw [mem_dd, e] at hx
      obtain ⟨y, hy, rfl⟩ := List.mem_map.mp hx
      exact List.mem_map.mpr ⟨y, mem_dd.mpr hy, rfl⟩) (by rw [List.length_map]; exact c)
    have nd : ((dd ys).map g).Nodup := p.nodup_iff.mpr (dd_nodup xs)
    have inj : ∀ a ∈ ys, ∀ b ∈ ys, g a = g b → a = b := fun a ha b hb z => inj_of_nodup nd (mem_dd.mpr ha) (mem_dd.mpr hb) z
    refine ⟨⟨h.1.symm, fun s t hs ht z => ?_⟩, by rw [e, num_map inj]⟩
    have hs' : s < ys.length := h.1 ▸ hs
    have ht' : t < ys.length := h.1 ▸ ht
    rw [e, List.getElem?_map, List.getElem?_map, List.getElem?_eq_getElem hs', List.getElem?_eq_getElem ht'] at z
    rw [List.getElem?_eq_getElem hs', List.getElem?_eq_getElem ht']
    exact congrArg some (inj _ (List.getElem_mem hs') _ (List.getElem_mem ht') (Option.some.inj z))
end
end FzP
set_option Elab.async false
set_option linter.all false
set_option maxRecDepth 100000
namespace FzP
section
variable {A C K : Type} [DecidableEq A] [DecidableEq C] [DecidableEq K]
abbrev Tld (A C : Type) : Type := Nat → List (A × Nat × C)
def img (p : List Nat) (x : A × Nat × C) : A × Nat × C := (x.1, p.getD x.2.1 0, x.2.2)
def LookEq (told : Tld A C) (p : List Nat) (s t : Nat) : Prop := ∀ x, x ∈ (told s).map (img p) ↔ x ∈ (told t).map (img p)
structure Sys (n : Nat) (told : Tld A C) (ky : List Nat → Nat → K) : Prop where
  tgt : ∀ s, s < n → ∀ x ∈ told s, x.2.1 < n
  key : ∀ p s t, s < n → t < n → (ky p s = ky p t ↔ LookEq told p s t)
variable {n : Nat} {told : Tld A C} {ky : List Nat → Nat → K}
def looks (n : Nat) (ky : List Nat → Nat → K) (p : List Nat) : List K := (List.range n).map (ky p)
def nextP (n : Nat) (ky : List Nat → Nat → K) (p : List Nat) : List Nat := num (looks n ky p)
theorem looks_len {p : List Nat} : (looks n ky p).length = n := by unfold looks; simp
theorem looks_at {p : List Nat} {s : Nat} (h : s < n) : (looks n ky p)[s]? = some (ky p s) := by unfold looks; simp [h]
theorem next_len {p : List Nat} : (nextP n ky p).length = n := (num_len _).trans looks_len
def Cl (p : List Nat) (s t : Nat) : Prop := p.getD s 0 = p.getD t 0
theorem next_cl {p : List Nat} {s t : Nat} (hs : s < n) (ht : t < n) : Cl (nextP n ky p) s t ↔ ky p s = ky p t := by
  have ls : s < (looks n ky p).length := by rw [looks_len]; exact hs
  have lt : t < (looks n ky p).length := by rw [looks_len]; exact ht
  have h := num_same (xs := looks n ky p) ls lt
  have e1 : (looks n ky p)[s] = ky p s := Option.some.inj ((List.getElem?_eq_getElem ls).symm.trans (looks_at hs))
  have e2 : (looks n ky p)[t] = ky p t := Option.some.inj ((List.getElem?_eq_getElem lt).symm.trans (looks_at ht))
  rw [e1, e2] at h
  rw [← h]
  unfold Cl nextP
  rw [List.getD_eq_getElem?_getD, List.getD_eq_getElem?_getD, List.getElem?_eq_getElem (by rw [num_len]; exact ls), List.getElem?_eq_getElem (by rw [num_len]; exact lt)]
  exact Iff.rfl
theorem look_mono (Y : Sys n told ky) {p q : List Nat} (h : ∀ s t, s < n → t < n → Cl q s t → Cl p s t) {s t : Nat} (hs : s < n) (ht : t < n) (e : LookEq told q s t) : LookEq told p s t := by
  have one : ∀ s t, s < n → t < n → (∀ x, x ∈ (told s).map (img q) → x ∈ (told t).map (img q)) → ∀ x, x ∈ (told s).map (img p) → x ∈ (told t).map (img p) := by
    intro s t hs ht g x hx
    obtain ⟨y, hy, rfl⟩ := List.mem_map.mp hx
    obtain ⟨z, hz, ez⟩ := List.mem_map.mp (g (img q y) (List.mem_map.mpr ⟨y, hy, rfl⟩))
    refine List.mem_map.mpr ⟨z, hz, ?_⟩
    unfold img at ez ⊢
    injection ez with e1 e2
    injection e2 with e2 e3
    rw [e1, e3]
    have := h z.2.1 y.2.1 (Y.tgt t ht z hz) (Y.tgt s hs y hy) e2
    unfold Cl at this
    rw [this]
  exact fun x => ⟨one s t hs ht (fun x => (e x).mp) x, one t s ht hs (fun x => (e x).mpr) x⟩
def seqP (n : Nat) (ky : List Nat → Nat → K) : Nat → List Nat
  | 0 => List.replicate n 0
  | i + 1 => nextP n ky (seqP n ky i)
theorem seq_len : ∀ i, (seqP n ky i).length = n
  | 0 => by simp [seqP]
  | i + 1 => next_len
theorem seq_fine (Y : Sys n told ky) : ∀ i s t, s < n → t < n → Cl (seqP n ky (i + 1)) s t → Cl (seqP n ky i) s t
  | 0, s, t, hs, ht, _ => by
    unfold Cl seqP
    rw [List.getD_eq_getElem?_getD, List.getD_eq_getElem?_getD]
    simp [hs, ht]
  | i + 1, s, t, hs, ht, h => by
    have h := (next_cl hs ht).mp h
    have h := (Y.key _ s t hs ht).mp h
    refine (next_cl hs ht).mpr ((Y.key _ s t hs ht).mpr ?_)
    exact look_mono Y (fun a b ha hb => seq_fine Y i a b ha hb) hs ht h
def cnt (p : List Nat) : Nat := (dd p).length
theorem cl_get {p : List Nat} {s t : Nat} (hs : s < p.length) (ht : t < p.length) : Cl p s t ↔ p[s]? = p[t]? := by
  unfold Cl
  rw [List.getD_eq_getElem?_getD, List.getD_eq_getElem?_getD, List.getElem?_eq_getElem hs, List.getElem?_eq_getElem ht]
  simp
theorem cnt_next {p : List Nat} : cnt (nextP n ky p) = (dd (looks n ky p)).length := by
  unfold cnt nextP
  refine List.Perm.length_eq (l₂ := List.range (dd (looks n ky p)).length) ?_ |>.trans List.length_range
  refine (List.perm_ext_iff_of_nodup (dd_nodup _) List.nodup_range).mpr fun k => ?_
  rw [mem_dd, List.mem_range]
  exact ⟨num_lt, num_mem⟩
theorem stays (Y : Sys n told ky) (i : Nat) (h : cnt (seqP n ky (i + 1)) ≤ cnt (seqP n ky i)) : nextP n ky (seqP n ky (i + 1)) = seqP n ky (i + 1) := by
  have f : Fine (seqP n ky (i + 1)) (seqP n ky i) := ⟨by rw [seq_len, seq_len], fun s t hs ht e => by
    have hs' := hs; have ht' := ht
    rw [seq_len] at hs' ht'
    exact (cl_get (by rw [seq_len]; exact hs') (by rw [seq_len]; exact ht')).mp (seq_fine Y i s t hs' ht' ((cl_get hs ht).mpr e))⟩
  obtain ⟨g, _⟩ := fine_same f h
  have same : ∀ s t, s < n → t < n → (ky (seqP n ky (i + 1)) s = ky (seqP n ky (i + 1)) t ↔ ky (seqP n ky i) s = ky (seqP n ky i) t) := fun s t hs ht => by
    rw [Y.key _ s t hs ht, Y.key _ s t hs ht]
    exact ⟨look_mono Y (fun a b ha hb => seq_fine Y i a b ha hb) hs ht, look_mono Y (fun a b ha hb c => (cl_get (by rw [seq_len]; exact ha) (by rw [seq_len]; exact hb)).mpr (g.2 a b (by rw [seq_len]; exact ha) (by rw [seq_len]; exact hb) ((cl_get (by rw [seq_len]; exact ha) (by rw [seq_len]; exact hb)).mp c))) hs ht⟩
  have f2 : Fine (looks n ky (seqP n ky (i + 1))) (looks n ky (seqP n ky i)) := ⟨by rw [looks_len, looks_len], fun s t hs ht e => by
    rw [looks_len] at hs ht
    rw [looks_at hs, looks_at ht] at e ⊢
    exact congrArg some ((same s t hs ht).mp (Option.some.inj e))⟩
  have f3 : Fine (looks n ky (seqP n ky i)) (looks n ky (seqP n ky (i + 1))) := ⟨by rw [looks_len, looks_len], fun s t hs ht e => by
    rw [looks_len] at hs ht
    rw [looks_at hs, looks_at ht] at e ⊢
    exact congrArg some ((same s t hs ht).mpr (Option.some.inj e))⟩
  -- as many on both sides
  have le : ∀ {xs ys : List K}, Fine ys xs → (dd xs).length ≤ (dd ys).length := fun {xs ys} f => by
    cases xs with
    | nil => simp [dd, ddG]
    | cons d xs' =>
      have e := fine_map f d
      generalize hg : (fun y => ((d :: xs')[ys.idxOf y]?).getD d) = g at e
      have sub : ∀ x ∈ dd (d :: xs'), x ∈ (dd ys).map g := fun x hx => by
        rw [mem_dd, e] at hx
        obtain ⟨y, hy, rfl⟩ := List.mem_map.mp hx
        exact List.mem_map.mpr ⟨y, mem_dd.mpr hy, rfl⟩
      rcases Nat.lt_or_ge ((dd ys).map g).length (dd (d :: xs')).length with z | z
      · have := (fill_perm (dd_nodup _) sub (Nat.le_of_lt z)).length_eq
        omega
      · rwa [List.length_map] at z
  exact (fine_same f2 (le f3)).2
end
end FzP
set_option Elab.async false
set_option linter.all false
set_option maxRecDepth 100000
namespace FzP
section
variable {A C K : Type} [DecidableEq A] [DecidableEq C] [DecidableEq K] {n : Nat} {told : Tld A C} {ky : List Nat → Nat → K}
def Fol (told : Tld A C) (N : Nat → Nat → Prop) (s t : Nat) : Prop := ∀ x ∈ told s, ∃ y ∈ told t, y.1 = x.1 ∧ y.2.2 = x.2.2 ∧ N x.2.1 y.2.1
theorem fol_cl (Y : Sys n told ky) {p : List Nat} (st : nextP n ky p = p) {N : Nat → Nat → Prop} (h : ∀ a b, a < n → b < n → Cl p a b → N a b) {s t : Nat} (hs : s < n) (ht : t < n) (e : Cl p s t) : Fol told N s t ∧ Fol told N t s := by
  have e' : Cl (nextP n ky p) s t := by rw [st]; exact e
  have lk := (Y.key p s t hs ht).mp ((next_cl hs ht).mp e')
  have one : ∀ s t, s < n → t < n → (∀ x, x ∈ (told s).map (img p) → x ∈ (told t).map (img p)) → Fol told N s t := fun s t hs ht g x hx => by
    obtain ⟨y, hy, ey⟩ := List.mem_map.mp (g (img p x) (List.mem_map.mpr ⟨x, hx, rfl⟩))
    unfold img at ey
    injection ey with e1 e2
    injection e2 with e2 e3
    exact ⟨y, hy, e1, e3, h _ _ (Y.tgt s hs x hx) (Y.tgt t ht y hy) (show Cl p _ _ from e2.symm)⟩
  exact ⟨one s t hs ht fun x => (lk x).mp, one t s ht hs fun x => (lk x).mpr⟩
theorem near_sub (Y : Sys n told ky) {N : Nat → Nat → Prop} (c : ∀ a b, a < n → b < n → N a b → Fol told N a b ∧ Fol told N b a) : ∀ i s t, s < n → t < n → N s t → Cl (seqP n ky i) s t
  | 0, s, t, hs, ht, _ => by
    unfold Cl seqP
    rw [List.getD_eq_getElem?_getD, List.getD_eq_getElem?_getD]
    simp [hs, ht]
  | i + 1, s, t, hs, ht, h => by
    refine (next_cl hs ht).mpr ((Y.key _ s t hs ht).mpr fun x => ?_)
    obtain ⟨h1, h2⟩ := c s t hs ht h
    constructor
    · intro hx
      obtain ⟨y, hy, rfl⟩ := List.mem_map.mp hx
      obtain ⟨z, hz, e1, e2, e3⟩ := h1 y hy
      refine List.mem_map.mpr ⟨z, hz, ?_⟩
      unfold img
      have e4 : (seqP n ky i).getD y.2.1 0 = (seqP n ky i).getD z.2.1 0 := near_sub Y c i _ _ (Y.tgt s hs y hy) (Y.tgt t ht z hz) e3
      rw [e1, e2, e4]
    · intro hx
      obtain ⟨y, hy, rfl⟩ := List.mem_map.mp hx
      obtain ⟨z, hz, e1, e2, e3⟩ := h2 y hy
      refine List.mem_map.mpr ⟨z, hz, ?_⟩
      unfold img
      have e4 : (seqP n ky i).getD y.2.1 0 = (seqP n ky i).getD z.2.1 0 := near_sub Y c i _ _ (Y.tgt t ht y hy) (Y.tgt s hs z hz) e3
      rw [e1, e2, e4]
theorem near_eq (Y : Sys n told ky) {i : Nat} (h : cnt (seqP n ky (i + 1)) ≤ cnt (seqP n ky i)) {N : Nat → Nat → Prop} (c : ∀ a b, a < n → b < n → N a b → Fol told N a b ∧ Fol told N b a)
    (g : ∀ a b, a < n → b < n → Cl (seqP n ky (i + 1)) a b → N a b) {s t : Nat} (hs : s < n) (ht : t < n) : N s t ↔ Cl (seqP n ky (i + 1)) s t :=
  ⟨near_sub Y c (i + 1) s t hs ht, g s t hs ht⟩
end
section
variable {K : Type} [DecidableEq K]
def progC (n : Nat) (p : List Nat) : List (List Nat) := (List.range (cnt p)).map fun k => (List.range n).filter fun t => decide (p.getD t 0 = k)
def lawC (n : Nat) (N : Nat → Nat → Bool) : List (List Nat) := ((List.range n).filter fun s => !((List.range s).any fun o => N s o)).map fun s => (List.range n).filter fun t => N s t
theorem cnt_num {xs : List K} : cnt (num xs) = (dd xs).length := by
  unfold cnt
  refine List.Perm.length_eq (l₂ := List.range (dd xs).length) ?_ |>.trans List.length_range
  refine (List.perm_ext_iff_of_nodup (dd_nodup _) List.nodup_range).mpr fun k => ?_
  rw [mem_dd, List.mem_range]
  exact ⟨num_lt, num_mem⟩
theorem classes_eq {n : Nat} {xs : List K} (hl : xs.length = n) {N : Nat → Nat → Bool} (h : ∀ s t, s < n → t < n → (N s t = true ↔ Cl (num xs) s t)) : lawC n N = progC n (num xs) := by
  have at_ : ∀ s, s < n → ∃ x, xs[s]? = some x ∧ (num xs).getD s 0 = (dd xs).idxOf x := fun s hs => by
    have hs' : s < xs.length := by omega
    refine ⟨xs[s], List.getElem?_eq_getElem hs', ?_⟩
    rw [List.getD_eq_getElem?_getD, num_eq, List.getElem?_map, List.getElem?_eq_getElem hs']
    rfl
  have cl : ∀ s t, s < n → t < n → (Cl (num xs) s t ↔ xs[s]? = xs[t]?) := fun s t hs ht => by
    obtain ⟨x, ex, e1⟩ := at_ s hs
    obtain ⟨y, ey, e2⟩ := at_ t ht
    unfold Cl
    rw [e1, e2, ex, ey]
    constructor
    · intro z
      rw [idx_inj (mem_dd.mpr (List.mem_of_getElem? ex)) z]
    · intro z
      rw [Option.some.inj z]
  have fi : ((List.range n).filter fun s => !((List.range s).any fun o => N s o)) = firsts xs := by
    unfold firsts
    rw [hl]
    refine List.filter_congr fun s hs => ?_
    have hs := List.mem_range.mp hs
    congr 1
    rw [Bool.eq_iff_iff, List.any_eq_true, List.any_eq_true]
    constructor
    · rintro ⟨o, ho, e⟩
      have hos := List.mem_range.mp ho
      refine ⟨o, ho, ?_⟩
      rw [decide_eq_true_iff]
      exact ((cl s o hs (by omega)).mp ((h s o hs (by omega)).mp e)).symm
    · rintro ⟨o, ho, e⟩
      have hos := List.mem_range.mp ho
      rw [decide_eq_true_iff] at e
      exact ⟨o, ho, (h s o hs (by omega)).mpr ((cl s o hs (by omega)).mpr e.symm)⟩
  unfold lawC progC
  rw [fi, cnt_num]
  have fm := firsts_map n xs hl
  -- by the members met first
  have left : (firsts xs).map (fun s => (List.range n).filter fun t => N s t) = ((firsts xs).map fun i => xs[i]?).map fun o => (List.range n).filter fun t => decide (some ((num xs).getD t 0) = o.map (dd xs).idxOf) := by
    rw [List.map_map]
    refine List.map_congr_left fun s hs => ?_
    have hs : s < n := by rw [← hl]; exact List.mem_range.mp (List.mem_filter.mp hs).1
    refine List.filter_congr fun t ht => ?_
    have ht := List.mem_range.mp ht
    obtain ⟨x, ex, e1⟩ := at_ s hs
    obtain ⟨y, ey, e2⟩ := at_ t ht
    rw [Bool.eq_iff_iff, h s t hs ht]
    show _ ↔ decide (some ((num xs).getD t 0) = (xs[s]?).map (dd xs).idxOf) = true
    rw [decide_eq_true_iff, ex, Option.map_some, Option.some_inj, e2]
    unfold Cl
    rw [e1, e2]
    exact eq_comm
  rw [left, fm, List.map_map]
  refine List.ext_getElem? fun k => ?_
  rw [List.getElem?_map, List.getElem?_map]
  by_cases hk : k < (dd xs).length
  · rw [List.getElem?_eq_getElem hk, List.getElem?_range hk]
    refine congrArg some (List.filter_congr fun t _ => ?_)
    have h1 : (dd xs).idxOf (dd xs)[k] < (dd xs).length := List.idxOf_lt_length_iff.mpr (List.getElem_mem hk)
    have e : (dd xs).idxOf (dd xs)[k] = k := (List.getElem_inj (dd_nodup xs)).mp (List.getElem_idxOf h1)
    rw [Bool.eq_iff_iff, decide_eq_true_iff, decide_eq_true_iff]
    show some _ = some ((dd xs).idxOf (dd xs)[k]) ↔ _
    rw [e, Option.some_inj]
  · rw [List.getElem?_eq_none (by omega), List.getElem?_eq_none (by rw [List.length_range]; omega)]
    rfl
end
end FzP
set_option Elab.async false
set_option linter.all false
set_option maxRecDepth 100000
namespace FzP
section
variable {K : Type} [DecidableEq K]
theorem ddG_fresh : ∀ {xs kn : List K}, (kn ++ xs).Nodup → ddG kn xs = kn ++ xs
  | [], kn, _ => by simp [ddG]
  | x :: r, kn, h => by
    unfold ddG
    have hx : ¬ x ∈ kn := fun z => (List.nodup_append.mp h).2.2 x z x (.head _) rfl
    rw [if_neg hx, ddG_fresh (by simpa using h)]
    simp
theorem dd_fresh {xs : List K} (h : xs.Nodup) : dd xs = xs := by
  unfold dd
  rw [ddG_fresh (by simpa using h)]
  rfl
theorem num_fresh {xs : List K} (h : xs.Nodup) : num xs = List.range xs.length := by
  rw [num_eq, dd_fresh h]
  refine List.ext_getElem (by simp) fun i h1 h2 => ?_
  have hi : i < xs.length := by simpa using h1
  rw [List.getElem_map, List.getElem_range]
  exact (List.getElem_inj h).mp (List.getElem_idxOf (List.idxOf_lt_length_iff.mpr (List.getElem_mem hi)))
end
section
variable {A C K K' : Type} [DecidableEq A] [DecidableEq C] [DecidableEq K] [DecidableEq K'] {n n' : Nat} {told told' : Tld A C} {ky : List Nat → Nat → K} {ky' : List Nat → Nat → K'}
theorem quot_id (Y : Sys n told ky) (Y' : Sys n' told' ky') {i j : Nat} {q : List Nat} (eq : seqP n ky (i + 1) = q)
    (hq : ∀ k, k < n' → ∃ s, s < n ∧ q.getD s 0 = k) (ht : ∀ s, s < n → ∀ y, y ∈ told' (q.getD s 0) ↔ y ∈ (told s).map (img q))
    (hj : cnt (seqP n' ky' (j + 1)) ≤ cnt (seqP n' ky' j)) : seqP n' ky' (j + 1) = List.range n' := by
  have st' := stays Y' j hj
  generalize hp : seqP n' ky' (j + 1) = p' at st'
  have one : ∀ a b, a < n → b < n → q.getD a 0 < n' → q.getD b 0 < n' → Cl p' (q.getD a 0) (q.getD b 0) → Fol told (fun a b => q.getD a 0 < n' ∧ q.getD b 0 < n' ∧ Cl p' (q.getD a 0) (q.getD b 0)) a b := by
    intro a b ha hb ka kb e x hx
    have e' : Cl (nextP n' ky' p') (q.getD a 0) (q.getD b 0) := by rw [st']; exact e
    have lk := (Y'.key p' _ _ ka kb).mp ((next_cl ka kb).mp e')
    have hx' : img q x ∈ told' (q.getD a 0) := (ht a ha _).mpr (List.mem_map.mpr ⟨x, hx, rfl⟩)
    obtain ⟨z, hz, ez⟩ := List.mem_map.mp ((lk (img p' (img q x))).mp (List.mem_map.mpr ⟨_, hx', rfl⟩))
    obtain ⟨y, hy, rfl⟩ := List.mem_map.mp ((ht b hb z).mp hz)
    have t1 := Y'.tgt _ ka _ hx'
    have t2 := Y'.tgt _ kb _ hz
    unfold img at ez t1 t2
    injection ez with e1 e2
    injection e2 with e2 e3
    exact ⟨y, hy, e1, e3, t1, t2, show _ = _ from e2.symm⟩
  have sub := near_sub Y (N := fun a b => q.getD a 0 < n' ∧ q.getD b 0 < n' ∧ Cl p' (q.getD a 0) (q.getD b 0)) fun a b ha hb h =>
    ⟨one a b ha hb h.1 h.2.1 h.2.2, by
      have := one b a hb ha h.2.1 h.1 (show _ = _ from Eq.symm h.2.2)
      exact this⟩
  have inj : ∀ k l, k < n' → l < n' → Cl p' k l → k = l := by
    intro k l hk hl h
    obtain ⟨s, hs, rfl⟩ := hq k hk
    obtain ⟨t, ht, rfl⟩ := hq l hl
    have := sub (i + 1) s t hs ht ⟨hk, hl, h⟩
    rw [eq] at this
    exact this
  rw [← hp] at inj ⊢
  show num (looks n' ky' (seqP n' ky' j)) = _
  rw [num_fresh, looks_len]
  unfold looks
  refine List.pairwise_map.mpr ((List.nodup_range (n := n')).imp_of_mem fun {a b} ha hb ne e => ne ?_)
  have ha := List.mem_range.mp ha
  have hb := List.mem_range.mp hb
  exact inj a b ha hb ((next_cl ha hb).mpr e)
end
theorem range_getD {n k : Nat} (h : k < n) : (List.range n).getD k 0 = k := by
  rw [List.getD_eq_getElem?_getD, List.getElem?_range h]; rfl
theorem cnt_range (n : Nat) : cnt (List.range n) = n := by
  unfold cnt
  rw [dd_fresh List.nodup_range, List.length_range]
theorem progC_range (n : Nat) : progC n (List.range n) = (List.range n).map fun k => [k] := by
  unfold progC
  rw [cnt_range]
  refine List.map_congr_left fun k hk => ?_
  have hk := List.mem_range.mp hk
  have : ∀ m, (List.range m).filter (fun t => decide (t = k)) = if k < m then [k] else [] := by
    intro m
    induction m with
    | zero => rfl
    | succ m ih =>
      rw [List.range_succ, List.filter_append, ih]
      by_cases h : k < m
      · rw [if_pos h, if_pos (by omega), List.filter_cons_of_neg (by simp; omega)]
        rfl
      · rw [if_neg h]
        by_cases h2 : m = k
        · rw [List.filter_cons_of_pos (by simp [h2]), if_pos (by omega), h2]
          rfl
        · rw [List.filter_cons_of_neg (by simp [h2]), if_neg (by omega)]
          rfl
  have e : (List.range n).filter (fun t => decide ((List.range n).getD t 0 = k)) = (List.range n).filter (fun t => decide (t = k)) := List.filter_congr fun t ht => by
    rw [range_getD (List.mem_range.mp ht)]
  rw [e, this, if_pos hk]
end FzP
set_option Elab.async false
set_option linter.all false
set_option maxRecDepth 100000
set_option maxHeartbeats 4000000
namespace K52
open PySem hiding ret plain
open Fz hiding tb nx
mutual
theorem eqv_self : ∀ d : D, plain d = true → PyData.eqv (py d) (py d) = true
  | .non, _ => rfl
  | .bl b, _ => by simp [py, PyData.eqv]
  | .int i, _ => by simp [py, PyData.eqv]
  | .str s, _ => by simp [py, PyData.eqv]
  | .tup ds, h => by simp only [py, PyData.eqv]; exact eqvs_self ds (by simpa [plain] using h)
  | .lst ds, h => by simp only [py, PyData.eqv]; exact eqvs_self ds (by simpa [plain] using h)
  | .obj _ _, h => by simp [plain] at h
  | .dct _ _, h => by simp [plain] at h
  | .ext _ _, h => by simp [plain] at h
theorem eqvs_self : ∀ ds : List D, plains ds = true → PyData.eqvAll (pys ds) (pys ds) = true
  | [], _ => rfl
  | d :: ds, h => by
    have h := (Bool.and_eq_true _ _).mp (show (plain d && plains ds) = true from h)
    simp only [pys, PyData.eqvAll, Bool.and_eq_true]
    exact ⟨eqv_self d h.1, eqvs_self ds h.2⟩
end
theorem same_self {d : D} (h : cok d = true) : same d d = true := eqv_self d (cok_plain h)
def pd (n : Nat) (d : D) : Prop := plain d = true ∧ dep d ≤ n
theorem pd.cok {n : Nat} {d : D} (h : pd n d) (hn : n ≤ 64) : cok d = true := by unfold Fz.cok; rw [h.1]; simp; exact Nat.le_trans h.2 hn
theorem pds {n : Nat} : ∀ {ds : List D}, (∀ d ∈ ds, pd n d) → plains ds = true ∧ deps ds ≤ n
  | [], _ => ⟨rfl, Nat.zero_le _⟩
  | d :: ds, h => by
    obtain ⟨a, b⟩ := pds fun e he => h e (.tail _ he)
    obtain ⟨c, e⟩ := h d (.head _)
    refine ⟨by show (plain d && plains ds) = true; rw [c, a]; rfl, ?_⟩
    show max (dep d) (deps ds) ≤ n
    omega
theorem pd_lst {n : Nat} {ds : List D} (h : ∀ d ∈ ds, pd n d) : pd (n + 1) (.lst ds) := by
  obtain ⟨a, b⟩ := pds h
  exact ⟨by simpa [plain] using a, by show deps ds + 1 ≤ n + 1; omega⟩
theorem pd_tup {n : Nat} {ds : List D} (h : ∀ d ∈ ds, pd n d) : pd (n + 1) (.tup ds) := by
  obtain ⟨a, b⟩ := pds h
  exact ⟨by simpa [plain] using a, by show deps ds + 1 ≤ n + 1; omega⟩
theorem pd_int (i : Int) (n : Nat) : pd n (.int i) := ⟨rfl, Nat.zero_le _⟩
theorem pd_str (s : Str) (n : Nat) : pd n (.str s) := ⟨rfl, Nat.zero_le _⟩
def tS (ss : List Str) : D := .tup (ss.map D.str)
def tI (ns : List Int) : D := .tup (ns.map D.int)
theorem pd_tS (ss : List Str) : pd 1 (tS ss) := pd_tup fun d hd => by obtain ⟨s, _, rfl⟩ := List.mem_map.mp hd; exact pd_str s 0
theorem pd_tI (ns : List Int) : pd 1 (tI ns) := pd_tup fun d hd => by obtain ⟨s, _, rfl⟩ := List.mem_map.mp hd; exact pd_int s 0
theorem e_eqC {x y : D} (hx : cok x = true) (hy : cok y = true) : dEq x y = some (.bl (same x y)) := by unfold dEq; rw [hx, hy]; rfl
theorem e_neC {x y : D} (hx : cok x = true) (hy : cok y = true) : dNe x y = some (.bl (!same x y)) := by unfold dNe; rw [hx, hy]; rfl
def stepD (a : Int) (m : List Str) (c : Int) (b : List Int) : D := .tup [.int a, tS m, .int c, tI b]
structure Stp (d : D) : Prop where
  ex : ∃ a m c b, d = stepD a m c b ∧ (0 ≤ a ∧ a < 100) ∧ (0 ≤ c ∧ c < 100)
theorem Stp.pd {d : D} (h : Stp d) : pd 2 d := by
  obtain ⟨a, m, c, b, rfl, _⟩ := h.ex
  refine pd_tup fun d hd => ?_
  simp only [List.mem_cons, List.not_mem_nil, or_false] at hd
  rcases hd with rfl | rfl | rfl | rfl
  · exact pd_int _ _
  · exact pd_tS _
  · exact pd_int _ _
  · exact pd_tI _
def outD (c : Int) (b : List Int) : D := .tup [.int c, tI b]
structure Out (d : D) : Prop where
  ex : ∃ c b, d = outD c b
theorem Out.pd {d : D} (h : Out d) : pd 2 d := by
  obtain ⟨c, b, rfl⟩ := h.ex
  refine pd_tup fun d hd => ?_
  simp only [List.mem_cons, List.not_mem_nil, or_false] at hd
  rcases hd with rfl | rfl
  · exact pd_int _ _
  · exact pd_tI _
theorem ords_str (m : List Str) : ordDs (m.map D.str) = true := ordDs_all fun d hd => by obtain ⟨s, _, rfl⟩ := List.mem_map.mp hd; rfl
theorem ords_int (m : List Int) : ordDs (m.map D.int) = true := ordDs_all fun d hd => by obtain ⟨s, _, rfl⟩ := List.mem_map.mp hd; rfl
theorem ord_tS (m : List Str) : ordD (tS m) = true := ords_str m
theorem ord_tI (m : List Int) : ordD (tI m) = true := ords_int m
theorem nkD_tS (m : List Str) : nkD (tS m) = .tup (m.map .text) := by
  refine (nkD_tup (ords_str m)).trans ?_
  rw [List.map_map]; rfl
theorem nkD_tI (m : List Int) : nkD (tI m) = .tup (m.map .num) := by
  refine (nkD_tup (ords_int m)).trans ?_
  rw [List.map_map]; rfl
theorem comp_texts : ∀ a b : List Str, kComps (a.map .text) (b.map .text) = true
  | [], _ => by simp [kComps]
  | _ :: _, [] => by simp [kComps]
  | x :: a, y :: b => by simp [kComps, kComp, comp_texts a b]
theorem comp_nums : ∀ a b : List Int, kComps (a.map .num) (b.map .num) = true
  | [], _ => by simp [kComps]
  | _ :: _, [] => by simp [kComps]
  | x :: a, y :: b => by simp [kComps, kComp, comp_nums a b]
theorem depth_texts : ∀ a : List Str, NestedKey.depthAll (a.map .text) = 0
  | [] => rfl
  | x :: a => by simp [NestedKey.depthAll, NestedKey.depth, depth_texts a]
theorem depth_nums : ∀ a : List Int, NestedKey.depthAll (a.map .num) = 0
  | [] => rfl
  | x :: a => by simp [NestedKey.depthAll, NestedKey.depth, depth_nums a]
theorem ord_step (a : Int) (m : List Str) (c : Int) (b : List Int) : ordD (stepD a m c b) = true := by
  show (true && (ordD (tS m) && (true && (ordD (tI b) && true)))) = true
  rw [ord_tS, ord_tI]; rfl
theorem nkD_step (a : Int) (m : List Str) (c : Int) (b : List Int) : nkD (stepD a m c b) = .tup [.num a, .tup (m.map .text), .num c, .tup (b.map .num)] := by
  refine (nkD_tup (show ordDs _ = true from ord_step a m c b)).trans ?_
  simp only [List.map_cons, List.map_nil, nkD_tS, nkD_tI]
  rfl
theorem sortOk_of {xs : List D} (h : ∀ x ∈ xs, ordD x = true ∧ tupNE x = true ∧ (nkD x).depth ≤ 8) (c : ∀ x ∈ xs, ∀ y ∈ xs, kComp (nkD x) (nkD y) = true) : sortOk xs = true := by
  unfold sortOk
  rw [List.all_eq_true]
  intro x hx
  obtain ⟨h1, h2, h3⟩ := h x hx
  rw [h1, h2, decide_eq_true h3, List.all_eq_true.mpr fun y hy => c x hx y hy]
  rfl
theorem sortOk_steps {xs : List D} (h : ∀ x ∈ xs, Stp x) : sortOk xs = true := by
  refine sortOk_of (fun x hx => ?_) fun x hx y hy => ?_
  · obtain ⟨a, m, c, b, rfl, _⟩ := (h x hx).ex
    refine ⟨ord_step a m c b, rfl, ?_⟩
    rw [nkD_step]
    simp only [NestedKey.depth, NestedKey.depthAll, depth_texts, depth_nums]
    omega
  · obtain ⟨a, m, c, b, rfl, _⟩ := (h x hx).ex
    obtain ⟨a', m', c', b', rfl, _⟩ := (h y hy).ex
    rw [nkD_step, nkD_step]
    simp [kComp, kComps, comp_texts, comp_nums]
end K52
local macro_rules | `(tactic| simp_arith [$args,*]) => `(tactic| simp only [↓Fz.n_ret, ↓Fz.n_opt, ↓Fz.n_eUn, ↓Fz.n_eBin, ↓Fz.n_eCons, ↓Fz.n_eNil, ↓Fz.n_eOp, ↓Fz.n_eTup, ↓Fz.n_rD, ↓Fz.n_rOp, ↓Fz.n_rLst, ↓Fz.n_eFz, ↓Fz.n_eVar, ↓Fz.n_eFull, ↓Fz.n_tFull, ↓Fz.n_rFull, ↓Fz.n_eTst, ↓Fz.n_eNot, ↓Fz.n_cAnd, ↓Fz.n_cOr, ↓Fz.n_cNot, ↓Fz.n_cYes, ↓Fz.n_eAnd, ↓Fz.n_eOr, ↓Fz.n_eChain, ↓Fz.n_eIf, ↓Fz.n_rIf, ↓Fz.n_oNone, ↓Fz.n_oSome, ↓Fz.n_eSl, ↓Fz.n_rSlL', ↓Fz.n_eMt, ↓Fz.n_rMt, ↓Fz.n_rBin, ↓Fz.n_rMv, ↓Fz.n_iLst, ↓Fz.n_iTupl, ↓Fz.n_iSeq, ↓Fz.n_iText, ↓Fz.n_iR1, ↓Fz.n_iR2, ↓Fz.n_iEn, ↓Fz.n_aNil, ↓Fz.n_aV, ↓Fz.n_aO, ↓Fz.n_callF, ↓Fz.n_rCall, ↓Fz.n_rMeth, ↓Fz.n_rMakeN, ↓Fz.n_fnOf, ↓Fz.n_sNext, ↓Fz.n_sBrk, ↓Fz.n_sCt, ↓Fz.n_sRetN, ↓Fz.n_sSeq, ↓Fz.n_sSet, ↓Fz.n_sAsg, ↓Fz.n_sIf, ↓Fz.n_sRet, ↓Fz.n_sDrop, ↓Fz.n_sFor, ↓Fz.n_sApp', ↓Fz.n_sExtA, ↓Fz.n_sSub, ↓Fz.n_eFld, ↓Fz.n_rLc, ↓Fz.n_eMaxD, ↓Fz.n_eVarO, ↓Fz.n_rMake, ↓Fz.n_rMethX, ↓Fz.n_eIxO, ↓Fz.n_iR3, ↓Fz.n_rRev, ↓Fz.n_sRaise, ↓Fz.n_sTry, ↓Fz.n_sAug, ↓Fz.n_rDct0, Fz.kMeX_v, Fz.kMeX_x, Fz.kR3_v, Fz.kIxO_v, Fz.kIxO_x, Fz.ixR_ol, Fz.ixR_d, Fz.kRev_v, Fz.kRev_x, Fz.mkE_x, Fz.gRev_l, Fz.kTrS_rt, Fz.kTrS_nx, Fz.kTrS_ct, Fz.kTrS_nx0, Fz.uTr_f, Fz.uTr_t, Fz.uTr_t0, Fz.kTr_x, Fz.kTr_nx, Fz.kTr_rt, Fz.kAug2_a, Fz.kAug_v, Fz.kAug_x, Fz.gD_d, Fz.kAug1_a, Fz.dAddIS_i, Fz.dIsq_e, Fz.mkE_v, Fz.kMkU_a, Fz.kMk_v, Fz.upA_o, Fz.upA_v, Fz.wc_t, Fz.wd_t, Fz.wd_f, Fz.kU_a, Fz.wo_some, Fz.wo_none, Fz.wo_ifn, Fz.wpe_eq, Fz.wse_eq, Fz.kr_a, Fz.krl_a, Fz.ku_a, Fz.kUn_v, Fz.kUn_x, Fz.kBin2_v, Fz.kBin2_x, Fz.kBin1_v, Fz.kBin1_x, Fz.kCons2_v, Fz.kCons2_x, Fz.kCons1_v, Fz.kCons1_x, Fz.kOp_v, Fz.kOp_x, Fz.kTup_v, Fz.kTup_x, Fz.kD_v, Fz.kD_x, Fz.kROp_v, Fz.kROp_x, Fz.kLst_v, Fz.kLst_x, Fz.kFz_v, Fz.kFz_x, Fz.kFull_v, Fz.kFull_x, Fz.kTFull_v, Fz.kTFull_x, Fz.n_rfx_ol, Fz.n_rfx_d, Fz.rfx_x, Fz.kTst_v, Fz.kTst_x, Fz.krn_a, Fz.kNot_v, Fz.kNot_x, Fz.wAnd_t, Fz.wAnd_f, Fz.kAnd_v, Fz.kAnd_x, Fz.wOr_t, Fz.wOr_f, Fz.kOr_v, Fz.kOr_x, Fz.kCNot_v, Fz.kCNot_x, Fz.wEAnd_t, Fz.wEAnd_f, Fz.kEAnd_v, Fz.kEAnd_x, Fz.wEOr_t, Fz.wEOr_f, Fz.kEOr_v, Fz.kEOr_x, Fz.tb_n, Fz.wChain_t, Fz.wChain_f, Fz.kCh3_a, Fz.kCh2_v, Fz.kCh2_x, Fz.kCh1_v, Fz.kCh1_x, Fz.wEIf_t, Fz.wEIf_f, Fz.kEIf_v, Fz.kEIf_x, Fz.wRIf_t, Fz.wRIf_f, Fz.kRIf_v, Fz.kRIf_x, Fz.kso_a, Fz.kSome_v, Fz.kSome_x, Fz.kSl3_v, Fz.kSl3_x, Fz.kSl2_v, Fz.kSl2_x, Fz.kSl1_v, Fz.kSl1_x, Fz.kcut_a, Fz.kRSl3_v, Fz.kRSl3_x, Fz.kRSl2_v, Fz.kRSl2_x, Fz.kRSl1_v, Fz.kRSl1_x, Fz.kMt2_v, Fz.kMt2_x, Fz.kMtu_a, Fz.kMt1_v, Fz.kMt1_x, Fz.kRMt2_v, Fz.kRMt2_x, Fz.kRMtu_a, Fz.kRMt1_v, Fz.kRMt1_x, Fz.kRBin2_v, Fz.kRBin2_x, Fz.kRBin1_v, Fz.kRBin1_x, Fz.kILst_v, Fz.kILst_x, Fz.kITup_v, Fz.kITup_x, Fz.kISeq_v, Fz.kISeq_x, Fz.ktx_a, Fz.kIText_v, Fz.kIText_x, Fz.kIL_v, Fz.kIL_x, Fz.kAV2_v, Fz.kAV2_x, Fz.kAV1_v, Fz.kAV1_x, Fz.kAO_v, Fz.kAO_x, Fz.isq_s, Fz.kAOu_a, Fz.kEnd2_a, Fz.kEnd_a, Fz.kCallU_a, Fz.kCall_a, Fz.kRcu_a, Fz.kRc_v, Fz.kRc_x, Fz.kMcu_a, Fz.kMc_v, Fz.kMc_x, Fz.kMf_a, Fz.kMo_a, Fz.kMeth_v, Fz.kFnU_a, Fz.ko_a, Fz.n_oend_rt, Fz.n_oend_nx, Fz.n_oend_x, Fz.kSeq_nx, Fz.kSeq_bk, Fz.kSeq_ct, Fz.kSeq_rt, Fz.kSeq_x, Fz.kSet_v, Fz.kSet_x, Fz.knx_a, Fz.kAsg_v, Fz.kAsg_x, Fz.wIf_t, Fz.wIf_f, Fz.kIf_v, Fz.kIf_x, Fz.kRet_v, Fz.kRet_x, Fz.kDrop_v, Fz.kDrop_x, Fz.kFor_v, Fz.kFor_x, Fz.kSt_a, Fz.kApp2_a, Fz.kApp_v, Fz.kApp_x, Fz.kAppU_a, Fz.kExt3_a, Fz.kExt2_a, Fz.kExt_v, Fz.kExt_x, Fz.kExtU_a, Fz.kSub5_a, Fz.kSub4_a, Fz.kSub3_a, Fz.kSub2_v, Fz.kSub2_x, Fz.kSubU_a, Fz.kSub1_v, Fz.kSub1_x, Fz.fld_o, Fz.wd_krn, ite_self, Fz.vro_r, Fz.kMx2_v, Fz.kMx1_v, Fz.dMaxD_i, Fz.dSum_i, Fz.dInts_nil, Fz.dInts_cons, Fz.maxOf_nil, Fz.maxOf_one, Fz.maxOf_two, Fz.dMax2_i, Fz.isc_o, Fz.e_slt1, Fz.cast0, Fz.cast1, Fz.cast2, Fz.cast3, Fz.isT, Fz.e_tys, Fz.e_tyl, Fz.kLc_v, Fz.kLcU_a, Fz.kLcB_a, Fz.W_len, Fz.W_app, Fz.sgn_W, Fz.own_no, Fz.own_d, List.all_cons, List.all_nil, List.getD_cons_succ, List.getD_cons_zero, Fz.wipeS, Fz.backS, Fz.vr_d, Fz.vr_ol, Fz.vr_od, Fz.gt_0, Fz.gt_s, Fz.stt_0, Fz.stt_s, Fz.vwN_nil, Fz.vwN_d, Fz.vwN_ol, Fz.vwN_od, Fz.vwN_no, Fz.vwN_oi, Fz.ti_int, Fz.tl_l, Fz.tt_t, Fz.tq_t, Fz.tq_l, Fz.tx_s, Fz.mv_s, Fz.to_o, Fz.gA, Fz.pA, Fz.outs_nil, Fz.outs_cons, Fz.outs1_s, Fz.isD_d, Fz.gol_s, Fz.isL_ol, Fz.isL_d, Fz.gN_eq, Fz.gT_eq, Fz.gsN_eq, Fz.gsC_eq, Fz.some_bind', Fz.dR1_i, Fz.dR2_i, Fz.dEn_i, Fz.owns, Fz.vw_d, Fz.vw_ol, Fz.vw_oi, Fz.vw_od, Fz.wh_d, Fz.wh_ol, Fz.wh_od, Fz.wh_oi, Fz.imm, Fz.imms, decide_true, decide_false, Bool.not_true, Bool.not_false, if_true, if_false, List.length_cons, List.length_nil, List.map_cons, List.map_nil, List.append_nil, List.nil_append, List.cons_append, List.replicate, Option.map_some, beq_self_eq_true, Bool.true_or, Bool.or_true, Bool.false_or, Bool.or_false, Bool.false_and, Bool.and_false, Bool.true_and, Bool.and_true, reduceCtorEq, Fz.e_sub, Fz.e_mod, Fz.e_div, Fz.e_mul, Fz.e_addi, Fz.e_adds, Fz.e_addt, Fz.e_eqi, Fz.e_eqs, Fz.e_eqb, Fz.e_nei, Fz.e_nes, Fz.e_neb, Fz.e_lti, Fz.e_gti, Fz.e_lei, Fz.e_gei, Fz.e_lenl, Fz.e_lent, Fz.e_lens, Fz.e_isib, Fz.e_inw, Fz.e_ninw, Fz.e_inwt, Fz.e_ninwt, Fz.e_intb, Fz.e_ixn, Fz.e_ixtn, Fz.e_ix0, Fz.e_ix1, Fz.e_ix2, Fz.e_ix3, Fz.e_ixt0, Fz.e_ixt1, Fz.e_ixt2, Fz.e_ixt3, Fz.e_ixs, Fz.e_ixs0, Fz.szl, List.getElem?_cons_zero, List.getElem?_cons_succ, Fz.e_tupl, Fz.e_tupt, Fz.e_listl, Fz.e_listt, Fz.nodup0, Fz.nodup1, List.length_set, List.length_append, List.length_map, List.set_cons_zero, List.set_cons_succ, Nat.add_zero, Nat.zero_add, Fz.lp_nx, Fz.lp_rt, Fz.lp_bk, Fz.lp_ct, Fz.lp_x, ↓reduceIte, Nat.reduceAdd, Nat.reduceSub, Nat.reduceLeDiff, Nat.reduceLT, Nat.reduceMul, Nat.reduceDiv, Nat.reduceMod, Int.reduceMul, Int.reduceToNat, Int.reduceMod, Int.reduceDiv, Int.reduceOfNat, Int.reduceBEq, Nat.reduceEqDiff, Nat.reduceBEq, Int.reduceLT, Int.reduceLE, Int.reduceEq, Int.reduceNeg, Int.reduceAdd, Int.reduceSub, decide_eq_true_eq, ite_true, ite_false, and_self, or_self, and_true, true_and, Bool.or_self, Bool.and_self, Fz.ixn0, Fz.ixn1, Fz.ixn2, Fz.ixn3, Bool.or_eq_true, or_true, true_or, or_false, false_or, $args,*])
set_option Elab.async false
set_option linter.all false
set_option maxRecDepth 100000
set_option maxHeartbeats 4000000
namespace K52
open PySem hiding ret plain
open Fz hiding tb nx
def iR (l : List Int) : Prop := ∀ y ∈ l, 0 ≤ y ∧ y < 2147483629
theorem iR_app {l : List Int} {z : Int} (h : iR l) (a : 0 ≤ z) (b : z < 2147483629) : iR (l ++ [z]) := fun y hy => by
  rcases List.mem_append.mp hy with hy | hy
  · exact h y hy
  · rw [List.mem_singleton.mp hy]; exact ⟨a, b⟩
theorem cell_wf (ns : List Int) (k : Nat) : wf F__law_cell_at [.d (.lst (ns.map D.int)), .d (.int (k : Int))] fun o rs => (∃ c : Int, o = .v (.d (.int c))) ∧ rs = [.d (.lst (ns.map D.int)), .d (.int (k : Int))] := by
  unfold F__law_cell_at
  simp_arith [b__law_cell_at]
  refine wd_of (fun h => ?_) (fun h => ?_)
  · have h : k < ns.length := by have := of_decide_eq_true h; simpa using this
    have ix : dIx (.lst (ns.map D.int)) (.int (k : Int)) = some (.int ns[k]) := by rw [e_ixn]; simp [h]
    simp_arith [ix]
    exact ⟨_, rfl⟩
  · simp_arith []
    exact ⟨_, rfl⟩
theorem cell_fn (ns : List Int) : ∃ g : Nat → Int, ∀ k : Nat, F__law_cell_at [.d (.lst (ns.map D.int)), .d (.int (k : Int))] = some (.v (.d (.int (g k))), [.d (.lst (ns.map D.int)), .d (.int (k : Int))]) := by
  refine (Classical.skolem (p := fun (k : Nat) (c : Int) => F__law_cell_at [.d (.lst (ns.map D.int)), .d (.int (k : Int))] = some (.v (.d (.int c)), [.d (.lst (ns.map D.int)), .d (.int (k : Int))]))).mp fun k => ?_
  obtain ⟨o, rs, e, ⟨c, rfl⟩, rfl⟩ := wf_get (cell_wf ns k)
  exact ⟨c, e⟩
theorem mixed_wf (ns : List Int) (n : Nat) (hn : n ≤ 1000) (x : D) (hx : dR1 [x] = some (rngD 0 n)) : wf F__law_mixed [.d (.lst (ns.map D.int)), .d (.int 0), .d x] fun o rs => (∃ xs : List Int, xs.length = n ∧ iR xs ∧ o = .v (.ol (xs.map D.int))) ∧ rs = [.d (.lst (ns.map D.int)), .d (.int 0), .d x] := by
  obtain ⟨g, hg⟩ := cell_fn ns
  unfold F__law_mixed
  simp_arith [b__law_mixed, hx]
  refine ws_for (fun es s => ∃ (k : Nat) (xs : List Int) (m : Int) (x5 : Option R), es = (List.range' k (n - k)).map (fun i : Nat => D.int i) ∧ k ≤ n ∧ xs.length = k ∧ iR xs ∧ s = [some (R.d (.lst (ns.map D.int))), some (.d (.int 0)), some (.d x), some (.ol (xs.map D.int)), some (.d (.int m)), x5])
    ⟨0, [], 7, none, by simp [rngD, List.range_eq_range'], by omega, rfl, (fun y hy => nomatch hy), rfl⟩ ?_ ?_
  · rintro d r s ⟨k, xs, m, x5, hd, hk, hxl, hr, rfl⟩
    have hlt : k < n := by
      by_cases h : k < n
      · exact h
      · have : n - k = 0 := by omega
        rw [this] at hd; simp at hd
    obtain ⟨q, hq⟩ : ∃ q, n - k = q + 1 := ⟨n - k - 1, by omega⟩
    rw [hq, List.range'_succ, List.map_cons] at hd
    injection hd with hd1 hd2
    subst hd1 hd2
    have c1 : CMulB m 48271 = True := eq_true (.inr (by decide))
    have c2 : ∀ z : Int, CMulB (z % 2147483647) (z % 2147483647) = True := fun z => eq_true (.inl (by have := Int.emod_nonneg z (b := 2147483647) (by decide); have := Int.emod_lt_of_pos z (b := 2147483647) (by decide); omega))
    have c4 : ∀ z : Int, CMulB 16807 z = True := fun z => eq_true (.inl (by decide))
    have c5 : ∀ z : Int, CMulB 31 z = True := fun z => eq_true (.inl (by decide))
    have z : (xs.length < 16777216) = True := eq_true (by omega)
    have z0 : (0 : Int) + (k : Int) = (k : Int) := Int.zero_add _
    simp_arith [z0, wf_of (hg k), c1, c2, c4, c5, z]
    rw [show ∀ z : Int, xs.map D.int ++ [D.int z] = (xs ++ [z]).map D.int from fun z => by simp]
    refine ⟨k + 1, _, _, _, by rw [show n - (k + 1) = q by omega], by omega, by simp [hxl], iR_app hr (Int.emod_nonneg _ (by decide)) (Int.emod_lt_of_pos _ (by decide)), rfl⟩
  · rintro s ⟨k, xs, m, x5, hd, hk, hxl, hr, rfl⟩
    have hkn : k = n := by
      by_cases h : k < n
      · obtain ⟨m, hm⟩ : ∃ m, n - k = m + 1 := ⟨n - k - 1, by omega⟩
        rw [hm, List.range'_succ] at hd; simp at hd
      · omega
    simp_arith []
    exact ⟨xs, hxl.trans hkn, hr, rfl⟩
def rows6 : List (List Str) := [["p", "pq", "p1"], ["a", "b", "c"], ["nots", "nott", "no1"], ["until1", "until2", "yes1"], ["abcdefgh", "abcdefgi", "abcdefg"], ["b", "a", "ab"]]
theorem marks_wf (c : Int) : wf F__law_marks_by [.d (.int c)] fun o rs => (∃ ws : List Str, ws.length = 3 ∧ o = .v (.d (.lst (ws.map D.str)))) ∧ rs = [.d (.int c)] := by
  obtain ⟨k, hk, ek⟩ := mod_nat c 6 (by decide)
  have ek : c % 6 = (k : Int) := ek
  have ix : (rows6.map fun ws => D.lst (ws.map D.str))[k]? = some (.lst ((rows6.getD k []).map D.str)) := by
    have : k < rows6.length := hk
    simp [this]
  have l3 : (rows6.getD k []).length = 3 := by
    rcases k with _ | _ | _ | _ | _ | _ | k <;> first | rfl | omega
  unfold F__law_marks_by
  simp_arith [b__law_marks_by, gCat, ek]
  refine wo_of (show _ = some (D.lst ((rows6.getD k []).map D.str)) from ix) ?_
  simp_arith []
  exact ⟨_, l3, rfl⟩
theorem moment_wf (ws : List Str) (b : Int) (hl : ws.length ≤ 3) : wf F__law_moment_of [.d (.lst (ws.map D.str)), .d (.int b)] fun o rs => ∃ m : List Str, o = .v (.d (tS m)) ∧ rs = [.d (.lst (ws.map D.str)), .d (.int b)] := by
  unfold F__law_moment_of
  simp_arith [b__law_moment_of]
  refine ws_for (fun es s => ∃ (u : List Str) (m : List Str) (b : Int) (x3 : Option R), es = u.map D.str ∧ m.length + u.length ≤ 3 ∧ s = [some (R.d (.lst (ws.map D.str))), some (.d (.int b)), some (.ol (m.map D.str)), x3])
    ⟨ws, [], b, none, rfl, by simpa using hl, rfl⟩ ?_ ?_
  · rintro d r s ⟨u, m, b, x3, hd, hm, rfl⟩
    cases u with
    | nil => cases hd
    | cons w u =>
      rw [List.map_cons] at hd
      injection hd with hd1 hd2
      subst hd1 hd2
      rw [List.length_cons] at hm
      have z : (m.length < 16777216) = True := eq_true (by omega)
      simp_arith []
      refine wd_of (fun h => ?_) (fun h => ?_)
      · simp_arith [z]
        exact ⟨u, m ++ [w], b / 2, some (.d (.str w)), rfl, by simp; omega, by simp⟩
      · simp_arith []
        exact ⟨u, m, _, _, rfl, by omega, rfl⟩
  · rintro s ⟨u, m, b, x3, hd, hm, rfl⟩
    have gs : gSorted [.lst (m.map D.str)] = some ((ssort m).map D.str) := by
      show ((dStrs _).bind fun ss => if ss.length < 64 then some ((ssort ss).map D.str) else none) = _
      rw [dStrs_map]
      exact if_pos (by omega)
    simp_arith [gs]
    exact ⟨ssort m, rfl⟩
end K52
local macro_rules | `(tactic| simp_arith only [$args,*]) => `(tactic| simp only [↓Fz.n_ret, ↓Fz.n_opt, ↓Fz.n_eUn, ↓Fz.n_eBin, ↓Fz.n_eCons, ↓Fz.n_eNil, ↓Fz.n_eOp, ↓Fz.n_eTup, ↓Fz.n_rD, ↓Fz.n_rOp, ↓Fz.n_rLst, ↓Fz.n_eFz, ↓Fz.n_eVar, ↓Fz.n_eFull, ↓Fz.n_tFull, ↓Fz.n_rFull, ↓Fz.n_eTst, ↓Fz.n_eNot, ↓Fz.n_cAnd, ↓Fz.n_cOr, ↓Fz.n_cNot, ↓Fz.n_cYes, ↓Fz.n_eAnd, ↓Fz.n_eOr, ↓Fz.n_eChain, ↓Fz.n_eIf, ↓Fz.n_rIf, ↓Fz.n_oNone, ↓Fz.n_oSome, ↓Fz.n_eSl, ↓Fz.n_rSlL', ↓Fz.n_eMt, ↓Fz.n_rMt, ↓Fz.n_rBin, ↓Fz.n_rMv, ↓Fz.n_iLst, ↓Fz.n_iTupl, ↓Fz.n_iSeq, ↓Fz.n_iText, ↓Fz.n_iR1, ↓Fz.n_iR2, ↓Fz.n_iEn, ↓Fz.n_aNil, ↓Fz.n_aV, ↓Fz.n_aO, ↓Fz.n_callF, ↓Fz.n_rCall, ↓Fz.n_rMeth, ↓Fz.n_rMakeN, ↓Fz.n_fnOf, ↓Fz.n_sNext, ↓Fz.n_sBrk, ↓Fz.n_sCt, ↓Fz.n_sRetN, ↓Fz.n_sSeq, ↓Fz.n_sSet, ↓Fz.n_sAsg, ↓Fz.n_sIf, ↓Fz.n_sRet, ↓Fz.n_sDrop, ↓Fz.n_sFor, ↓Fz.n_sApp', ↓Fz.n_sExtA, ↓Fz.n_sSub, ↓Fz.n_eFld, ↓Fz.n_rLc, ↓Fz.n_eMaxD, ↓Fz.n_eVarO, ↓Fz.n_rMake, ↓Fz.n_rMethX, ↓Fz.n_eIxO, ↓Fz.n_iR3, ↓Fz.n_rRev, ↓Fz.n_sRaise, ↓Fz.n_sTry, ↓Fz.n_sAug, ↓Fz.n_rDct0, ↓Fz.n_pName, ↓Fz.n_pIx, ↓Fz.n_pFld, ↓Fz.n_aHid, ↓Fz.n_aFull, ↓Fz.n_aNo, ↓Fz.n_eMut, ↓Fz.n_sSetA, ↓Fz.n_aRNil, ↓Fz.n_aRCons, ↓Fz.n_rLstR, ↓Fz.n_rTupR, ↓Fz.n_eFStr, ↓Fz.n_iDk, ↓Fz.n_iDv, ↓Fz.n_iDi, ↓Fz.n_rFullO, Fz.kMeX_v, Fz.kMeX_x, Fz.kR3_v, Fz.kIxO_v, Fz.kIxO_x, Fz.ixR_ol, Fz.ixR_d, Fz.kRev_v, Fz.kRev_x, Fz.mkE_x, Fz.gRev_l, Fz.kTrS_rt, Fz.kTrS_nx, Fz.kTrS_ct, Fz.kTrS_nx0, Fz.uTr_f, Fz.uTr_t, Fz.uTr_t0, Fz.kTr_x, Fz.kTr_nx, Fz.kTr_rt, Fz.kAug2_a, Fz.kAug_v, Fz.kAug_x, Fz.gD_d, Fz.kAug1_a, Fz.dAddIS_i, Fz.dIsq_e, Fz.mkE_v, Fz.kMkU_a, Fz.kMk_v, Fz.upA_o, Fz.upA_v, Fz.wc_t, Fz.wd_t, Fz.wd_f, Fz.kU_a, Fz.wo_some, Fz.wo_none, Fz.wo_ifn, Fz.wpe_eq, Fz.wse_eq, Fz.kr_a, Fz.krl_a, Fz.ku_a, Fz.kUn_v, Fz.kUn_x, Fz.kBin2_v, Fz.kBin2_x, Fz.kBin1_v, Fz.kBin1_x, Fz.kCons2_v, Fz.kCons2_x, Fz.kCons1_v, Fz.kCons1_x, Fz.kOp_v, Fz.kOp_x, Fz.kTup_v, Fz.kTup_x, Fz.kD_v, Fz.kD_x, Fz.kROp_v, Fz.kROp_x, Fz.kLst_v, Fz.kLst_x, Fz.kFz_v, Fz.kFz_x, Fz.kFull_v, Fz.kFull_x, Fz.kTFull_v, Fz.kTFull_x, Fz.n_rfx_ol, Fz.n_rfx_d, Fz.rfx_x, Fz.kTst_v, Fz.kTst_x, Fz.krn_a, Fz.kNot_v, Fz.kNot_x, Fz.wAnd_t, Fz.wAnd_f, Fz.kAnd_v, Fz.kAnd_x, Fz.wOr_t, Fz.wOr_f, Fz.kOr_v, Fz.kOr_x, Fz.kCNot_v, Fz.kCNot_x, Fz.wEAnd_t, Fz.wEAnd_f, Fz.kEAnd_v, Fz.kEAnd_x, Fz.wEOr_t, Fz.wEOr_f, Fz.kEOr_v, Fz.kEOr_x, Fz.tb_n, Fz.wChain_t, Fz.wChain_f, Fz.kCh3_a, Fz.kCh2_v, Fz.kCh2_x, Fz.kCh1_v, Fz.kCh1_x, Fz.wEIf_t, Fz.wEIf_f, Fz.kEIf_v, Fz.kEIf_x, Fz.wRIf_t, Fz.wRIf_f, Fz.kRIf_v, Fz.kRIf_x, Fz.kso_a, Fz.kSome_v, Fz.kSome_x, Fz.kSl3_v, Fz.kSl3_x, Fz.kSl2_v, Fz.kSl2_x, Fz.kSl1_v, Fz.kSl1_x, Fz.kcut_a, Fz.kRSl3_v, Fz.kRSl3_x, Fz.kRSl2_v, Fz.kRSl2_x, Fz.kRSl1_v, Fz.kRSl1_x, Fz.kMt2_v, Fz.kMt2_x, Fz.kMtu_a, Fz.kMt1_v, Fz.kMt1_x, Fz.kRMt2_v, Fz.kRMt2_x, Fz.kRMtu_a, Fz.kRMt1_v, Fz.kRMt1_x, Fz.kRBin2_v, Fz.kRBin2_x, Fz.kRBin1_v, Fz.kRBin1_x, Fz.kILst_v, Fz.kILst_x, Fz.kITup_v, Fz.kITup_x, Fz.kISeq_v, Fz.kISeq_x, Fz.ktx_a, Fz.kIText_v, Fz.kIText_x, Fz.kIL_v, Fz.kIL_x, Fz.kAV2_v, Fz.kAV2_x, Fz.kAV1_v, Fz.kAV1_x, Fz.kAO_v, Fz.kAO_x, Fz.isq_s, Fz.kAOu_a, Fz.kEnd2_a, Fz.kEnd_a, Fz.kCallU_a, Fz.kCall_a, Fz.kRcu_a, Fz.kRc_v, Fz.kRc_x, Fz.kMcu_a, Fz.kMc_v, Fz.kMc_x, Fz.kMf_a, Fz.kMo_a, Fz.kMeth_v, Fz.kFnU_a, Fz.ko_a, Fz.n_oend_rt, Fz.n_oend_nx, Fz.n_oend_x, Fz.kSeq_nx, Fz.kSeq_bk, Fz.kSeq_ct, Fz.kSeq_rt, Fz.kSeq_x, Fz.kSet_v, Fz.kSet_x, Fz.knx_a, Fz.kAsg_v, Fz.kAsg_x, Fz.wIf_t, Fz.wIf_f, Fz.kIf_v, Fz.kIf_x, Fz.kRet_v, Fz.kRet_x, Fz.kDrop_v, Fz.kDrop_x, Fz.kFor_v, Fz.kFor_x, Fz.kSt_a, Fz.kApp2_a, Fz.kApp_v, Fz.kApp_x, Fz.kAppU_a, Fz.kExt3_a, Fz.kExt2_a, Fz.kExt_v, Fz.kExt_x, Fz.kExtU_a, Fz.kSub5_a, Fz.kSub4_a, Fz.kSub3_a, Fz.kSub2_v, Fz.kSub2_x, Fz.kSubU_a, Fz.kSub1_v, Fz.kSub1_x, Fz.fld_o, Fz.wd_krn, ite_self, Fz.vro_r, Fz.kMx2_v, Fz.kMx1_v, Fz.dMaxD_i, Fz.dSum_i, Fz.dInts_nil, Fz.dInts_cons, Fz.maxOf_nil, Fz.maxOf_one, Fz.maxOf_two, Fz.dMax2_i, Fz.isc_o, Fz.e_slt1, Fz.cast0, Fz.cast1, Fz.cast2, Fz.cast3, Fz.isT, Fz.e_tys, Fz.e_tyl, Fz.kLc_v, Fz.kLcU_a, Fz.kLcB_a, Fz.W_len, Fz.W_app, Fz.sgn_W, Fz.own_no, Fz.own_d, List.all_cons, List.all_nil, List.getD_cons_succ, List.getD_cons_zero, Fz.wipeS, Fz.backS, Fz.vr_d, Fz.vr_ol, Fz.vr_od, Fz.gt_0, Fz.gt_s, Fz.stt_0, Fz.stt_s, Fz.vwN_nil, Fz.vwN_d, Fz.vwN_ol, Fz.vwN_od, Fz.vwN_no, Fz.vwN_oi, Fz.ti_int, Fz.tl_l, Fz.tt_t, Fz.tq_t, Fz.tq_l, Fz.tx_s, Fz.mv_s, Fz.to_o, Fz.gA, Fz.pA, Fz.outs_nil, Fz.outs_cons, Fz.outs1_s, Fz.isD_d, Fz.gol_s, Fz.isL_ol, Fz.isL_d, Fz.gN_eq, Fz.gT_eq, Fz.gsN_eq, Fz.gsC_eq, Fz.some_bind', Fz.dR1_i, Fz.dR2_i, Fz.dEn_i, Fz.owns, Fz.vw_d, Fz.vw_ol, Fz.vw_oi, Fz.vw_od, Fz.wh_d, Fz.wh_ol, Fz.wh_od, Fz.wh_oi, Fz.imm, Fz.imms, decide_true, decide_false, Bool.not_true, Bool.not_false, if_true, if_false, List.length_cons, List.length_nil, List.map_cons, List.map_nil, List.append_nil, List.nil_append, List.cons_append, List.replicate, Option.map_some, beq_self_eq_true, Bool.true_or, Bool.or_true, Bool.false_or, Bool.or_false, Bool.false_and, Bool.and_false, Bool.true_and, Bool.and_true, reduceCtorEq, Fz.e_sub, Fz.e_mod, Fz.e_div, Fz.e_mul, Fz.e_addi, Fz.e_adds, Fz.e_addt, Fz.e_eqi, Fz.e_eqs, Fz.e_eqb, Fz.e_nei, Fz.e_nes, Fz.e_neb, Fz.e_lti, Fz.e_gti, Fz.e_lei, Fz.e_gei, Fz.e_lenl, Fz.e_lent, Fz.e_lens, Fz.e_isib, Fz.e_inw, Fz.e_ninw, Fz.e_inwt, Fz.e_ninwt, Fz.e_intb, Fz.e_ixn, Fz.e_ixtn, Fz.e_ix0, Fz.e_ix1, Fz.e_ix2, Fz.e_ix3, Fz.e_ixt0, Fz.e_ixt1, Fz.e_ixt2, Fz.e_ixt3, Fz.e_ixs, Fz.e_ixs0, Fz.szl, List.getElem?_cons_zero, List.getElem?_cons_succ, Fz.e_tupl, Fz.e_tupt, Fz.e_listl, Fz.e_listt, Fz.nodup0, Fz.nodup1, List.length_set, List.length_append, List.length_map, List.set_cons_zero, List.set_cons_succ, Nat.add_zero, Nat.zero_add, Fz.lp_nx, Fz.lp_rt, Fz.lp_bk, Fz.lp_ct, Fz.lp_x, ↓reduceIte, Nat.reduceAdd, Nat.reduceSub, Nat.reduceLeDiff, Nat.reduceLT, Nat.reduceMul, Nat.reduceDiv, Nat.reduceMod, Int.reduceMul, Int.reduceToNat, Int.reduceMod, Int.reduceDiv, Int.reduceOfNat, Int.reduceBEq, Nat.reduceEqDiff, Nat.reduceBEq, Int.reduceLT, Int.reduceLE, Int.reduceEq, Int.reduceNeg, Int.reduceAdd, Int.reduceSub, decide_eq_true_eq, ite_true, ite_false, and_self, or_self, and_true, true_and, Bool.or_self, Bool.and_self, Fz.ixn0, Fz.ixn1, Fz.ixn2, Fz.ixn3, Bool.or_eq_true, or_true, true_or, or_false, false_or, Fz.kPx5_a, Fz.kPx4_a, Fz.kPx3_v, Fz.kPx2_a, Fz.kPx1_a, Fz.kPx0_a, Fz.kPf3_a, Fz.kPf2_a, Fz.kPf1_a, Fz.kPf0_a, Fz.kH2_v, Fz.kH1_a, Fz.kAF_v, Fz.kM5_a, Fz.kM4_v, Fz.kM3_a, Fz.kM2_a, Fz.kM1_a, Fz.kSA6_a, Fz.kSA5_a, Fz.kSA4_v, Fz.kSA3_a, Fz.kSA2_a, Fz.kSA1_v, Fz.kSA1_x, Fz.kRC2_v, Fz.kRC1_v, Fz.kRL_v, Fz.kRT_v, Fz.kFS_v, Fz.kID_v, Fz.kID_x, Fz.rfo_oi, Fz.rfo_x, Fz.wsl_r, Fz.rAt_nil, Fz.rAt_nl, Fz.rAt_nt, Fz.rAt_ni, Fz.rAt_nd, Fz.rSet_nil, Fz.rSet_nl, Fz.rSet_nt, Fz.rSet_ni, Fz.rSet_nd, Fz.rSets_0, Fz.rSets_s, Fz.kids_nl, Fz.kids_nt, Fz.kids_ni, Fz.kids_nd, Fz.kidAt_nl, Fz.kidAt_nt, Fz.opApp_ol, Fz.opRev_ol, Fz.opClr_ol, Fz.opSet_nl, Fz.opSet_ol, Fz.vw_nl, Fz.vw_nt, Fz.vw_ni, Fz.vw_nd, Fz.vwL_nil, Fz.vwL_cons, Fz.wh_nl, Fz.wh_nt, Fz.wh_ni, Fz.wh_nd, Fz.whL_nil, Fz.whL_cons, Fz.vwN_nl, Fz.vwN_nt, Fz.vwN_nd, Fz.vwN_ni, Option.bind_some, Fz.isR_s, List.length_reverse, $args,*])
set_option Elab.async false
set_option linter.all false
set_option maxRecDepth 100000
set_option maxHeartbeats 4000000
namespace K52
open PySem hiding ret plain
open Fz hiding tb nx
structure StB (k : Int) (d : D) : Prop where
  ex : ∃ a m c b, d = stepD a m c b ∧ (0 ≤ a ∧ a < k) ∧ (0 ≤ c ∧ c < k)
theorem StB.stp {k : Int} {d : D} (h : StB k d) (hk : k ≤ 100) : Stp d := by
  obtain ⟨a, m, c, b, rfl, h1, h2⟩ := h.ex
  exact ⟨a, m, c, b, rfl, ⟨h1.1, by omega⟩, ⟨h2.1, by omega⟩⟩
theorem tup_step (a : Int) (m : List Str) (c : Int) (b : List Int) : tupK (stepD a m c b) = true := by
  unfold tupK
  rw [nk_ord (ord_step a m c b), nkD_step]
  show decide _ = true
  rw [decide_eq_true_iff]
  simp only [NestedKey.depth, NestedKey.depthAll, depth_texts, depth_nums]
  omega
theorem dk_steps {k : Int} {ks : List D} {d : D} (h : ∀ e ∈ ks, StB k e) (hd : StB k d) : dkOk ks d = true := by
  have all : ks.all tupK = true := List.all_eq_true.mpr fun e he => by obtain ⟨a, m, c, b, rfl, _⟩ := (h e he).ex; exact tup_step a m c b
  obtain ⟨a, m, c, b, rfl, _⟩ := hd.ex
  unfold dkOk
  rw [tup_step, all]
  simp
theorem dput_mem {ks : List D} {d x : D} (h : x ∈ dputK ks d) : x ∈ ks ∨ x = d := by
  unfold dputK at h
  split at h
  · exact .inl h
  · rcases List.mem_append.mp h with h | h
    · exact .inl h
    · exact .inr (List.mem_singleton.mp h)
theorem dput_len1 {ks : List D} {d : D} : (dputK ks d).length ≤ ks.length + 1 := by
  unfold dputK
  split
  · omega
  · simp
theorem dputV_len {ks vs : List D} {d x : D} (h : vs.length = ks.length) : (dputV ks vs d x).length = (dputK ks d).length := by
  unfold dputV dputK
  cases kpos ks d with
  | none => simp [h]
  | some j => simp [h]
theorem ok_steps {k : Int} {ks : List D} (h : ∀ e ∈ ks, StB k e) : okKs ks = true := by
  unfold okKs
  rw [List.all_eq_true]
  intro e he
  obtain ⟨a, m, c, b, rfl, _⟩ := (h e he).ex
  rfl
theorem sort_dict {k : Int} {ks vs : List D} (h : ∀ e ∈ ks, StB k e) (hk : k ≤ 100) : gSortDN [.dct ks vs] = some (sortD ks) := by
  show (if sortOk ks = true ∧ okKs ks = true then some (sortD ks) else none) = _
  exact if_pos ⟨sortOk_steps fun x hx => (h x hx).stp hk, ok_steps h⟩
theorem set_steps {k : Int} {ks vs : List D} {d : D} (h : ∀ e ∈ ks, StB k e) (hd : StB k d) (hl : vs.length < 1000) (x : D) : opSet (.od ks vs) d (.d x) = some (.od (dputK ks d) (dputV ks vs d x)) := by
  show (if dkOk ks d = true ∧ vs.length < sizeLine then _ else _) = _
  exact if_pos ⟨dk_steps h hd, by unfold sizeLine; omega⟩
theorem ixb (i : Nat) (h : i < 3) : dIx (.lst [.int 1, .int 2, .int 4]) (.int (0 + (i : Int))) = some (.int (if i = 0 then 1 else if i = 1 then 2 else 4)) := by
  rcases i with _ | _ | _ | i
  · rfl
  · rfl
  · rfl
  · omega
def bQ (n : Int) (i : Nat) : Bool := decide (n / 1000 / (if i = 0 then 1 else if i = 1 then 2 else 4) % 2 = 1)
def bF (n : Int) (bells : Nat) : List Int := ((List.range bells).filter (bQ n)).map fun i : Nat => (i : Int)
theorem steps_wf (cs : List Int) (ws : List Str) (many bells : Nat) (hc : cs.length ≤ 20) (hw : ws.length ≤ 3) (hm : 1 ≤ many ∧ many ≤ 6) (hb : bells ≤ 3) : wf F__law_steps_by [.d (.lst (cs.map D.int)), .d (.lst (ws.map D.str)), .d (.int (many : Int)), .d (.int (bells : Int))] fun o rs =>
    (∃ S, (∀ d ∈ S, StB (many : Int) d) ∧ S.length ≤ cs.length ∧ o = .v (.ol S)) ∧ rs = [.d (.lst (cs.map D.int)), .d (.lst (ws.map D.str)), .d (.int (many : Int)), .d (.int (bells : Int))] := by
  have mp : (0 < (many : Int)) = True := eq_true (by omega)
  have d3 : ∀ i : Nat, (0 < (if i = 0 then (1 : Int) else if i = 1 then 2 else 4) ∧ (if i = 0 then (1 : Int) else if i = 1 then 2 else 4) < 1073741824) = True := fun i => eq_true (by split <;> first | omega | (split <;> omega))
  have hr : dR1 [.int (bells : Int)] = some (rngD 0 bells) := dR1_n (by omega)
  unfold F__law_steps_by
  simp_arith only [b__law_steps_by]
  refine ws_for (fun es s => ∃ (u : List Int) (ks vs : List D) (x5 x6 x7 : Option R), es = u.map D.int ∧ (∀ e ∈ ks, StB (many : Int) e) ∧ vs.length = ks.length ∧ ks.length + u.length ≤ cs.length ∧ s = [some (R.d (.lst (cs.map D.int))), some (.d (.lst (ws.map D.str))), some (.d (.int (many : Int))), some (.d (.int (bells : Int))), some (.od ks vs), x5, x6, x7, none])
    ⟨cs, [], [], none, none, none, rfl, (fun e he => nomatch he), rfl, by simp, rfl⟩ ?_ ?_
  · rintro d r s ⟨u, ks, vs, x5, x6, x7, hd, hk, hv, hl, rfl⟩
    cases u with
    | nil => cases hd
    | cons n u =>
      rw [List.map_cons] at hd
      injection hd with hd1 hd2
      subst hd1 hd2
      rw [List.length_cons] at hl
      obtain ⟨_, _, em, m, rfl, rfl⟩ := wf_get (moment_wf ws (n / 72) hw)
      simp_arith only [-dR1_i, wf_of em, hr]
      refine wl_filter (xs := List.range bells) (fun i : Nat => D.int (0 + (i : Int))) (bQ n) (fun i : Nat => D.int (i : Int)) (by simp [szl, sizeLine]; omega) (fun i hi => ?_) ?_
      · have hi := List.mem_range.mp hi
        simp_arith only [ixb i (by omega), e_div, d3 i]
        refine wd_of (fun h => ?_) (fun h => ?_)
        · have hq : bQ n i = true := h
          simp_arith only [hq, Bool.true_eq_false, false_implies, true_implies, Int.zero_add]
        · have hq : bQ n i = false := h
          simp_arith only [hq, Bool.false_eq_true, false_implies, true_implies]
      · have eb : ((List.range bells).filter (bQ n)).map (fun i : Nat => D.int (i : Int)) = (bF n bells).map D.int := by unfold bF; rw [List.map_map]; rfl
        have hs : StB (many : Int) (stepD (n % (many : Int)) m (n / 6 % (many : Int)) (bF n bells)) := ⟨_, _, _, _, rfl, ⟨Int.emod_nonneg _ (by omega), Int.emod_lt_of_pos _ (by omega)⟩, ⟨Int.emod_nonneg _ (by omega), Int.emod_lt_of_pos _ (by omega)⟩⟩
        have st := set_steps (vs := vs) hk hs (by omega) (.bl true)
        unfold stepD tS tI at st
        simp_arith only [eb, mp, tS, st]
        refine ⟨u, _, _, _, _, _, rfl, fun e he => ?_, dputV_len hv, ?_, rfl⟩
        · rcases dput_mem he with he | he
          · exact hk e he
          · rw [he]; exact hs
        · have := dput_len1 (ks := ks) (d := stepD (n % (many : Int)) m (n / 6 % (many : Int)) (bF n bells))
          unfold stepD tS tI at this
          omega
  · rintro s ⟨u, ks, vs, x5, x6, x7, hd, hk, hv, hl, rfl⟩
    have sd := sort_dict (vs := vs) hk (by omega)
    simp_arith only [sd]
    refine ⟨sortD ks, fun d hd => hk d ((sortD_perm _).mem_iff.mp hd), ?_, rfl⟩
    rw [(sortD_perm _).length_eq]
    omega
theorem doubled_wf (S : List D) (cs : List Int) (hS : ∀ d ∈ S, StB 6 d) (hl : S.length ≤ 20) (hc : 0 < cs.length ∧ cs.length ≤ 30) : wf F__law_doubled [.d (.lst S), .d (.lst (cs.map D.int))] fun o rs =>
    (∃ S2, (∀ d ∈ S2, StB 12 d) ∧ S2.length ≤ 2 * S.length ∧ o = .v (.ol S2)) ∧ rs = [.d (.lst S), .d (.lst (cs.map D.int))] := by
  have cp : (0 < (cs.length : Int)) = True := eq_true (by omega)
  have hr : dR1 [.int (S.length : Int)] = some ((List.range' 0 (S.length - 0)).map fun i : Nat => D.int (i : Int)) := by
    rw [dR1_n (by omega)]
    simp [rngD, List.range_eq_range']
  have hr2 : dR1 [.int 2] = some [.int 0, .int 1] := rfl
  unfold F__law_doubled
  simp_arith only [-dR1_i, b__law_doubled, hr]
  refine ws_for (fun es s => ∃ (t : Nat) (ks vs : List D) (x3 x4 x5 x6 x7 x8 x9 : Option R), es = (List.range' t (S.length - t)).map (fun i : Nat => D.int (i : Int)) ∧ t ≤ S.length ∧ (∀ e ∈ ks, StB 12 e) ∧ vs.length = ks.length ∧ ks.length ≤ 2 * t ∧ s = [some (R.d (.lst S)), some (.d (.lst (cs.map D.int))), some (.od ks vs), x3, x4, x5, x6, x7, x8, x9])
    ⟨0, [], [], none, none, none, none, none, none, none, rfl, by omega, (fun e he => nomatch he), rfl, by simp, rfl⟩ ?_ ?_
  · rintro d r s ⟨t, ks, vs, x3, x4, x5, x6, x7, x8, x9, hd, ht, hk, hv, hn, rfl⟩
    have hlt : t < S.length := by
      by_cases h : t < S.length
      · exact h
      · have : S.length - t = 0 := by omega
        rw [this] at hd; simp at hd
    obtain ⟨q, hq⟩ : ∃ q, S.length - t = q + 1 := ⟨S.length - t - 1, by omega⟩
    rw [hq, List.range'_succ, List.map_cons] at hd
    injection hd with hd1 hd2
    subst hd1 hd2
    obtain ⟨a, m, c, b, e, ha, hc2⟩ := (hS S[t] (List.getElem_mem hlt)).ex
    have ix : dIx (.lst S) (.int (t : Int)) = some (stepD a m c b) := by rw [e_ixn, List.getElem?_eq_getElem hlt, e]
    have cell : ∀ i : Int, ∃ y : Int, dIx (.lst (cs.map D.int)) (.int (i % (cs.length : Int))) = some (.int y) := fun i => by
      have h : 0 < (cs.length : Int) := by omega
      have eix := e_ixlm (xs := cs.map D.int) (r := i) (k := (cs.length : Int)) h (by simp)
      have h2 := (mod_natC (r := i) h).2
      have := getD_mem (d := D.non) (show (i % (cs.length : Int)).toNat < (cs.map D.int).length by simp; omega)
      obtain ⟨y, _, ey⟩ := List.mem_map.mp this
      exact ⟨y, by rw [eix, ey]⟩
    obtain ⟨y0, ey0⟩ := cell ((t : Int) + 0)
    obtain ⟨y1, ey1⟩ := cell ((t : Int) + 1)
    have mz : ∀ z : Int, CMulB 2 z = True := fun z => eq_true (.inl (by decide))
    have h0 : StB 12 (stepD (2 * a + 0) m (2 * c + y0 / 16 % 2) b) := ⟨_, _, _, _, rfl, ⟨by omega, by omega⟩, ⟨by omega, by omega⟩⟩
    have h1 : StB 12 (stepD (2 * a + 1) m (2 * c + y1 / 16 % 2) b) := ⟨_, _, _, _, rfl, ⟨by omega, by omega⟩, ⟨by omega, by omega⟩⟩
    have st0 := set_steps (vs := vs) hk h0 (by omega) (.bl true)
    have hk1 : ∀ e ∈ dputK ks (stepD (2 * a + 0) m (2 * c + y0 / 16 % 2) b), StB 12 e := fun e he => (dput_mem he).elim (hk e) fun z => by rw [z]; exact h0
    have v1 := dputV_len (d := stepD (2 * a + 0) m (2 * c + y0 / 16 % 2) b) (x := .bl true) hv
    have l1 := dput_len1 (ks := ks) (d := stepD (2 * a + 0) m (2 * c + y0 / 16 % 2) b)
    generalize dputK ks (stepD (2 * a + 0) m (2 * c + y0 / 16 % 2) b) = ks1 at st0 hk1 v1 l1
    generalize dputV ks vs (stepD (2 * a + 0) m (2 * c + y0 / 16 % 2) b) (.bl true) = vs1 at st0 v1
    have st1 := set_steps (vs := vs1) hk1 h1 (by omega) (.bl true)
    have hk2 : ∀ e ∈ dputK ks1 (stepD (2 * a + 1) m (2 * c + y1 / 16 % 2) b), StB 12 e := fun e he => (dput_mem he).elim (hk1 e) fun z => by rw [z]; exact h1
    have v2 := dputV_len (d := stepD (2 * a + 1) m (2 * c + y1 / 16 % 2) b) (x := .bl true) v1
    have l2 := dput_len1 (ks := ks1) (d := stepD (2 * a + 1) m (2 * c + y1 / 16 % 2) b)
    generalize dputK ks1 (stepD (2 * a + 1) m (2 * c + y1 / 16 % 2) b) = ks2 at st1 hk2 v2 l2
    generalize dputV ks1 vs1 (stepD (2 * a + 1) m (2 * c + y1 / 16 % 2) b) (.bl true) = vs2 at st1 v2
    unfold stepD tS tI at st0 st1 ix
    simp_arith only [-dR1_i, ix, hr2]
    rw [ws_forL_cons]
    simp_arith only [cp, ey0, mz, st0]
    rw [ws_forL_cons]
    simp_arith only [cp, ey1, mz, st1]
    rw [ws_forL_nil]
    simp_arith only []
    refine ⟨t + 1, ks2, vs2, _, _, _, _, _, _, _, by rw [show S.length - (t + 1) = q by omega], by omega, hk2, v2, by omega, rfl⟩
  · rintro s ⟨t, ks, vs, x3, x4, x5, x6, x7, x8, x9, hd, ht, hk, hv, hn, rfl⟩
    have sd := sort_dict (vs := vs) hk (by omega)
    simp_arith only [sd]
    refine ⟨sortD ks, fun d hd => hk d ((sortD_perm _).mem_iff.mp hd), ?_, rfl⟩
    rw [(sortD_perm _).length_eq]
    omega
end K52
set_option Elab.async false
set_option linter.all false
set_option maxRecDepth 100000
set_option maxHeartbeats 4000000
namespace K52
open PySem hiding ret plain
open Fz hiding tb nx
theorem cutD_from {α : Type} {xs : List α} {k : Nat} : cutD xs (some (k : Int)) none = xs.drop k := by
  unfold cutD
  rw [HT.sIx_none, HT.sIx_nat]
  by_cases h : k ≤ xs.length
  · rw [Nat.min_eq_left h, List.take_of_length_le (by simp)]
  · rw [Nat.min_eq_right (by omega), List.drop_of_length_le (Nat.le_refl _), List.drop_of_length_le (by omega)]; simp
theorem cutD_to {α : Type} {xs : List α} {k : Nat} : cutD xs none (some (k : Int)) = xs.take k := by
  unfold cutD
  rw [HT.sIx_none, HT.sIx_nat, List.drop_zero, Nat.sub_zero]
  by_cases h : k ≤ xs.length
  · rw [Nat.min_eq_left h]
  · rw [Nat.min_eq_right (by omega), List.take_of_length_le (Nat.le_refl _), List.take_of_length_le (by omega)]
theorem cut1 {α : Type} (x : α) (xs : List α) (k : Nat) (h : k ≤ xs.length) : cutD (x :: xs) (some 1) (some ((k + 1 : Nat) : Int)) = xs.take k := by
  unfold cutD
  have e : HT.sIx (x :: xs).length 0 (some 1) = 1 := (HT.sIx_nat _ 0 1).trans (Nat.min_eq_left (by simp))
  rw [e, HT.sIx_nat, Nat.min_eq_left (by simp; omega)]
  simp
theorem cut1n {α : Type} (x : α) (xs : List α) : cutD (x :: xs) (some 1) none = xs := (cutD_from (k := 1)).trans rfl
theorem machine_wf (cs : List Int) (ws : List Str) (hc : cs.length = 18) (h0 : iR cs) (hw : ws.length ≤ 3) : wf F__law_machine_by [.d (.lst (cs.map D.int)), .d (.lst (ws.map D.str))] fun o rs =>
    (∃ (ss : List Str) (b : Nat) (S : List D), (∀ d ∈ S, StB 12 d) ∧ S.length ≤ 40 ∧ b ≤ 3 ∧ o = .v (.d (.tup [.tup (ss.map D.str), .int (b : Int), .lst S]))) ∧ rs = [.d (.lst (cs.map D.int)), .d (.lst (ws.map D.str))] := by
  obtain ⟨c0, cs', rfl⟩ : ∃ c r, cs = c :: r := by
    cases cs with
    | nil => simp at hc
    | cons c r => exact ⟨c, r, rfl⟩
  have hc : cs'.length = 17 := by simpa using hc
  have ix : dIx (.lst ((c0 :: cs').map D.int)) (.int 0) = some (.int c0) := by rw [e_ix0]; rfl
  obtain ⟨b, hb, eb⟩ := mod_nat (c0 / 6) 4 (by decide)
  have eb : c0 / 6 % 4 = (b : Int) := eb
  obtain ⟨k, hk, ek⟩ := mod_nat (c0 / 24) 14 (by decide)
  have ek : c0 / 24 % 14 = (k : Int) := ek
  obtain ⟨m, hm, em⟩ := mod_nat c0 6 (by decide)
  have em : c0 % 6 = (m : Int) := em
  have em1 : 1 + (m : Int) = ((m + 1 : Nat) : Int) := by omega
  have ek1 : 1 + (k : Int) = ((k + 1 : Nat) : Int) := by omega
  unfold F__law_machine_by
  simp_arith only [-n_sSeq, b__law_machine_by]
  rw [n_sSeq]
  simp_arith only [-n_sSeq, ix, eb]
  rw [n_sSeq]
  have cu : cutD (D.int c0 :: cs'.map D.int) (some 1) (some ((k + 1 : Nat) : Int)) = (cs'.take k).map D.int := by rw [cut1 _ _ _ (by simp; omega), List.map_take]
  have cu2 : cutD (D.int c0 :: cs'.map D.int) (some 1) none = cs'.map D.int := cut1n _ _
  obtain ⟨_, _, es, ⟨S, hS, lS, rfl⟩, rfl⟩ := wf_get (steps_wf (cs'.take k) ws (m + 1) b (by simp; omega) hw (by omega) (by omega))
  have hS6 : ∀ d ∈ S, StB 6 d := fun d hd => by
    obtain ⟨a, mm, c, bb, rfl, h1, h2⟩ := (hS d hd).ex
    exact ⟨a, mm, c, bb, rfl, ⟨h1.1, by omega⟩, ⟨h2.1, by omega⟩⟩
  have lS : S.length ≤ 17 := by have := lS; rw [List.length_take] at this; omega
  obtain ⟨_, _, ed, ⟨S2, hS2, lS2, rfl⟩, rfl⟩ := wf_get (doubled_wf S cs' hS6 (by omega) (by omega))
  have gs : gSorted [.lst (ws.map D.str)] = some ((ssort ws).map D.str) := by
    show ((dStrs _).bind fun ss => if ss.length < 64 then some ((ssort ss).map D.str) else none) = _
    rw [dStrs_map]
    exact if_pos (by omega)
  simp_arith only [-n_sSeq, ix, em, em1, ek, ek1, cu, wf_of es]
  rw [n_sSeq]
  simp_arith only [-n_sSeq, ix]
  refine wd_of (fun h => ?_) (fun h => ?_)
  · simp_arith only [cu2, wf_of ed, gs]
    exact ⟨ssort ws, b, S2, hS2, by omega, by omega, rfl⟩
  · simp_arith only [gs]
    exact ⟨ssort ws, b, S, fun d hd => by
      obtain ⟨a, mm, c, bb, rfl, h1, h2⟩ := (hS6 d hd).ex
      exact ⟨a, mm, c, bb, rfl, ⟨h1.1, by omega⟩, ⟨h2.1, by omega⟩⟩, by omega, by omega, rfl⟩
end K52
set_option Elab.async false
set_option linter.all false
set_option maxRecDepth 100000
set_option maxHeartbeats 4000000
namespace K52
open PySem hiding ret plain
open Fz hiding tb nx
open FzP
abbrev T4 : Type := Nat × (List Str × Nat × List Int)
def encT4 (t : T4) : D := stepD (t.1 : Int) t.2.1 (t.2.2.1 : Int) t.2.2.2
def T12 (k : Nat) (ts : List T4) : Prop := ∀ t ∈ ts, t.1 < k ∧ t.2.2.1 < k
theorem steps_of {k : Nat} : ∀ {S : List D}, (∀ d ∈ S, StB (k : Int) d) → ∃ ts : List T4, S = ts.map encT4 ∧ T12 k ts
  | [], _ => ⟨[], rfl, fun t ht => nomatch ht⟩
  | d :: S, h => by
    obtain ⟨ts, e, ht⟩ := steps_of fun x hx => h x (.tail _ hx)
    obtain ⟨a, m, c, b, rfl, h1, h2⟩ := (h d (.head _)).ex
    refine ⟨(a.toNat, m, c.toNat, b) :: ts, ?_, fun t hm => ?_⟩
    · rw [List.map_cons, e]
      unfold encT4
      rw [Int.toNat_of_nonneg h1.1, Int.toNat_of_nonneg h2.1]
    · rcases List.mem_cons.mp hm with rfl | hm
      · exact ⟨by show a.toNat < k; omega, by show c.toNat < k; omega⟩
      · exact ht t hm
theorem stp_enc {k : Nat} {ts : List T4} (h : T12 k ts) (hk : k ≤ 100) : ∀ d ∈ ts.map encT4, Stp d := fun d hd => by
  obtain ⟨t, ht, rfl⟩ := List.mem_map.mp hd
  have := h t ht
  exact ⟨_, _, _, _, rfl, ⟨by omega, by omega⟩, ⟨by omega, by omega⟩⟩
def topT (ts : List T4) : Nat := ts.foldl (fun g t => max (max g t.1) t.2.2.1) 0
def cntT (ts : List T4) : Nat := 1 + topT ts
theorem top_ge : ∀ (ts : List T4) (g : Nat), g ≤ ts.foldl (fun g t => max (max g t.1) t.2.2.1) g
  | [], g => Nat.le_refl _
  | t :: ts, g => Nat.le_trans (by show g ≤ max (max g t.1) t.2.2.1; omega) (top_ge ts _)
theorem top_mem : ∀ (ts : List T4) (g : Nat), ∀ t ∈ ts, t.1 ≤ ts.foldl (fun g t => max (max g t.1) t.2.2.1) g ∧ t.2.2.1 ≤ ts.foldl (fun g t => max (max g t.1) t.2.2.1) g
  | u :: ts, g, t, ht => by
    rcases List.mem_cons.mp ht with rfl | ht
    · have := top_ge ts (max (max g t.1) t.2.2.1)
      exact ⟨Nat.le_trans (by omega) this, Nat.le_trans (by omega) this⟩
    · exact top_mem ts _ t ht
theorem cnt_mem {ts : List T4} : ∀ t ∈ ts, t.1 < cntT ts ∧ t.2.2.1 < cntT ts := fun t ht => by
  have := top_mem ts 0 t ht
  unfold cntT topT
  omega
theorem top_lt {k : Nat} (hk : 0 < k) : ∀ (ts : List T4) (g : Nat), g < k → T12 k ts → ts.foldl (fun g t => max (max g t.1) t.2.2.1) g < k
  | [], g, h, _ => h
  | t :: ts, g, h, ht => top_lt hk ts _ (by have := ht t (.head _); show max (max g t.1) t.2.2.1 < k; omega) fun u hu => ht u (.tail _ hu)
theorem cnt_le {k : Nat} {ts : List T4} (hk : 0 < k) (h : T12 k ts) : cntT ts ≤ k := by
  have := top_lt hk ts 0 hk h
  unfold cntT topT
  omega
theorem great_max (ts : List T4) : maxOf 0 (ts.map fun t => (max (t.1 : Int) (t.2.2.1 : Int))) = (topT ts : Int) := by
  have h1 : ∀ (u : List T4) (g : Nat), (u.map fun t => (max (t.1 : Int) (t.2.2.1 : Int))).foldl max (g : Int) = ((u.foldl (fun g t => max (max g t.1) t.2.2.1) g : Nat) : Int) := by
    intro u
    induction u with
    | nil => intro g; rfl
    | cons t u ih =>
      intro g
      have e : max (g : Int) (max (t.1 : Int) (t.2.2.1 : Int)) = ((max (max g t.1) t.2.2.1 : Nat) : Int) := by omega
      show (u.map _).foldl max (max (g : Int) (max (t.1 : Int) (t.2.2.1 : Int))) = _
      rw [e, ih]
      rfl
  cases ts with
  | nil => rfl
  | cons t u =>
    have e : max (t.1 : Int) (t.2.2.1 : Int) = ((max (max 0 t.1) t.2.2.1 : Nat) : Int) := by omega
    show (u.map _).foldl max (max (t.1 : Int) (t.2.2.1 : Int)) = _
    rw [e, h1]
    rfl
def mO (ss : List Str) (b : Int) (ts : List T4) : D := .obj 0 [.tup (ss.map D.str), .int b, .lst (ts.map encT4)]
theorem count_wf (ts : List T4) (ss : List Str) (b : Int) (hl : ts.length ≤ 1000) : wf F_Machine_count [.d (mO ss b ts)] fun o rs => o = .v (.d (.int (cntT ts : Int))) ∧ rs = [.d (mO ss b ts)] := by
  have x2 : ix_steps 0 = some 2 := rfl
  have hi : dInts ((ts.map fun t => (max (t.1 : Int) (t.2.2.1 : Int))).map D.int) = some (ts.map fun t => (max (t.1 : Int) (t.2.2.1 : Int))) := dInts_map _
  have hx : ts.map (fun t => D.int (max (t.1 : Int) (t.2.2.1 : Int))) = (ts.map fun t => (max (t.1 : Int) (t.2.2.1 : Int))).map D.int := by rw [List.map_map]; rfl
  have e1 : (1 : Int) + (topT ts : Int) = (cntT ts : Int) := by unfold cntT; omega
  unfold F_Machine_count mO
  simp_arith only [b_Machine_count, x2]
  refine wl_map (xs := ts) encT4 (fun t => D.int (max (t.1 : Int) (t.2.2.1 : Int))) (by simp [szl, sizeLine]; omega) (fun t ht => ?_) ?_
  · simp_arith only [encT4, stepD]
  · simp_arith only [hx, hi, great_max, e1]
def tldT (ts : List T4) : Tld (List Str) (List Int) := fun s => (ts.filter fun t => decide (t.1 = s)).map (·.2)
def encP (x : List Str × Nat × List Int) : D := .tup [tS x.1, .int (x.2.1 : Int), tI x.2.2]
def rowR (ts : List T4) (s : Nat) : R := .ol ((tldT ts s).map encP)
theorem tld_snoc (ts : List T4) (t : T4) (s : Nat) : tldT (ts ++ [t]) s = if t.1 = s then tldT ts s ++ [t.2] else tldT ts s := by
  unfold tldT
  rw [List.filter_append]
  by_cases h : t.1 = s
  · rw [if_pos h, List.filter_cons_of_pos (by simpa using h)]; simp
  · rw [if_neg h, List.filter_cons_of_neg (by simpa using h)]; simp
theorem rows_set {n : Nat} {ts : List T4} {t : T4} (h : t.1 < n) : ((List.range n).map (rowR ts)).set t.1 (.ol ((tldT ts t.1).map encP ++ [encP t.2])) = (List.range n).map (rowR (ts ++ [t])) := by
  refine List.ext_getElem? fun s => ?_
  by_cases hs : s < n
  · rw [List.getElem?_set]
    by_cases e : t.1 = s
    · subst e
      rw [if_pos rfl, if_pos (by simpa using hs), List.getElem?_map, List.getElem?_range hs]
      unfold rowR
      rw [Option.map_some, tld_snoc, if_pos rfl, List.map_append]
      rfl
    · rw [if_neg e, List.getElem?_map, List.getElem?_map, List.getElem?_range hs]
      unfold rowR
      rw [Option.map_some, Option.map_some, tld_snoc, if_neg e]
  · rw [List.getElem?_eq_none (by simpa using hs), List.getElem?_eq_none (by simpa using hs)]
theorem tld_len (ts : List T4) (s : Nat) : (tldT ts s).length ≤ ts.length := by
  unfold tldT
  rw [List.length_map]
  exact List.length_filter_le _ _
theorem states_wf (ts : List T4) (ss : List Str) (b : Int) (hl : ts.length ≤ 1000) (hk : cntT ts ≤ 1000) : wf F_steps_by_state [.d (mO ss b ts)] fun o rs => o = .v (.nl ((List.range (cntT ts)).map (rowR ts))) ∧ rs = [.d (mO ss b ts)] := by
  have x2 : ix_steps 0 = some 2 := rfl
  have t1 : tab_count 0 = some F_Machine_count := rfl
  obtain ⟨_, _, ec, rfl, rfl⟩ := wf_get (count_wf ts ss b hl)
  unfold mO at ec
  have hr : dR1 [.int (cntT ts : Int)] = some ((List.range (cntT ts)).map fun i : Nat => D.int (0 + (i : Int))) := dR1_n (by omega)
  unfold F_steps_by_state mO
  simp_arith only [-dR1_i, b_steps_by_state, t1, n_rLcR, wf_of ec, hr, kLcR_v, kLcUR_a]
  refine wlr_map (xs := List.range (cntT ts)) (fun i : Nat => D.int (0 + (i : Int))) (fun _ => R.ol []) (by simp [szl, sizeLine]; omega) (fun i hi => ?_) ?_
  · simp_arith only []
  · have e0 : (List.range (cntT ts)).map (fun _ => R.ol []) = (List.range (cntT ts)).map (rowR []) := rfl
    simp_arith only [kLcBR_a, e0, x2]
    refine ws_for (fun es s => ∃ (pre u : List T4) (x2 x3 x4 x5 : Option R), ts = pre ++ u ∧ es = u.map encT4 ∧ s = [some (.d (.obj 0 [.tup (ss.map D.str), .int b, .lst (ts.map encT4)])), some (.nl ((List.range (cntT ts)).map (rowR pre))), x2, x3, x4, x5])
      ⟨[], ts, none, none, none, none, rfl, rfl, rfl⟩ ?_ ?_
    · rintro d r s ⟨pre, u, x2, x3, x4, x5, e, hd, rfl⟩
      cases u with
      | nil => cases hd
      | cons t u =>
        rw [List.map_cons] at hd
        injection hd with hd1 hd2
        subst hd1 hd2
        have hm := cnt_mem (ts := ts) t (by rw [e]; simp)
        have ix : L2.ixN (List.range (cntT ts)).length (t.1 : Int) = some t.1 := by
          rw [ixn_n, List.length_range]
          exact if_pos hm.1
        have at_ : ((List.range (cntT ts)).map (rowR pre))[t.1]? = some (rowR pre t.1) := by
          rw [List.getElem?_map, List.getElem?_range hm.1]; rfl
        have z : (((tldT pre t.1).map encP).length < 16777216) = True := eq_true (by
          have := tld_len pre t.1
          have l2 := congrArg List.length e
          rw [List.length_append] at l2
          rw [List.length_map]; omega)
        have rs : rSets ((List.range (cntT ts)).map (rowR pre)) t.1 [] (.ol ((tldT pre t.1).map encP ++ [encP t.2])) = (List.range (cntT ts)).map (rowR (pre ++ [t])) := by
          unfold rSets
          rw [at_]
          exact rows_set hm.1
        have at2 : ((List.range (cntT ts)).map (rowR pre))[t.1]? = some (R.ol ((tldT pre t.1).map encP)) := at_
        have rs2 : rSets ((List.range (cntT ts)).map (rowR pre)) t.1 [] (.ol ((tldT pre t.1).map encP ++ [.tup [.tup (t.2.1.map D.str), .int (t.2.2.1 : Int), .tup (t.2.2.2.map D.int)]])) = (List.range (cntT ts)).map (rowR (pre ++ [t])) := rs
        rw [List.length_map] at z
        simp_arith only [encT4, stepD, tS, tI, ix, at2, z, rs2]
        exact ⟨pre ++ [t], u, _, _, _, _, by rw [e]; simp, rfl, rfl⟩
    · rintro s ⟨pre, u, x2, x3, x4, x5, e, hd, rfl⟩
      have e : ts = pre := by
        cases u with
        | nil => simpa using e
        | cons t u => cases hd
      subst e
      simp_arith only []
end K52
set_option Elab.async false
set_option linter.all false
set_option maxRecDepth 100000
set_option maxHeartbeats 4000000
namespace K52
open PySem hiding ret plain
open Fz hiding tb nx
open FzP
theorem num_snoc {K : Type} [DecidableEq K] (xs : List K) (x : K) : num (xs ++ [x]) = num xs ++ [(dd (xs ++ [x])).idxOf x] := by
  rw [num_eq, num_eq, List.map_append]
  congr 1
  refine List.map_congr_left fun y hy => ?_
  rw [dd_snoc]
  split
  · rfl
  · exact idx_app (mem_dd.mpr hy)
def lookL (p : List Nat) (l : List (List Str × Nat × List Int)) : List D := l.map fun x => encP (img p x)
def lookD (p : List Nat) (l : List (List Str × Nat × List Int)) : D := .tup (sortD (nubD (lookL p l)))
theorem ord_encP (x : List Str × Nat × List Int) : ordD (encP x) = true := by
  show (ordD (tS x.1) && (true && (ordD (tI x.2.2) && true))) = true
  rw [ord_tS, ord_tI]; rfl
theorem nkD_encP (x : List Str × Nat × List Int) : nkD (encP x) = .tup [.tup (x.1.map .text), .num (x.2.1 : Int), .tup (x.2.2.map .num)] := by
  refine (nkD_tup (show ordDs _ = true from ord_encP x)).trans ?_
  simp only [List.map_cons, List.map_nil, nkD_tS, nkD_tI]
  rfl
theorem map_inj2 {α β : Type} {f : α → β} (hf : ∀ a b, f a = f b → a = b) : ∀ {xs ys : List α}, xs.map f = ys.map f → xs = ys
  | [], [], _ => rfl
  | [], _ :: _, h => by cases h
  | _ :: _, [], h => by cases h
  | x :: xs, y :: ys, h => by
    rw [List.map_cons, List.map_cons] at h
    injection h with h1 h2
    rw [hf x y h1, map_inj2 hf h2]
theorem encP_inj {x y : List Str × Nat × List Int} (h : encP x = encP y) : x = y := by
  obtain ⟨m, c, r⟩ := x
  obtain ⟨m', c', r'⟩ := y
  unfold encP tS tI at h
  injection h with h
  injection h with h1 h
  injection h with h2 h
  injection h with h3 _
  injection h1 with h1
  injection h2 with h2
  injection h3 with h3
  have e1 : m = m' := map_inj2 (fun a b z => by injection z) h1
  have e3 : r = r' := map_inj2 (fun a b z => by injection z) h3
  have e2 : c = c' := by exact_mod_cast h2
  rw [e1, e2, e3]
theorem look_ord (p : List Nat) (l : List (List Str × Nat × List Int)) : ∀ d ∈ lookL p l, ordD d = true := fun d hd => by
  obtain ⟨x, _, rfl⟩ := List.mem_map.mp hd
  exact ord_encP _
theorem look_ok (p : List Nat) (l : List (List Str × Nat × List Int)) : sortOk (lookL p l) = true := by
  refine sortOk_of (fun d hd => ?_) fun d hd e he => ?_
  · obtain ⟨x, _, rfl⟩ := List.mem_map.mp hd
    refine ⟨ord_encP _, rfl, ?_⟩
    rw [nkD_encP]
    simp only [NestedKey.depth, NestedKey.depthAll, depth_texts, depth_nums]
    omega
  · obtain ⟨x, _, rfl⟩ := List.mem_map.mp hd
    obtain ⟨y, _, rfl⟩ := List.mem_map.mp he
    rw [nkD_encP, nkD_encP]
    simp [kComp, kComps, comp_texts, comp_nums]
theorem mem_sorted {p : List Nat} {l : List (List Str × Nat × List Int)} {d : D} : d ∈ sortD (nubD (lookL p l)) ↔ d ∈ lookL p l := by
  rw [(sortD_perm _).mem_iff, mem_nubD (look_ord p l)]
theorem ord_look (p : List Nat) (l : List (List Str × Nat × List Int)) : ordD (lookD p l) = true :=
  ordDs_all fun d hd => look_ord p l d (mem_sorted.mp hd)
def lookK (ts : List T4) (p : List Nat) (s : Nat) : NestedKey := nkD (lookD p (tldT ts s))
theorem look_iff (ts : List T4) (p : List Nat) (s t : Nat) : lookK ts p s = lookK ts p t ↔ LookEq (tldT ts) p s t := by
  have mm : ∀ s x, encP x ∈ lookL p (tldT ts s) ↔ x ∈ (tldT ts s).map (img p) := fun s x => by
    unfold lookL
    rw [List.mem_map, List.mem_map]
    constructor
    · rintro ⟨y, hy, e⟩; exact ⟨y, hy, encP_inj e⟩
    · rintro ⟨y, hy, e⟩; exact ⟨y, hy, by rw [e]⟩
  constructor
  · intro h x
    have h := nkD_inj (ord_look _ _) (ord_look _ _) h
    unfold lookD at h
    injection h with h
    rw [← mm s x, ← mm t x, ← mem_sorted (p := p), ← mem_sorted (p := p), h]
  · intro h
    have ps : (nubD (lookL p (tldT ts s))).Perm (nubD (lookL p (tldT ts t))) := permD_of_mem (nodup_nubD (look_ord _ _)) (nodup_nubD (look_ord _ _)) fun d => by
      rw [mem_nubD (look_ord _ _), mem_nubD (look_ord _ _)]
      constructor
      · intro hd
        obtain ⟨x, hx, rfl⟩ := List.mem_map.mp hd
        exact (mm t _).mpr ((h _).mp ((mm s _).mp hd))
      · intro hd
        obtain ⟨x, hx, rfl⟩ := List.mem_map.mp hd
        exact (mm s _).mpr ((h _).mpr ((mm t _).mp hd))
    have e : sortD (nubD (lookL p (tldT ts s))) = sortD (nubD (lookL p (tldT ts t))) := sortD_of ((sortD_perm _).trans ps) (fun d hd => look_ord _ _ d ((mem_nubD (look_ord _ _)).mp hd)) (sortD_sorted _)
    unfold lookK lookD
    rw [e]
theorem sys_of (ts : List T4) (n : Nat) (h : ∀ t ∈ ts, t.2.2.1 < n) : Sys n (tldT ts) (lookK ts) where
  tgt := fun s _ x hx => by
    unfold tldT at hx
    obtain ⟨t, ht, rfl⟩ := List.mem_map.mp hx
    exact h t (List.mem_filter.mp ht).1
  key := fun p s t _ _ => look_iff ts p s t
theorem tup_look (p : List Nat) (l : List (List Str × Nat × List Int)) : tupK (lookD p l) = true := by
  have e : nkD (lookD p l) = .tup ((sortD (nubD (lookL p l))).map nkD) := nkD_tup (ord_look p l)
  unfold tupK
  rw [nk_ord (ord_look p l), e]
  show decide _ = true
  rw [decide_eq_true_iff]
  have : ∀ ds : List D, (∀ d ∈ ds, (nkD d).depth ≤ 2) → NestedKey.depthAll (ds.map nkD) ≤ 2 := by
    intro ds
    induction ds with
    | nil => intro _; show 0 ≤ 2; omega
    | cons d ds ih =>
      intro h
      have h1 := h d (.head _)
      have h2 := ih fun e he => h e (.tail _ he)
      show max (nkD d).depth (NestedKey.depthAll (ds.map nkD)) ≤ 2
      omega
  have := this (sortD (nubD (lookL p l))) fun d hd => by
    obtain ⟨x, _, rfl⟩ := List.mem_map.mp (mem_sorted.mp hd)
    rw [nkD_encP]
    simp only [NestedKey.depth, NestedKey.depthAll, depth_texts, depth_nums]
    omega
  show NestedKey.depthAll _ + 1 ≤ 8
  omega
theorem kpos_ord {ks : List D} {d : D} (hk : ∀ e ∈ ks, ordD e = true) (hd : ordD d = true) : kpos ks d = if nkD d ∈ ks.map nkD then some ((ks.map nkD).idxOf (nkD d)) else none := by
  unfold kpos
  induction ks with
  | nil => rfl
  | cons e ks ih =>
    have ih := ih fun z hz => hk z (.tail _ hz)
    have ce : decide (nk e = nk d) = decide (nkD e = nkD d) := by
      rw [nk_ord (hk e (.head _)), nk_ord hd]
      exact decide_eq_decide.mpr (by simp)
    rw [List.findIdx?_cons, ce, ih, List.map_cons]
    by_cases h : nkD e = nkD d
    · rw [decide_eq_true h, h]
      simp
    · rw [decide_eq_false h]
      have hb : (nkD e == nkD d) = false := by simpa using h
      by_cases m : nkD d ∈ ks.map nkD
      · rw [if_pos m, if_pos (List.mem_cons_of_mem _ m), List.idxOf_cons, hb]
        rfl
      · have m2 : ¬ nkD d ∈ nkD e :: ks.map nkD := fun z => by
          rcases List.mem_cons.mp z with z | z
          · exact h z.symm
          · exact m z
        rw [if_neg m, if_neg m2]
        rfl
end K52
set_option Elab.async false
set_option linter.all false
set_option maxRecDepth 100000
set_option maxHeartbeats 4000000
namespace K52
open PySem hiding ret plain
open Fz hiding tb nx
open FzP
def natsD (p : List Nat) : List D := p.map fun k : Nat => D.int (k : Int)
def rowD (ts : List T4) (s : Nat) : D := .lst ((tldT ts s).map encP)
theorem imms_of : ∀ {ds : List D}, (∀ d ∈ ds, imm d = true) → imms ds = true
  | [], _ => rfl
  | d :: ds, h => by show (imm d && imms ds) = true; rw [h d (.head _), imms_of fun e he => h e (.tail _ he)]; rfl
theorem imm_tS (ss : List Str) : imm (tS ss) = true := imms_of fun d hd => by obtain ⟨s, _, rfl⟩ := List.mem_map.mp hd; rfl
theorem imm_tI (ss : List Int) : imm (tI ss) = true := imms_of fun d hd => by obtain ⟨s, _, rfl⟩ := List.mem_map.mp hd; rfl
theorem imm_encP (x : List Str × Nat × List Int) : imm (encP x) = true := by
  show (imm (tS x.1) && (true && (imm (tI x.2.2) && true))) = true
  rw [imm_tS, imm_tI]; rfl
structure Known (keys : List NestedKey) (ks vs : List D) : Prop where
  ord : ∀ d ∈ ks, ordD d = true
  tup : ks.all tupK = true
  key : ks.map nkD = dd keys
  val : vs = natsD (List.range ks.length)
theorem setd_known {keys : List NestedKey} {ks vs : List D} (h : Known keys ks vs) {d : D} (ho : ordD d = true) (ht : tupK d = true) (hl : ks.length < 1000) :
    ∃ ks' vs', opSetd (.od ks vs) [d, .int (ks.length : Int)] = some (.od ks' vs', .int ((dd (keys ++ [nkD d])).idxOf (nkD d) : Nat)) ∧ Known (keys ++ [nkD d]) ks' vs' ∧ ks'.length ≤ ks.length + 1 := by
  have dk : dkOk ks d = true := by unfold dkOk; rw [ht, h.tup]; simp
  have lv : vs.length = ks.length := by rw [h.val]; simp [natsD]
  have op : opSetd (.od ks vs) [d, .int (ks.length : Int)] = (match kpos ks d with
    | some j => (vs[j]?).map fun w => (.od ks vs, w)
    | none => some (.od (ks ++ [d]) (vs ++ [.int (ks.length : Int)]), .int (ks.length : Int))) := by
    show (if _ then _ else _) = _
    exact if_pos ⟨dk, by unfold sizeLine; omega⟩
  have ds := dd_snoc keys (nkD d)
  have mem : nkD d ∈ ks.map nkD ↔ nkD d ∈ keys := by rw [h.key]; exact mem_dd
  by_cases m : nkD d ∈ keys
  · rw [if_pos m] at ds
    have hi : (ks.map nkD).idxOf (nkD d) < ks.length := by
      have := List.idxOf_lt_length_iff.mpr (mem.mpr m)
      rwa [List.length_map] at this
    have at_ : vs[(ks.map nkD).idxOf (nkD d)]? = some (.int (((ks.map nkD).idxOf (nkD d) : Nat) : Int)) := by
      rw [h.val]
      unfold natsD
      rw [List.getElem?_map, List.getElem?_range hi]
      rfl
    refine ⟨ks, vs, ?_, ⟨h.ord, h.tup, by rw [ds]; exact h.key, h.val⟩, by omega⟩
    rw [op, kpos_ord h.ord ho, if_pos (mem.mpr m)]
    show (vs[_]?).map _ = _
    rw [at_, ds, h.key]
    rfl
  · rw [if_neg m] at ds
    have hidx : (dd (keys ++ [nkD d])).idxOf (nkD d) = ks.length := by
      rw [ds, ← h.key, List.idxOf_append, if_neg (fun z => m (mem.mp z)), List.length_map]
      simp
    refine ⟨ks ++ [d], vs ++ [.int (ks.length : Int)], ?_, ⟨fun e he => ?_, ?_, ?_, ?_⟩, by simp⟩
    · rw [op, kpos_ord h.ord ho, if_neg (fun z => m (mem.mp z)), hidx]
    · rcases List.mem_append.mp he with he | he
      · exact h.ord e he
      · rw [List.mem_singleton.mp he]; exact ho
    · rw [List.all_append, h.tup]; simp [ht]
    · rw [List.map_append, h.key, ds]; rfl
    · rw [h.val]
      unfold natsD
      rw [List.length_append, List.length_singleton, List.range_succ, List.map_append]
      rfl
theorem tld_lt {ts : List T4} {s : Nat} : ∀ x ∈ tldT ts s, x.2.1 < cntT ts := fun x hx => by
  unfold tldT at hx
  obtain ⟨t, ht, rfl⟩ := List.mem_map.mp hx
  exact (cnt_mem t (List.mem_filter.mp ht).1).2
theorem finer_wf (ts : List T4) (p : List Nat) (hl : ts.length ≤ 60) (hp : p.length = cntT ts) (hn : cntT ts ≤ 100) : wf F_finer [.d (.lst ((List.range (cntT ts)).map (rowD ts))), .d (.lst (natsD p))] fun o rs =>
    o = .v (.ol (natsD (nextP (cntT ts) (lookK ts) p))) ∧ rs = [.d (.lst ((List.range (cntT ts)).map (rowD ts))), .d (.lst (natsD p))] := by
  unfold F_finer
  simp_arith only [b_finer]
  refine ws_for (fun es s => ∃ (t : Nat) (ks vs : List D) (x4 x5 : Option R), es = (List.range' t (cntT ts - t)).map (rowD ts) ∧ t ≤ cntT ts ∧ Known ((List.range t).map (lookK ts p)) ks vs ∧ ks.length ≤ t ∧
      s = [some (.d (.lst ((List.range (cntT ts)).map (rowD ts)))), some (.d (.lst (natsD p))), some (.od ks vs), some (.ol (natsD (num ((List.range t).map (lookK ts p))))), x4, x5, none, none, none])
    ⟨0, [], [], none, none, by simp [List.range_eq_range'], by omega, ⟨(fun d hd => nomatch hd), rfl, rfl, rfl⟩, Nat.le_refl _, rfl⟩ ?_ ?_
  · rintro d r s ⟨t, ks, vs, x4, x5, hd, ht, hk, hlk, rfl⟩
    have hlt : t < cntT ts := by
      by_cases h : t < cntT ts
      · exact h
      · have : cntT ts - t = 0 := by omega
        rw [this] at hd; simp at hd
    obtain ⟨q, hq⟩ : ∃ q, cntT ts - t = q + 1 := ⟨cntT ts - t - 1, by omega⟩
    rw [hq, List.range'_succ, List.map_cons] at hd
    injection hd with hd1 hd2
    subst hd1 hd2
    have lt := tld_len ts t
    simp_arith only [rowD]
    refine wl_map (xs := tldT ts t) encP (fun x => encP (img p x)) (by simp [szl, sizeLine]; omega) (fun x hx => ?_) ?_
    · have hx := tld_lt x hx
      have ix : dIx (.lst (natsD p)) (.int (x.2.1 : Int)) = some (.int ((p.getD x.2.1 0 : Nat) : Int)) := by
        unfold natsD
        rw [e_ixn, List.getElem?_map, List.getElem?_eq_getElem (by omega), List.getD_eq_getElem?_getD, List.getElem?_eq_getElem (by omega)]
        rfl
      simp_arith only [encP, tS, tI, img, ix]
    · have so : gSortSetN [.lst ((tldT ts t).map fun x => encP (img p x))] = some (sortD (nubD (lookL p (tldT ts t)))) := by
        show (if sortOk (lookL p (tldT ts t)) = true ∧ (lookL p (tldT ts t)).length < 64 then _ else none) = _
        exact if_pos ⟨look_ok p _, by unfold lookL; rw [List.length_map]; omega⟩
      obtain ⟨ks', vs', os, hk', hlk'⟩ := setd_known hk (ord_look p (tldT ts t)) (tup_look p (tldT ts t)) (by omega)
      have lD : dLenD [.dct ks vs] = some (.int (ks.length : Int)) := if_pos (.inr hk.tup)
      have im : imms (sortD (nubD (lookL p (tldT ts t)))) = true := imms_of fun d hd => by
        obtain ⟨x, _, rfl⟩ := List.mem_map.mp (mem_sorted.mp hd)
        exact imm_encP _
      have z : ((natsD (num ((List.range t).map (lookK ts p)))).length < 16777216) = True := eq_true (by unfold natsD; rw [List.length_map, num_len]; simp; omega)
      have ek : (List.range t).map (lookK ts p) ++ [nkD (lookD p (tldT ts t))] = (List.range (t + 1)).map (lookK ts p) := by rw [List.range_succ, List.map_append]; rfl
      have en : natsD (num ((List.range t).map (lookK ts p))) ++ [.int (((dd ((List.range t).map (lookK ts p) ++ [nkD (lookD p (tldT ts t))])).idxOf (nkD (lookD p (tldT ts t))) : Nat) : Int)] = natsD (num ((List.range (t + 1)).map (lookK ts p))) := by
        rw [← ek, num_snoc]
        unfold natsD
        rw [List.map_append]
        rfl
      rw [ek] at hk'
      generalize (dd ((List.range t).map (lookK ts p) ++ [nkD (lookD p (tldT ts t))])).idxOf (nkD (lookD p (tldT ts t))) = idx at os en
      unfold lookD at os
      simp_arith only [so, os, lD, im, z]
      exact ⟨t + 1, ks', vs', _, _, by rw [show cntT ts - (t + 1) = q by omega], by omega, hk', by omega, by rw [← en]⟩
  · rintro s ⟨t, ks, vs, x4, x5, hd, ht, hk, hlk, rfl⟩
    have e : t = cntT ts := by
      by_cases h : t < cntT ts
      · obtain ⟨q, hq⟩ : ∃ q, cntT ts - t = q + 1 := ⟨cntT ts - t - 1, by omega⟩
        rw [hq, List.range'_succ] at hd
        cases hd
      · omega
    subst e
    simp_arith only []
    rfl
end K52
set_option Elab.async false
set_option linter.all false
set_option maxRecDepth 100000
set_option maxHeartbeats 4000000
namespace K52
open PySem hiding ret plain
open Fz hiding tb nx
open FzP
theorem cnt_le_len (p : List Nat) : cnt p ≤ p.length := by
  have h : ∀ (xs kn : List Nat), (ddG kn xs).length ≤ kn.length + xs.length := by
    intro xs
    induction xs with
    | nil => intro kn; simp [ddG]
    | cons x r ih =>
      intro kn
      unfold ddG
      split
      · have := ih kn; simp; omega
      · have := ih (kn ++ [x]); simp at this ⊢; omega
  have := h p []
  simpa [cnt, dd] using this
theorem max_of {p : List Nat} {m : Nat} (h1 : m ∈ p) (h2 : ∀ y ∈ p, y ≤ m) : dMax1 [.lst (natsD p)] = some (.int (m : Int)) := by
  have e : natsD p = (p.map fun k : Nat => (k : Int)).map D.int := by unfold natsD; rw [List.map_map]; rfl
  show (dInts (natsD p)).bind (fun ns => if 0 < ns.length then some (D.int (maxOf 0 ns)) else none) = _
  rw [e, dInts_map]
  show (if _ then _ else _) = _
  have hp : 0 < p.length := List.length_pos_of_mem h1
  rw [if_pos (by simpa using hp), maxOf_of (m := (m : Int)) (List.mem_map.mpr ⟨m, h1, rfl⟩) fun y hy => by
    obtain ⟨k, hk, rfl⟩ := List.mem_map.mp hy
    have := h2 k hk
    omega]
theorem cnt_rep {n : Nat} (h : 0 < n) : cnt (List.replicate n 0) = 1 := by
  unfold cnt
  have : (dd (List.replicate n 0)).Perm [0] := (List.perm_ext_iff_of_nodup (dd_nodup _) (by simp)).mpr fun k => by
    rw [mem_dd, List.mem_replicate, List.mem_singleton]
    exact ⟨fun z => z.2, fun z => ⟨by omega, z⟩⟩
  simpa using this.length_eq
theorem seq_max (ts : List T4) (i : Nat) : dMax1 [.lst (natsD (seqP (cntT ts) (lookK ts) i))] = some (.int ((cnt (seqP (cntT ts) (lookK ts) i) : Int) - 1)) := by
  have hn : 0 < cntT ts := by unfold cntT; omega
  cases i with
  | zero =>
    have hc := cnt_rep hn
    have := max_of (p := List.replicate (cntT ts) 0) (m := 0) (List.mem_replicate.mpr ⟨by omega, rfl⟩) fun y hy => by rw [(List.mem_replicate.mp hy).2]; exact Nat.le_refl _
    show dMax1 [.lst (natsD (List.replicate (cntT ts) 0))] = some (.int ((cnt (List.replicate (cntT ts) 0) : Int) - 1))
    rw [hc]
    exact this
  | succ i =>
    have hl : (looks (cntT ts) (lookK ts) (seqP (cntT ts) (lookK ts) i)).length = cntT ts := looks_len
    have hc : cnt (seqP (cntT ts) (lookK ts) (i + 1)) = (dd (looks (cntT ts) (lookK ts) (seqP (cntT ts) (lookK ts) i))).length := cnt_next
    have pos : 0 < cnt (seqP (cntT ts) (lookK ts) (i + 1)) := by
      rw [hc]
      obtain ⟨x, hx⟩ : ∃ x, x ∈ looks (cntT ts) (lookK ts) (seqP (cntT ts) (lookK ts) i) := List.exists_mem_of_length_pos (by omega)
      exact List.length_pos_of_mem (mem_dd.mpr hx)
    have := max_of (p := seqP (cntT ts) (lookK ts) (i + 1)) (m := cnt (seqP (cntT ts) (lookK ts) (i + 1)) - 1) (num_mem (by rw [← hc]; omega)) fun y hy => by
      have := num_lt hy
      rw [← hc] at this
      omega
    rw [this]
    congr 2
    omega
theorem vwL_rows (ts : List T4) (l : List Nat) : vwL (l.map (rowR ts)) = l.map (rowD ts) := by
  induction l with
  | nil => rfl
  | cons s l ih => show vw (rowR ts s) :: vwL (l.map (rowR ts)) = _; rw [ih]; rfl
theorem whole_rows (ts : List T4) (l : List Nat) : wholeBL nf (l.map (rowR ts)) = true := by
  induction l with
  | nil => rfl
  | cons s l ih => show (wholeB nf (rowR ts s) && wholeBL nf (l.map (rowR ts))) = true; rw [ih]; rfl
theorem places_wf (ts : List T4) (ss : List Str) (b : Int) (hl : ts.length ≤ 60) (hn : cntT ts ≤ 90) : wf F_class_places [.d (mO ss b ts)] fun o rs =>
    (∃ i, cnt (seqP (cntT ts) (lookK ts) (i + 1)) ≤ cnt (seqP (cntT ts) (lookK ts) i) ∧ o = .v (.d (.lst (natsD (seqP (cntT ts) (lookK ts) (i + 1)))))) ∧ rs = [.d (mO ss b ts)] := by
  obtain ⟨_, _, es, rfl, rfl⟩ := wf_get (states_wf ts ss b (by omega) (by omega))
  have w0 : wholeB nf (.nl ((List.range (cntT ts)).map (rowR ts))) = true := whole_rows ts _
  have v0 : vw (.nl ((List.range (cntT ts)).map (rowR ts))) = .lst ((List.range (cntT ts)).map (rowD ts)) := congrArg D.lst (vwL_rows ts _)
  have fi : ∀ i, F_finer [.d (.lst ((List.range (cntT ts)).map (rowD ts))), .d (.lst (natsD (seqP (cntT ts) (lookK ts) i)))] = some (.v (.ol (natsD (seqP (cntT ts) (lookK ts) (i + 1)))), [.d (.lst ((List.range (cntT ts)).map (rowD ts))), .d (.lst (natsD (seqP (cntT ts) (lookK ts) i)))]) := fun i => by
    obtain ⟨_, _, ef, rfl, rfl⟩ := wf_get (finer_wf ts (seqP (cntT ts) (lookK ts) i) hl (seq_len i) (by omega))
    exact ef
  unfold F_class_places
  simp_arith only [-n_sSeq, b_class_places]
  rw [n_sSeq]
  simp_arith only [-n_sSeq, wf_of es]
  rw [n_sSeq]
  simp_arith only [-n_sSeq, w0, v0]
  refine wl_map (acc := []) (xs := List.range (cntT ts)) (rowD ts) (fun _ => D.int 0) (by simp [szl, sizeLine]; omega) (fun x hx => ?_) ?_
  · simp_arith only []
    try exact ⟨rfl, rfl⟩
  · have e0 : (List.range (cntT ts)).map (fun _ => D.int 0) = natsD (seqP (cntT ts) (lookK ts) 0) := by
      show _ = (List.replicate (cntT ts) 0).map (fun k : Nat => D.int (k : Int))
      rw [List.map_replicate]
      exact List.map_const' .. |>.trans (by rw [List.length_range]; rfl)
    rw [List.nil_append, e0]
    simp_arith only [-n_sSeq]
    rw [n_sSeq]
    simp_arith only [-n_sSeq, wf_of (fi 0)]
    rw [n_sSeq]
    refine ws_while (fun k s => ∃ (i : Nat) (x4 : Option R), k = cntT ts - cnt (seqP (cntT ts) (lookK ts) i) ∧ s = [some (.d (mO ss b ts)), some (.d (.lst ((List.range (cntT ts)).map (rowD ts)))), some (.d (.lst (natsD (seqP (cntT ts) (lookK ts) i)))), some (.ol (natsD (seqP (cntT ts) (lookK ts) (i + 1)))), x4]) (k := cntT ts - cnt (seqP (cntT ts) (lookK ts) 0)) (by omega) ⟨0, _, rfl, rfl⟩ ?_
    rintro k s ⟨i, x4, rfl, rfl⟩
    have m0 := seq_max ts i
    have m1 := seq_max ts (i + 1)
    simp_arith only [-n_sSeq, m0, m1]
    have c1 := cnt_le_len (seqP (cntT ts) (lookK ts) (i + 1))
    rw [seq_len] at c1
    refine wd_of (fun h => ?_) (fun h => ?_)
    · have h := of_decide_eq_true h
      simp_arith only [-n_sSeq]
      rw [vs_v, wb_t, n_sSeq]
      simp_arith only [-n_sSeq, wf_of (fi (i + 1))]
      exact ⟨_, by omega, i + 1, _, rfl, rfl⟩
    · have h := of_decide_eq_false h
      simp_arith only [-n_sSeq]
      rw [vs_v, wb_f]
      simp_arith only []
      exact ⟨i, by omega, rfl⟩
end K52
set_option Elab.async false
set_option linter.all false
set_option maxRecDepth 100000
set_option maxHeartbeats 4000000
namespace K52
open PySem hiding ret plain
open Fz hiding tb nx
open FzP
def clsP (p : List Nat) (u k : Nat) : List Nat := (List.range u).filter fun t => decide (p.getD t 0 = k)
def clsQ (p : List Nat) (u k : Nat) : R := .ol (natsD (clsP p u k))
theorem enum_cons {i : Nat} {d : D} {ds : List D} : enumD i (d :: ds) = .tup [.int (i : Nat), d] :: enumD (i + 1) ds := rfl
theorem natsD_cons {x : Nat} {l : List Nat} : natsD (x :: l) = .int (x : Int) :: natsD l := rfl
theorem natsD_snoc {x : Nat} {l : List Nat} : natsD (l ++ [x]) = natsD l ++ [.int (x : Int)] := by unfold natsD; rw [List.map_append]; rfl
theorem cls_succ {p : List Nat} {u k : Nat} : clsP p (u + 1) k = if p.getD u 0 = k then clsP p u k ++ [u] else clsP p u k := by
  unfold clsP
  rw [List.range_succ, List.filter_append]
  by_cases h : p.getD u 0 = k
  · rw [if_pos h, List.filter_cons_of_pos (by simpa using h)]; simp
  · rw [if_neg h, List.filter_cons_of_neg (by simpa using h)]; simp
theorem cls_len {p : List Nat} {u k : Nat} : (clsP p u k).length ≤ u := by
  unfold clsP
  exact Nat.le_trans (List.length_filter_le _ _) (by simp)
theorem cls_set {p : List Nat} {u c : Nat} (h : p.getD u 0 < c) : ((List.range c).map (clsQ p u)).set (p.getD u 0) (.ol (natsD (clsP p u (p.getD u 0)) ++ [.int (u : Int)])) = (List.range c).map (clsQ p (u + 1)) := by
  refine List.ext_getElem? fun s => ?_
  by_cases hs : s < c
  · rw [List.getElem?_set]
    by_cases e : p.getD u 0 = s
    · rw [if_pos e, if_pos (by rw [e]; simpa using hs), List.getElem?_map, List.getElem?_range hs]
      show _ = some (R.ol (natsD (clsP p (u + 1) s)))
      rw [cls_succ, if_pos e, natsD_snoc, e]
    · rw [if_neg e, List.getElem?_map, List.getElem?_map, List.getElem?_range hs]
      show some (R.ol (natsD (clsP p u s))) = some (R.ol (natsD (clsP p (u + 1) s)))
      rw [cls_succ, if_neg e]
  · rw [List.getElem?_eq_none (by simpa using hs), List.getElem?_eq_none (by simpa using hs)]
theorem seq_lt (ts : List T4) (i t : Nat) (h : t < cntT ts) : (seqP (cntT ts) (lookK ts) (i + 1)).getD t 0 < cnt (seqP (cntT ts) (lookK ts) (i + 1)) := by
  have hl : (seqP (cntT ts) (lookK ts) (i + 1)).length = cntT ts := seq_len _
  rw [cnt_next (ky := lookK ts) (p := seqP (cntT ts) (lookK ts) i) |> (fun z => show cnt (seqP (cntT ts) (lookK ts) (i + 1)) = _ from z)]
  refine num_lt ?_
  rw [List.getD_eq_getElem?_getD, List.getElem?_eq_getElem (by omega)]
  exact List.getElem_mem _
theorem classes_of_wf (ts : List T4) (ss : List Str) (b : Int) (hl : ts.length ≤ 60) (hn : cntT ts ≤ 90) : wf F_classes_of [.d (mO ss b ts)] fun o rs =>
    (∃ i, cnt (seqP (cntT ts) (lookK ts) (i + 1)) ≤ cnt (seqP (cntT ts) (lookK ts) i) ∧ o = .v (.nl ((progC (cntT ts) (seqP (cntT ts) (lookK ts) (i + 1))).map fun c => .ol (natsD c)))) ∧ rs = [.d (mO ss b ts)] := by
  obtain ⟨_, _, ep, ⟨i, hi, rfl⟩, rfl⟩ := wf_get (places_wf ts ss b hl hn)
  have mx := seq_max ts (i + 1)
  have c1 := cnt_le_len (seqP (cntT ts) (lookK ts) (i + 1))
  rw [seq_len] at c1
  have lt := seq_lt ts i
  have ln : (seqP (cntT ts) (lookK ts) (i + 1)).length = cntT ts := seq_len _
  generalize hp : seqP (cntT ts) (lookK ts) (i + 1) = p at *
  have hr : dR1 [.int ((cnt p : Int) - 1 + 1)] = some ((List.range (cnt p)).map fun i : Nat => D.int (0 + (i : Int))) := by
    rw [show ((cnt p : Int) - 1 + 1) = ((cnt p : Nat) : Int) by omega]
    exact dR1_n (by omega)
  unfold F_classes_of
  simp_arith only [-dR1_i, b_classes_of, wf_of ep, n_rLcR, mx, hr, kLcR_v, kLcUR_a]
  refine wlr_map (xs := List.range (cnt p)) (fun i : Nat => D.int (0 + (i : Int))) (fun _ => R.ol []) (by simp [szl, sizeLine]; omega) (fun i hi => ?_) ?_
  · simp_arith only []
  · have e0 : (List.range (cnt p)).map (fun _ => R.ol []) = (List.range (cnt p)).map (clsQ p 0) := rfl
    simp_arith only [kLcBR_a, e0]
    refine ws_for (fun es s => ∃ (u : Nat) (q : List Nat) (x3 x4 : Option R), p = p.take u ++ q ∧ u + q.length = cntT ts ∧ es = enumD u (natsD q) ∧ s = [some (.d (mO ss b ts)), some (.d (.lst (natsD p))), some (.nl ((List.range (cnt p)).map (clsQ p u))), x3, x4])
      ⟨0, p, none, none, by simp, by omega, rfl, rfl⟩ ?_ ?_
    · rintro d r s ⟨u, q, x3, x4, e, hq, hd, rfl⟩
      cases q with
      | nil => cases hd
      | cons k q =>
        rw [natsD_cons, enum_cons] at hd
        injection hd with hd1 hd2
        subst hd1 hd2
        rw [List.length_cons] at hq
        have tl : (p.take u).length = u := by rw [List.length_take]; omega
        have pk : p.getD u 0 = k := by
          rw [List.getD_eq_getElem?_getD, e, List.getElem?_append_right (by omega), tl]
          simp
        have hk := lt u (by omega)
        rw [pk] at hk
        have ix : L2.ixN (List.range (cnt p)).length (k : Int) = some k := by
          rw [ixn_n, List.length_range]
          exact if_pos hk
        have at2 : ((List.range (cnt p)).map (clsQ p u))[k]? = some (R.ol (natsD (clsP p u k))) := by
          rw [List.getElem?_map, List.getElem?_range hk]; rfl
        have z : ((clsP p u k).length < 16777216) = True := eq_true (by have := @cls_len p u k; omega)
        have rs2 : rSets ((List.range (cnt p)).map (clsQ p u)) k [] (.ol (natsD (clsP p u k) ++ [.int (u : Int)])) = (List.range (cnt p)).map (clsQ p (u + 1)) := by
          unfold rSets
          rw [at2]
          have := cls_set (p := p) (u := u) (c := cnt p) (by rw [pk]; exact hk)
          rw [pk] at this
          exact this
        have nl : (natsD (clsP p u k)).length = (clsP p u k).length := by simp [natsD]
        simp_arith only [ix, at2, nl, z, rs2]
        exact ⟨u + 1, q, _, _, by
          have : p.take (u + 1) = p.take u ++ [k] := by
            rw [List.take_add_one]
            congr 1
            rw [show p[u]? = some k by rw [e, List.getElem?_append_right (by omega), tl]; simp]
            rfl
          rw [this]; simpa using e, by omega, rfl, rfl⟩
    · rintro s ⟨u, q, x3, x4, e, hq, hd, rfl⟩
      cases q with
      | cons k q => cases hd
      | nil =>
        have hu : u = cntT ts := by simpa using hq
        subst hu
        simp_arith only []
        refine ⟨i, by rw [hp]; exact hi, ?_⟩
        rw [hp]
        unfold progC
        rw [List.map_map]
        rfl
end K52
set_option Elab.async false
set_option linter.all false
set_option maxRecDepth 100000
set_option maxHeartbeats 4000000
namespace K52
open PySem hiding ret plain
open Fz hiding tb nx
open FzP
theorem eqvs_S : ∀ a b : List Str, PyData.eqvAll (pys (a.map D.str)) (pys (b.map D.str)) = decide (a = b)
  | [], [] => rfl
  | [], y :: b => by simp [pys, PyData.eqvAll]
  | x :: a, [] => by simp [pys, PyData.eqvAll]
  | x :: a, y :: b => by
    have := eqvs_S a b
    simp only [List.map_cons, pys, PyData.eqvAll, this, py, PyData.eqv]
    rw [Bool.eq_iff_iff]
    simp
theorem eqvs_I : ∀ a b : List Int, PyData.eqvAll (pys (a.map D.int)) (pys (b.map D.int)) = decide (a = b)
  | [], [] => rfl
  | [], y :: b => by simp [pys, PyData.eqvAll]
  | x :: a, [] => by simp [pys, PyData.eqvAll]
  | x :: a, y :: b => by
    have := eqvs_I a b
    simp only [List.map_cons, pys, PyData.eqvAll, this, py, PyData.eqv]
    rw [Bool.eq_iff_iff]
    simp
theorem same_tS (a b : List Str) : same (.tup (a.map D.str)) (.tup (b.map D.str)) = decide (a = b) := by
  unfold same
  simp only [py, PyData.eqv]
  exact eqvs_S a b
theorem same_tI (a b : List Int) : same (.tup (a.map D.int)) (.tup (b.map D.int)) = decide (a = b) := by
  unfold same
  simp only [py, PyData.eqv]
  exact eqvs_I a b
theorem eq_tS (a b : List Str) : dEq (.tup (a.map D.str)) (.tup (b.map D.str)) = some (.bl (decide (a = b))) := by
  exact (e_eqC (pd_tS a |>.cok (by decide)) (pd_tS b |>.cok (by decide))).trans (congrArg (fun z => some (D.bl z)) (same_tS a b))
theorem eq_tI (a b : List Int) : dEq (.tup (a.map D.int)) (.tup (b.map D.int)) = some (.bl (decide (a = b))) := by
  exact (e_eqC (pd_tI a |>.cok (by decide)) (pd_tI b |>.cok (by decide))).trans (congrArg (fun z => some (D.bl z)) (same_tI a b))
abbrev P3 := List Str × Nat × List Int
def nearD (n : Nat) (N : Nat → Nat → Bool) : D := .lst ((List.range n).map fun s => .lst ((List.range n).map fun t => .bl (N s t)))
def oneB (N : Nat → Nat → Bool) (x y : P3) : Bool := decide (y.1 = x.1) && (decide (y.2.2 = x.2.2) && N x.2.1 y.2.1)
def folB (N : Nat → Nat → Bool) (a b : List P3) : Bool := a.all fun x => decide (¬ (b.filter (oneB N x)).length = 0)
theorem near_row {n s : Nat} {N : Nat → Nat → Bool} (hs : s < n) : dIx (nearD n N) (.int (s : Int)) = some (.lst ((List.range n).map fun t => .bl (N s t))) := by
  unfold nearD
  rw [e_ixn, List.getElem?_map, List.getElem?_range hs]; rfl
theorem near_at {n s t : Nat} {N : Nat → Nat → Bool} (ht : t < n) : dIx (.lst ((List.range n).map fun t => D.bl (N s t))) (.int (t : Int)) = some (.bl (N s t)) := by
  rw [e_ixn, List.getElem?_map, List.getElem?_range ht]; rfl
theorem follows_wf (n : Nat) (N : Nat → Nat → Bool) (a b : List P3) (ha : ∀ x ∈ a, x.2.1 < n) (hb : ∀ x ∈ b, x.2.1 < n) (hl : b.length ≤ 1000) :
    wf F__law_follows [.d (.lst (a.map encP)), .d (.lst (b.map encP)), .d (nearD n N)] fun o rs =>
      o = .v (.d (.bl (folB N a b))) ∧ rs = [.d (.lst (a.map encP)), .d (.lst (b.map encP)), .d (nearD n N)] := by
  unfold F__law_follows
  simp_arith only [b__law_follows]
  refine ws_for (fun es s => ∃ (pre u : List P3) (x3 x4 x5 : Option R), a = pre ++ u ∧ es = u.map encP ∧ folB N pre b = true ∧ s = [some (.d (.lst (a.map encP))), some (.d (.lst (b.map encP))), some (.d (nearD n N)), x3, x4, x5, none, none, none])
    ⟨[], a, none, none, none, rfl, rfl, rfl, rfl⟩ ?_ ?_
  · rintro d r s ⟨pre, u, x3, x4, x5, e, hd, hf, rfl⟩
    cases u with
    | nil => cases hd
    | cons x u =>
      rw [List.map_cons] at hd
      injection hd with hd1 hd2
      subst hd1 hd2
      have hx := ha x (by rw [e]; simp)
      simp_arith only [encP, tS, tI]
      refine wl_filter (xs := b) encP (oneB N x) (fun _ => D.int 1) (by simp [szl, sizeLine]; omega) (fun y hy => ?_) ?_
      · have hy := hb y hy
        simp_arith only [encP, tS, tI, eq_tS, eq_tI, near_row hx, near_at hy]
        have q1 : decide (y.1 = x.1) = false → oneB N x y = false := fun h => by unfold oneB; rw [h]; rfl
        have q2 : decide (y.2.2 = x.2.2) = false → oneB N x y = false := fun h => by unfold oneB; rw [h, Bool.and_comm]; rfl
        have q3 : decide (y.1 = x.1) = true → decide (y.2.2 = x.2.2) = true → oneB N x y = N x.2.1 y.2.1 := fun h h2 => by unfold oneB; rw [h, h2]; rfl
        refine wd_of (fun h => ?_) (fun h => ?_)
        · simp_arith only [eq_tI, near_row hx, near_at hy]
          refine wd_of (fun h2 => ?_) (fun h2 => ?_)
          · simp_arith only [near_row hx, near_at hy]
            rw [q3 h h2]
            cases hN : N x.2.1 y.2.1
            · simp_arith only [Bool.false_eq_true, false_implies, true_implies, implies_true]
            · simp_arith only [Bool.true_eq_false, false_implies, true_implies, implies_true]
          · rw [q2 h2]
            simp_arith only [Bool.false_eq_true, false_implies, true_implies, implies_true]
        · rw [q1 h]
          simp_arith only [Bool.false_eq_true, false_implies, true_implies, implies_true]
      · simp_arith only [e_eqL0]
        refine wd_of (fun h => ?_) (fun h => ?_)
        · simp_arith only []
          have h := of_decide_eq_true h
          unfold folB
          rw [e, List.all_append, List.all_cons, h]
          simp
        · simp_arith only []
          have h := of_decide_eq_false h
          exact ⟨pre ++ [x], u, _, _, _, by rw [e]; simp, rfl, by
            unfold folB at hf ⊢
            rw [List.all_append, hf, List.all_cons, decide_eq_true h]; rfl, rfl⟩
  · rintro s ⟨pre, u, x3, x4, x5, e, hd, hf, rfl⟩
    have e : a = pre := by
      cases u with
      | nil => simpa using e
      | cons t u => cases hd
    subst e
    simp_arith only [hf]
end K52
set_option Elab.async false
set_option linter.all false
set_option maxRecDepth 100000
set_option maxHeartbeats 4000000
namespace K52
open PySem hiding ret plain
open Fz hiding tb nx
open FzP
theorem count_le {α : Type} {P Q : α → Bool} : ∀ {l : List α}, (∀ x ∈ l, Q x = true → P x = true) → l.countP Q ≤ l.countP P
  | [], _ => Nat.le_refl _
  | x :: l, h => by
    have ih := count_le (P := P) (Q := Q) (l := l) fun y hy => h y (.tail _ hy)
    rw [List.countP_cons, List.countP_cons]
    have := h x (.head _)
    cases hq : Q x
    · simp; omega
    · rw [this hq]; simp; omega
theorem count_lt {α : Type} {P Q : α → Bool} : ∀ {l : List α} {x0 : α}, x0 ∈ l → P x0 = true → Q x0 = false → (∀ x ∈ l, Q x = true → P x = true) → l.countP Q < l.countP P
  | x :: l, x0, hm, hp, hq, h => by
    rw [List.countP_cons, List.countP_cons]
    rcases List.mem_cons.mp hm with rfl | hm
    · have := count_le (P := P) (Q := Q) (l := l) fun y hy => h y (.tail _ hy)
      rw [hp, hq]; simp; omega
    · have ih := count_lt hm hp hq fun y hy => h y (.tail _ hy)
      have := h x (.head _)
      cases hq : Q x
      · simp; omega
      · rw [this hq]; simp; omega
def prs (n : Nat) : List (Nat × Nat) := (List.range n).flatMap fun s => (List.range n).map fun t => (s, t)
theorem mem_prs {n s t : Nat} (hs : s < n) (ht : t < n) : (s, t) ∈ prs n := List.mem_flatMap.mpr ⟨s, List.mem_range.mpr hs, List.mem_map.mpr ⟨t, List.mem_range.mpr ht, rfl⟩⟩
theorem prs_len (n : Nat) : (prs n).length = n * n := by
  unfold prs
  rw [List.length_flatMap]
  simp only [List.length_map, List.length_range]
  rw [List.map_const', List.length_range]
  have : ∀ a k : Nat, (List.replicate a k).sum = a * k := fun a k => by
    induction a with
    | zero => simp
    | succ a ih => rw [List.replicate_succ, List.sum_cons, ih, Nat.succ_mul]; omega
  exact this n n
def tcnt (n : Nat) (N : Nat → Nat → Bool) : Nat := (prs n).countP fun q => N q.1 q.2
theorem tcnt_le (n : Nat) (N : Nat → Nat → Bool) : tcnt n N ≤ n * n := by
  rw [← prs_len]; exact List.countP_le_length
def updN (N : Nat → Nat → Bool) (s t : Nat) : Nat → Nat → Bool := fun a b => if a = s ∧ b = t then false else N a b
theorem upd_le {N : Nat → Nat → Bool} {s t a b : Nat} (h : updN N s t a b = true) : N a b = true := by
  unfold updN at h
  split at h
  · cases h
  · exact h
theorem tcnt_upd {n s t : Nat} {N : Nat → Nat → Bool} (hs : s < n) (ht : t < n) (h : N s t = true) : tcnt n (updN N s t) < tcnt n N :=
  count_lt (x0 := (s, t)) (mem_prs hs ht) h (by unfold updN; simp) fun x _ => upd_le
def nearRw (n : Nat) (N : Nat → Nat → Bool) (s : Nat) : R := .ol ((List.range n).map fun t => .bl (N s t))
def nearR (n : Nat) (N : Nat → Nat → Bool) : List R := (List.range n).map (nearRw n N)
theorem near_vw (n : Nat) (N : Nat → Nat → Bool) : vw (.nl (nearR n N)) = nearD n N := by
  have : ∀ l : List Nat, vwL (l.map (nearRw n N)) = l.map fun s => D.lst ((List.range n).map fun t => .bl (N s t)) := by
    intro l
    induction l with
    | nil => rfl
    | cons s l ih => show vw (nearRw n N s) :: vwL (l.map (nearRw n N)) = _; rw [ih]; rfl
  exact congrArg D.lst (this _)
theorem near_whole (n : Nat) (N : Nat → Nat → Bool) : wholeB nf (.nl (nearR n N)) = true := by
  have : ∀ l : List Nat, wholeBL nf (l.map (nearRw n N)) = true := by
    intro l
    induction l with
    | nil => rfl
    | cons s l ih => show (wholeB nf (nearRw n N s) && wholeBL nf (l.map (nearRw n N))) = true; rw [ih]; rfl
  exact this _
def holdB (ts : List T4) (N : Nat → Nat → Bool) (s t : Nat) : Bool := folB N (tldT ts s) (tldT ts t) && folB N (tldT ts t) (tldT ts s)
theorem folB_iff (ts : List T4) (N : Nat → Nat → Bool) (s t : Nat) : folB N (tldT ts s) (tldT ts t) = true ↔ Fol (tldT ts) (fun a b => N a b = true) s t := by
  unfold folB Fol
  rw [List.all_eq_true]
  refine forall_congr' fun x => forall_congr' fun hx => ?_
  rw [decide_eq_true_iff]
  constructor
  · intro h
    obtain ⟨y, hy⟩ := List.exists_mem_of_length_pos (Nat.pos_of_ne_zero h)
    obtain ⟨h1, h2⟩ := List.mem_filter.mp hy
    unfold oneB at h2
    simp only [Bool.and_eq_true, decide_eq_true_iff] at h2
    exact ⟨y, h1, h2.1, h2.2.1, h2.2.2⟩
  · rintro ⟨y, hy, e1, e2, e3⟩ h
    have : y ∈ (tldT ts t).filter (oneB N x) := List.mem_filter.mpr ⟨hy, by unfold oneB; simp [e1, e2, e3]⟩
    rw [List.length_eq_zero_iff.mp h] at this
    cases this
theorem hold_iff (ts : List T4) (N : Nat → Nat → Bool) (s t : Nat) : holdB ts N s t = true ↔ Fol (tldT ts) (fun a b => N a b = true) s t ∧ Fol (tldT ts) (fun a b => N a b = true) t s := by
  unfold holdB
  rw [Bool.and_eq_true, folB_iff, folB_iff]
def Holds (ts : List T4) (N : Nat → Nat → Bool) : Prop := ∀ p, nextP (cntT ts) (lookK ts) p = p → ∀ s t, s < cntT ts → t < cntT ts → Cl p s t → N s t = true
theorem holds_upd {ts : List T4} {N : Nat → Nat → Bool} {s t : Nat} (Y : Sys (cntT ts) (tldT ts) (lookK ts)) (h : Holds ts N) (hs : s < cntT ts) (ht : t < cntT ts) (hh : holdB ts N s t = false) : Holds ts (updN N s t) := by
  intro p st a b ha hb hc
  have h0 := h p st a b ha hb hc
  unfold updN
  split
  · rename_i e
    obtain ⟨rfl, rfl⟩ := e
    have := fol_cl Y st (N := fun a b => N a b = true) (fun a b ha hb hc => h p st a b ha hb hc) ha hb hc
    rw [← hold_iff, hh] at this
    cases this
  · exact h0
theorem near_set {n s t : Nat} {N : Nat → Nat → Bool} (hs : s < n) : (nearR n N).set s (.ol (((List.range n).map fun t => D.bl (N s t)).set t (.bl false))) = nearR n (updN N s t) := by
  unfold nearR
  refine List.ext_getElem? fun a => ?_
  by_cases ha : a < n
  · rw [List.getElem?_set, List.getElem?_map, List.getElem?_map, List.getElem?_range ha]
    by_cases e : s = a
    · subst e
      rw [if_pos rfl, if_pos (by simpa using hs)]
      show some (R.ol _) = some (nearRw n (updN N s t) s)
      unfold nearRw
      congr 2
      refine List.ext_getElem? fun b => ?_
      by_cases hb : b < n
      · rw [List.getElem?_set, List.getElem?_map, List.getElem?_map, List.getElem?_range hb]
        by_cases e2 : t = b
        · subst e2
          rw [if_pos rfl, if_pos (by simpa using hb)]
          simp [updN]
        · rw [if_neg e2]
          simp [updN, Ne.symm e2]
      · rw [List.getElem?_eq_none (by simpa using hb), List.getElem?_eq_none (by simpa using hb)]
    · rw [if_neg e]
      simp [nearRw, updN, Ne.symm e]
  · rw [List.getElem?_eq_none (by simpa using ha), List.getElem?_eq_none (by simpa using ha)]
end K52
set_option Elab.async false
set_option linter.all false
set_option maxRecDepth 100000
set_option maxHeartbeats 4000000
namespace K52
open PySem hiding ret plain
open Fz hiding tb nx
open FzP
theorem near_wf (ts : List T4) (hl : ts.length ≤ 60) (hn : cntT ts ≤ 14) (Y : Sys (cntT ts) (tldT ts) (lookK ts)) :
    wf F__law_near [.d (.lst (ts.map encT4))] fun o rs =>
      (∃ N, Holds ts N ∧ (∀ s t, s < cntT ts → t < cntT ts → N s t = true → holdB ts N s t = true) ∧ o = .v (.nl (nearR (cntT ts) N))) ∧ rs = [.d (.lst (ts.map encT4))] := by
  unfold F__law_near
  have hi : dInts ((ts.map fun t => (max (t.1 : Int) (t.2.2.1 : Int))).map D.int) = some (ts.map fun t => (max (t.1 : Int) (t.2.2.1 : Int))) := dInts_map _
  have hx : ts.map (fun t => D.int (max (t.1 : Int) (t.2.2.1 : Int))) = (ts.map fun t => (max (t.1 : Int) (t.2.2.1 : Int))).map D.int := by rw [List.map_map]; rfl
  have e1 : (1 : Int) + (topT ts : Int) = (cntT ts : Int) := by unfold cntT; omega
  have hr : dR1 [.int (cntT ts : Int)] = some ((List.range (cntT ts)).map fun i : Nat => D.int (0 + (i : Int))) := dR1_n (by omega)
  simp_arith only [-dR1_i, b__law_near]
  refine wl_map (xs := ts) encT4 (fun t => D.int (max (t.1 : Int) (t.2.2.1 : Int))) (by simp [szl, sizeLine]; omega) (fun t ht => ?_) ?_
  · simp_arith only [encT4, stepD]
  · simp_arith only [-dR1_i, hx, hi, great_max, e1, hr]
    refine wl_map (xs := List.range (cntT ts)) (fun i : Nat => D.int (0 + (i : Int))) (rowD ts) (by simp [szl, sizeLine]; omega) (fun i hi => ?_) ?_
    · have hi := List.mem_range.mp hi
      simp_arith only []
      refine wl_filter (xs := ts) encT4 (fun t => decide (t.1 = i)) (fun t => encP t.2) (by simp [szl, sizeLine]; omega) (fun t ht => ?_) ?_
      · simp_arith only [encT4, stepD]
        have eb : decide ((t.1 : Int) = 0 + (i : Int)) = decide (t.1 = i) := by rw [Bool.eq_iff_iff]; simp only [decide_eq_true_iff]; omega
        have hc : cutD [.int (t.1 : Int), tS t.2.1, .int (t.2.2.1 : Int), tI t.2.2.2] (some 1) none = [tS t.2.1, .int (t.2.2.1 : Int), tI t.2.2.2] := cutD_from (k := 1)
        rw [eb]
        refine wd_of (fun h => ?_) (fun h => ?_)
        · have h' := of_decide_eq_true h
          simp_arith only [h', hc, decide_true, Bool.true_eq_false, false_implies, true_implies, implies_true]
          rfl
        · have h' := of_decide_eq_false h
          simp_arith only [h', decide_false, Bool.false_eq_true, false_implies, true_implies, implies_true]
      · simp_arith only []
        show Oc.v (D.lst _) = Oc.v (D.lst ((tldT ts i).map encP))
        unfold tldT
        rw [List.map_map]
        rfl
    · simp_arith only [-dR1_i, hr, n_rLcR, kLcR_v, kLcUR_a]
      refine wlr_map (xs := List.range (cntT ts)) (fun i : Nat => D.int (0 + (i : Int))) (nearRw (cntT ts) fun _ _ => true) (by simp [szl, sizeLine]; omega) (fun i hi => ?_) ?_
      · have gm : gMul (.lst [.bl true]) (.int (cntT ts : Int)) = some ((List.range (cntT ts)).map fun _ => .bl true) := by
          have fl : ∀ k : Nat, (List.replicate k [D.bl true]).flatten = List.replicate k (D.bl true) := fun k => by
            induction k with
            | zero => rfl
            | succ k ih => rw [List.replicate_succ, List.flatten_cons, ih]; rfl
          have : gMul (.lst [.bl true]) (.int (cntT ts : Int)) = some (List.replicate ((cntT ts : Nat) : Int).toNat [D.bl true]).flatten := if_pos ⟨by omega, by simp [sizeLine]; omega⟩
          rw [this, fl, List.map_const', List.length_range]
          rfl
        simp_arith only [gm]
        rfl
      · have e0 : (List.range (cntT ts)).map (nearRw (cntT ts) fun _ _ => true) = nearR (cntT ts) fun _ _ => true := rfl
        simp_arith only [-n_sSeq, kLcBR_a, e0]
        rw [n_sSeq]
        simp_arith only [-n_sSeq]
        rw [n_sSeq]
        refine ws_while (fun k s => ∃ (N : Nat → Nat → Bool) (ag : Bool) (x2 x5 x6 x7 : Option R), Holds ts N ∧ k = tcnt (cntT ts) N + (if ag = true then 1 else 0) ∧ (ag = false → ∀ s t, s < cntT ts → t < cntT ts → N s t = true → holdB ts N s t = true) ∧
          (x2 = some (.ol ((List.range (cntT ts)).map (rowD ts))) ∨ x2 = some (.d (.lst ((List.range (cntT ts)).map (rowD ts))))) ∧ (x7 = none ∨ ∃ v, x7 = some (.d (.bl v))) ∧
          s = [some (.d (.lst (ts.map encT4))), some (.d (.int (cntT ts : Int))), x2, some (.nl (nearR (cntT ts) N)), some (.d (.bl ag)), x5, x6, x7, none, none]) (k := tcnt (cntT ts) (fun _ _ => true) + 1) (by
            have := tcnt_le (cntT ts) (fun _ _ => true)
            have : cntT ts * cntT ts ≤ 14 * 14 := Nat.mul_le_mul hn hn
            omega) ⟨fun _ _ => true, true, _, _, _, _, fun _ _ _ _ _ _ _ => rfl, rfl, (fun z => by cases z), .inl rfl, .inl rfl, rfl⟩ ?_
        rintro k s ⟨N, ag, x2, x5, x6, x7, hN, rfl, hc, h2, h7, rfl⟩
        cases ag with
        | false =>
          simp_arith only [-n_sSeq]
          rw [vs_v, wb_f]
          simp_arith only []
          exact ⟨N, hN, hc rfl, rfl⟩
        | true =>
          simp_arith only [-n_sSeq]
          try rw [vs_v, wb_t]
          try rw [n_sSeq]
          simp_arith only [-dR1_i, hr]
          refine ws_for (fun es s => ∃ (a : Nat) (M : Nat → Nat → Bool) (ag : Bool) (x2 x5 x6 x7 : Option R), es = (List.range' a (cntT ts - a)).map (fun i : Nat => D.int (0 + (i : Int))) ∧ a ≤ cntT ts ∧ Holds ts M ∧
            (ag = true → tcnt (cntT ts) M < tcnt (cntT ts) N) ∧ (ag = false → M = N ∧ ∀ s t, s < a → t < cntT ts → N s t = true → holdB ts N s t = true) ∧
            (x2 = some (.ol ((List.range (cntT ts)).map (rowD ts))) ∨ x2 = some (.d (.lst ((List.range (cntT ts)).map (rowD ts))))) ∧ (x7 = none ∨ ∃ v, x7 = some (.d (.bl v))) ∧
            s = [some (.d (.lst (ts.map encT4))), some (.d (.int (cntT ts : Int))), x2, some (.nl (nearR (cntT ts) M)), some (.d (.bl ag)), x5, x6, x7, none, none])
            ⟨0, N, false, _, _, _, _, by simp [List.range_eq_range'], by omega, hN, (fun z => by cases z), (fun _ => ⟨rfl, fun s t hs => by omega⟩), h2, h7, rfl⟩ ?_ ?_
          · rintro d r s ⟨a, M, ag, x2, x5, x6, x7, hd, ha, hM, c1, c2, h2, h7, rfl⟩
            have hlt : a < cntT ts := by
              by_cases h : a < cntT ts
              · exact h
              · have : cntT ts - a = 0 := by omega
                rw [this] at hd; simp at hd
            obtain ⟨q, hq⟩ : ∃ q, cntT ts - a = q + 1 := ⟨cntT ts - a - 1, by omega⟩
            rw [hq, List.range'_succ, List.map_cons] at hd
            injection hd with hd1 hd2
            subst hd1 hd2
            simp_arith only [-dR1_i, hr]
            refine ws_for (fun es s => ∃ (b : Nat) (M : Nat → Nat → Bool) (ag : Bool) (x2 x6 x7 : Option R), es = (List.range' b (cntT ts - b)).map (fun i : Nat => D.int (0 + (i : Int))) ∧ b ≤ cntT ts ∧ Holds ts M ∧
              (ag = true → tcnt (cntT ts) M < tcnt (cntT ts) N) ∧ (ag = false → M = N ∧ ∀ s t, (s < a ∨ s = a ∧ t < b) → t < cntT ts → N s t = true → holdB ts N s t = true) ∧
              (x2 = some (.ol ((List.range (cntT ts)).map (rowD ts))) ∨ x2 = some (.d (.lst ((List.range (cntT ts)).map (rowD ts))))) ∧ (x7 = none ∨ ∃ v, x7 = some (.d (.bl v))) ∧
              s = [some (.d (.lst (ts.map encT4))), some (.d (.int (cntT ts : Int))), x2, some (.nl (nearR (cntT ts) M)), some (.d (.bl ag)), some (.d (.int (0 + (a : Int)))), x6, x7, none, none])
              ⟨0, M, ag, _, _, _, by simp [List.range_eq_range'], by omega, hM, c1, (fun z => ⟨(c2 z).1, fun s t hs => (c2 z).2 s t (by omega)⟩), h2, h7, rfl⟩ ?_ ?_
            · clear h2 h7 c1 c2 hM
              rintro d r s ⟨b, M, ag, x2, x6, x7, hd, hb, hM, c1, c2, h2, h7, rfl⟩
              have hlb : b < cntT ts := by
                by_cases h : b < cntT ts
                · exact h
                · have : cntT ts - b = 0 := by omega
                  rw [this] at hd; simp at hd
              obtain ⟨q', hq'⟩ : ∃ q, cntT ts - b = q + 1 := ⟨cntT ts - b - 1, by omega⟩
              rw [hq', List.range'_succ, List.map_cons] at hd
              injection hd with hd1 hd2
              subst hd1 hd2
              have w0 := near_whole (cntT ts) M
              have v0 := near_vw (cntT ts) M
              have ixr : ∀ a, a < cntT ts → dIx (.lst ((List.range (cntT ts)).map (rowD ts))) (.int (0 + (a : Int))) = some (rowD ts a) := fun a ha => by
                rw [Int.zero_add, e_ixn, List.getElem?_map, List.getElem?_range ha]; rfl
              have tl : ∀ s, (tldT ts s).length ≤ 1000 := fun s => by have := tld_len ts s; omega
              obtain ⟨_, _, f1, rfl, rfl⟩ := wf_get (follows_wf (cntT ts) M (tldT ts a) (tldT ts b) tld_lt tld_lt (tl b))
              obtain ⟨_, _, f2, rfl, rfl⟩ := wf_get (follows_wf (cntT ts) M (tldT ts b) (tldT ts a) tld_lt tld_lt (tl a))
              have rD1 : ∀ s, rowD ts s = .lst ((tldT ts s).map encP) := fun _ => rfl
              have nr : dIx (nearD (cntT ts) M) (.int (0 + (a : Int))) = some (.lst ((List.range (cntT ts)).map fun t => .bl (M a t))) := by rw [Int.zero_add]; exact near_row hlt
              have na : dIx (.lst ((List.range (cntT ts)).map fun t => D.bl (M a t))) (.int (0 + (b : Int))) = some (.bl (M a b)) := by rw [Int.zero_add]; exact near_at hlb
              have w1 : wholeBL nf (nearR (cntT ts) M) = true := w0
              have v1 : D.lst (vwL (nearR (cntT ts) M)) = nearD (cntT ts) M := v0
              have hh : holdB ts M a b = (folB M (tldT ts a) (tldT ts b) && folB M (tldT ts b) (tldT ts a)) := rfl
              have hab : ∀ s t, (s < a ∨ s = a ∧ t < b + 1) → (s < a ∨ s = a ∧ t < b) ∨ (s = a ∧ t = b) := fun s t h => by omega
              obtain ⟨m, hm⟩ : ∃ m, M a b = m := ⟨_, rfl⟩
              rw [hm] at na
              generalize folB M (tldT ts a) (tldT ts b) = g1 at f1 hh
              generalize folB M (tldT ts b) (tldT ts a) = g2 at f2 hh
              have stay : (m = true → (g1 && g2) = true) → ag = false → M = N ∧ ∀ s t, (s < a ∨ s = a ∧ t < b + 1) → t < cntT ts → N s t = true → holdB ts N s t = true := fun k z => by
                obtain ⟨e, c⟩ := c2 z
                refine ⟨e, fun s t h ht hN => ?_⟩
                rcases hab s t h with h | ⟨rfl, rfl⟩
                · exact c s t h ht hN
                · rw [← e] at hN ⊢
                  rw [hh]
                  exact k (hm.symm.trans hN)
              have at1 : (nearR (cntT ts) M)[a]? = some (nearRw (cntT ts) M a) := by unfold nearR; rw [List.getElem?_map, List.getElem?_range hlt]; rfl
              have ixa : L2.ixN (nearR (cntT ts) M).length (0 + (a : Int)) = some a := by
                rw [Int.zero_add, ixn_n]; unfold nearR; rw [List.length_map, List.length_range]; exact if_pos hlt
              have ixb : L2.ixN (List.range (cntT ts)).length (0 + (b : Int)) = some b := by
                rw [Int.zero_add, ixn_n, List.length_range]; exact if_pos hlb
              have st := near_set (n := cntT ts) (N := M) (t := b) hlt
              have rs2 : rSets (nearR (cntT ts) M) a [] (.ol (((List.range (cntT ts)).map fun t => D.bl (M a t)).set b (.bl false))) = nearR (cntT ts) (updN M a b) := by
                unfold rSets
                rw [at1]
                exact st
              rcases h2 with rfl | rfl <;> rcases h7 with rfl | ⟨v7, rfl⟩ <;> cases g1 <;> cases g2 <;> cases m
              all_goals simp_arith only [-n_sSeq]
              all_goals rw [n_sSeq]
              all_goals simp_arith only [-n_sSeq, w1, v1, ixr a hlt, ixr b hlb, rD1, wf_of f1, wf_of f2, nr, na]
              all_goals first
                | exact ⟨b + 1, M, ag, _, _, _, by rw [show cntT ts - (b + 1) = q' by omega], by omega, hM, c1, stay (by decide), (by first | exact .inl rfl | exact .inr rfl), .inr ⟨_, rfl⟩, rfl⟩
                | skip
              all_goals rw [n_sSeq]
              all_goals simp_arith only [-n_sSeq, at1, ixa, ixb, nearRw, rs2]
              all_goals exact ⟨b + 1, updN M a b, true, _, _, _, by rw [show cntT ts - (b + 1) = q' by omega], by omega, holds_upd Y hM hlt hlb hh, (fun _ => by
                have h1 := tcnt_upd hlt hlb hm
                cases ag with
                | true => have := c1 rfl; omega
                | false => obtain ⟨rfl, _⟩ := c2 rfl; exact h1), (fun z => by cases z), (by first | exact .inl rfl | exact .inr rfl), .inr ⟨_, rfl⟩, rfl⟩
            · clear h2 h7 c1 c2 hM
              rintro s ⟨b, M, ag, x2, x6, x7, hd, hb, hM, c1, c2, h2, h7, rfl⟩
              have e : b = cntT ts := by
                by_cases h : b < cntT ts
                · obtain ⟨q, hq⟩ : ∃ q, cntT ts - b = q + 1 := ⟨cntT ts - b - 1, by omega⟩
                  rw [hq, List.range'_succ] at hd
                  cases hd
                · omega
              subst e
              refine ⟨a + 1, M, ag, _, _, _, _, by rw [show cntT ts - (a + 1) = q by omega], by omega, hM, c1, (fun z => ⟨(c2 z).1, fun s t hs ht => (c2 z).2 s t (by omega) ht⟩), h2, h7, rfl⟩
          · rintro s ⟨a, M, ag, x2, x5, x6, x7, hd, ha, hM, c1, c2, h2, h7, rfl⟩
            have e : a = cntT ts := by
              by_cases h : a < cntT ts
              · obtain ⟨q, hq⟩ : ∃ q, cntT ts - a = q + 1 := ⟨cntT ts - a - 1, by omega⟩
                rw [hq, List.range'_succ] at hd
                cases hd
              · omega
            subst e
            simp_arith only [-n_sSeq]
            cases ag with
            | true =>
              have := c1 rfl
              exact ⟨_, by simp; omega, M, true, _, _, _, _, hM, rfl, (fun z => by cases z), h2, h7, rfl⟩
            | false =>
              obtain ⟨rfl, hh⟩ := c2 rfl
              exact ⟨_, by simp, M, false, _, _, _, _, hM, rfl, (fun _ => hh), h2, h7, rfl⟩
end K52
set_option Elab.async false
set_option linter.all false
set_option maxRecDepth 100000
set_option maxHeartbeats 4000000
namespace K52
open PySem hiding ret plain
open Fz hiding tb nx
open FzP
theorem law_is_prog {ts : List T4} (Y : Sys (cntT ts) (tldT ts) (lookK ts)) {N : Nat → Nat → Bool} (hN : Holds ts N) (hc : ∀ s t, s < cntT ts → t < cntT ts → N s t = true → holdB ts N s t = true)
    {i : Nat} (hi : cnt (seqP (cntT ts) (lookK ts) (i + 1)) ≤ cnt (seqP (cntT ts) (lookK ts) i)) : lawC (cntT ts) N = progC (cntT ts) (seqP (cntT ts) (lookK ts) (i + 1)) := by
  have sty := stays Y i hi
  refine classes_eq (xs := looks (cntT ts) (lookK ts) (seqP (cntT ts) (lookK ts) i)) looks_len fun s t hs ht => ?_
  exact near_eq Y hi (N := fun a b => N a b = true) (fun a b ha hb h => (hold_iff ts N a b).mp (hc a b ha hb h)) (fun a b ha hb h => hN _ sty a b ha hb h) hs ht
def lawD (n : Nat) (N : Nat → Nat → Bool) (l : List Nat) : List D := (l.filter fun s => !((List.range s).any fun o => N s o)).map fun s => D.lst (natsD ((List.range n).filter fun t => N s t))
theorem lawD_len {n : Nat} {N : Nat → Nat → Bool} {l : List Nat} : (lawD n N l).length ≤ l.length := by
  unfold lawD
  rw [List.length_map]
  exact List.length_filter_le _ _
theorem lawcl_wf (ts : List T4) (hl : ts.length ≤ 60) (hn : cntT ts ≤ 14) (Y : Sys (cntT ts) (tldT ts) (lookK ts)) :
    wf F__law_classes [.d (.lst (ts.map encT4))] fun o rs =>
      (∃ N, Holds ts N ∧ (∀ s t, s < cntT ts → t < cntT ts → N s t = true → holdB ts N s t = true) ∧ o = .v (.ol (lawD (cntT ts) N (List.range (cntT ts))))) ∧ rs = [.d (.lst (ts.map encT4))] := by
  obtain ⟨_, _, en, ⟨N, hN, hc, rfl⟩, rfl⟩ := wf_get (near_wf ts hl hn Y)
  have w0 := near_whole (cntT ts) N
  have v0 := near_vw (cntT ts) N
  have w1 : wholeBL nf (nearR (cntT ts) N) = true := w0
  have v1 : D.lst (vwL (nearR (cntT ts) N)) = nearD (cntT ts) N := v0
  have hr : ∀ k : Nat, k < 1000 → dR1 [.int (k : Int)] = some ((List.range k).map fun i : Nat => D.int (0 + (i : Int))) := fun k h => dR1_n (by omega)
  have ln : dLen [nearD (cntT ts) N] = some (.int (cntT ts : Int)) := by
    unfold nearD
    show some (D.int _) = _
    rw [List.length_map, List.length_range]
  unfold F__law_classes
  simp_arith only [-dR1_i, b__law_classes, wf_of en, w0, v0, w1, v1, ln, hr (cntT ts) (by omega)]
  refine ws_for (fun es s => ∃ (a : Nat) (x3 : Option R), es = (List.range' a (cntT ts - a)).map (fun i : Nat => D.int (0 + (i : Int))) ∧ a ≤ cntT ts ∧
    s = [some (.d (.lst (ts.map encT4))), some (.d (nearD (cntT ts) N)), some (.ol (lawD (cntT ts) N (List.range a))), x3, none])
    ⟨0, none, by simp [List.range_eq_range'], by omega, rfl⟩ ?_ ?_
  · rintro d r s ⟨a, x3, hd, ha, rfl⟩
    have hlt : a < cntT ts := by
      by_cases h : a < cntT ts
      · exact h
      · have : cntT ts - a = 0 := by omega
        rw [this] at hd; simp at hd
    obtain ⟨q, hq⟩ : ∃ q, cntT ts - a = q + 1 := ⟨cntT ts - a - 1, by omega⟩
    rw [hq, List.range'_succ, List.map_cons] at hd
    injection hd with hd1 hd2
    subst hd1 hd2
    have hra : dR1 [.int (0 + (a : Int))] = some ((List.range a).map fun i : Nat => D.int (0 + (i : Int))) := by rw [Int.zero_add]; exact hr a (by omega)
    have nr : dIx (nearD (cntT ts) N) (.int (0 + (a : Int))) = some (.lst ((List.range (cntT ts)).map fun t => .bl (N a t))) := by rw [Int.zero_add]; exact near_row hlt
    have na : ∀ b, b < cntT ts → dIx (.lst ((List.range (cntT ts)).map fun t => D.bl (N a t))) (.int (0 + (b : Int))) = some (.bl (N a b)) := fun b hb => by rw [Int.zero_add]; exact near_at hb
    have sn : lawD (cntT ts) N (List.range (a + 1)) = if (((List.range a).filter fun o => N a o).length = 0) then lawD (cntT ts) N (List.range a) ++ [.lst (natsD ((List.range (cntT ts)).filter fun t => N a t))] else lawD (cntT ts) N (List.range a) := by
      unfold lawD
      rw [List.range_succ, List.filter_append, List.map_append]
      by_cases h : ((List.range a).filter fun o => N a o).length = 0
      · rw [if_pos h, List.filter_cons_of_pos (by
          rw [Bool.not_eq_true', List.any_eq_false]
          intro o ho hh
          have : o ∈ (List.range a).filter fun o => N a o := List.mem_filter.mpr ⟨ho, hh⟩
          rw [List.length_eq_zero_iff.mp h] at this
          cases this)]
        rfl
      · rw [if_neg h, List.filter_cons_of_neg (by
          rw [Bool.not_eq_true', List.any_eq_false]
          intro z
          obtain ⟨o, ho⟩ := List.exists_mem_of_length_pos (Nat.pos_of_ne_zero h)
          exact z o (List.mem_filter.mp ho).1 (List.mem_filter.mp ho).2)]
        simp
    simp_arith only [-dR1_i, w0, v0, w1, v1, hra]
    refine wl_filter (xs := List.range a) (fun i : Nat => D.int (0 + (i : Int))) (fun o => N a o) (fun _ => D.int 1) (by simp [szl, sizeLine]; omega) (fun o ho => ?_) ?_
    · have ho := List.mem_range.mp ho
      simp_arith only [nr, na o (by omega)]
      cases N a o
      · simp_arith only [Bool.false_eq_true, false_implies, true_implies, implies_true]
        try exact ⟨rfl, rfl⟩
      · simp_arith only [Bool.true_eq_false, false_implies, true_implies, implies_true]
        try exact ⟨rfl, rfl⟩
    · simp_arith only [e_eqL0]
      have wn : ∀ x, wholeB nf (.d x) = true := fun _ => rfl
      refine wd_of (fun h => ?_) (fun h => ?_)
      · have h := of_decide_eq_true h
        rw [if_pos h] at sn
        simp_arith only [-dR1_i, ln, hr (cntT ts) (by omega)]
        refine wl_filter (xs := List.range (cntT ts)) (fun i : Nat => D.int (0 + (i : Int))) (fun t => N a t) (fun t => D.int (t : Int)) (by simp [szl, sizeLine]; omega) (fun o ho => ?_) ?_
        · have ho := List.mem_range.mp ho
          simp_arith only [nr, na o ho]
          cases N a o
          · simp_arith only [Bool.false_eq_true, false_implies, true_implies, implies_true]
            try exact ⟨rfl, rfl⟩
          · simp_arith only [Bool.true_eq_false, false_implies, true_implies, implies_true]
            try (rw [Int.zero_add])
            try exact ⟨rfl, rfl⟩
        · have z : ((lawD (cntT ts) N (List.range a)).length < 16777216) = True := eq_true (by
            have := @lawD_len (cntT ts) N (List.range a)
            rw [List.length_range] at this; omega)
          have en2 : ((List.range (cntT ts)).filter fun t => N a t).map (fun t : Nat => D.int (t : Int)) = natsD ((List.range (cntT ts)).filter fun t => N a t) := rfl
          simp_arith only [en2, z]
          exact ⟨a + 1, _, by rw [show cntT ts - (a + 1) = q by omega], by omega, by rw [sn]⟩
      · have h := of_decide_eq_false h
        rw [if_neg h] at sn
        simp_arith only []
        exact ⟨a + 1, _, by rw [show cntT ts - (a + 1) = q by omega], by omega, by rw [sn]⟩
  · rintro s ⟨a, x3, hd, ha, rfl⟩
    have e : a = cntT ts := by
      by_cases h : a < cntT ts
      · obtain ⟨q, hq⟩ : ∃ q, cntT ts - a = q + 1 := ⟨cntT ts - a - 1, by omega⟩
        rw [hq, List.range'_succ] at hd
        cases hd
      · omega
    subst e
    simp_arith only []
    exact ⟨N, hN, hc, rfl⟩
end K52
set_option Elab.async false
set_option linter.all false
set_option maxRecDepth 100000
set_option maxHeartbeats 4000000
namespace K52
open PySem hiding ret plain
open Fz hiding tb nx
open FzP
theorem imm_stp {d : D} (h : Stp d) : imm d = true := by
  obtain ⟨a, m, c, b, rfl, _⟩ := h.ex
  show (true && (imm (tS m) && (true && (imm (tI b) && true)))) = true
  rw [imm_tS, imm_tI]; rfl
theorem init_wf (S : List D) (ss : List Str) (b : Int) : wf F_Machine___init__ [.oi 0 [], .d (.tup (ss.map D.str)), .d (.int b), .d (.lst S)] fun o rs => o = .v (.d .non) ∧ rs = [.ni 0 [.d (.tup (ss.map D.str)), .d (.int b), .ol S], .d (.tup (ss.map D.str)), .d (.int b), .d (.lst S)] := by
  have x0 : ix_names 0 = some 0 := rfl
  have x1 : ix_bells 0 = some 1 := rfl
  have x2 : ix_steps 0 = some 2 := rfl
  have f0 : fldR ix_names (.d (.tup (ss.map D.str))) (some (some (.oi 0 []))) = some (.ni 0 [.d (.tup (ss.map D.str))]) := fldR_oi (fs := []) x0
  have f1 : fldR ix_bells (.d (.int b)) (some (some (.ni 0 [.d (.tup (ss.map D.str))]))) = some (.ni 0 [.d (.tup (ss.map D.str)), .d (.int b)]) := fldR_ni (cs := [.d (.tup (ss.map D.str))]) x1
  have f2 : fldR ix_steps (.ol S) (some (some (.ni 0 [.d (.tup (ss.map D.str)), .d (.int b)]))) = some (.ni 0 [.d (.tup (ss.map D.str)), .d (.int b), .ol S]) := fldR_ni (cs := [.d (.tup (ss.map D.str)), .d (.int b)]) x2
  unfold F_Machine___init__
  simp_arith only [b_Machine___init__, n_sFldR, kFldR_v, kFsR_a, f0, f1, f2]
end K52
set_option Elab.async false
set_option linter.all false
set_option maxRecDepth 100000
set_option maxHeartbeats 4000000
namespace K52
open PySem hiding ret plain
open Fz hiding tb nx
open FzP
end K52
set_option Elab.async false
set_option linter.all false
set_option maxRecDepth 100000
set_option maxHeartbeats 4000000
namespace K52
open PySem hiding ret plain
open Fz hiding tb nx
open FzP
def qT (q : List Nat) (t : T4) : T4 := (q.getD t.1 0, t.2.1, q.getD t.2.2.1 0, t.2.2.2)
def puts (ds : List D) : List D := ds.foldl dputK []
theorem mem_dput {ks : List D} {d x : D} (hk : ∀ e ∈ ks, ordD e = true) (hd : ordD d = true) : x ∈ dputK ks d ↔ x ∈ ks ∨ x = d := by
  unfold dputK
  rw [kpos_ord hk hd]
  by_cases m : nkD d ∈ ks.map nkD
  · rw [if_pos m]
    constructor
    · exact .inl
    · rintro (h | rfl)
      · exact h
      · obtain ⟨e, he, z⟩ := List.mem_map.mp m
        rw [nkD_inj (hk e he) hd z] at he
        exact he
  · rw [if_neg m]
    simp
theorem nodup_dput {ks : List D} {d : D} (hk : ∀ e ∈ ks, ordD e = true) (hd : ordD d = true) (n : ks.Nodup) : (dputK ks d).Nodup := by
  unfold dputK
  rw [kpos_ord hk hd]
  by_cases m : nkD d ∈ ks.map nkD
  · rw [if_pos m]; exact n
  · rw [if_neg m]
    exact List.nodup_append.mpr ⟨n, by simp, fun a ha b hb e => m (by
      rw [List.mem_singleton] at hb
      subst hb; subst e
      exact List.mem_map.mpr ⟨_, ha, rfl⟩)⟩
theorem puts_all : ∀ (ds ks : List D), (∀ e ∈ ks, ordD e = true) → (∀ d ∈ ds, ordD d = true) → ks.Nodup → (∀ x, x ∈ ds.foldl dputK ks ↔ x ∈ ks ∨ x ∈ ds) ∧ (ds.foldl dputK ks).Nodup ∧ (ds.foldl dputK ks).length ≤ ks.length + ds.length
  | [], ks, hk, _, n => ⟨by simp, n, by simp⟩
  | d :: ds, ks, hk, hd, n => by
    have o := hd d (.head _)
    have hk2 : ∀ e ∈ dputK ks d, ordD e = true := fun e he => ((mem_dput hk o).mp he).elim (hk e) fun z => z ▸ o
    obtain ⟨a, b, c⟩ := puts_all ds (dputK ks d) hk2 (fun e he => hd e (.tail _ he)) (nodup_dput hk o n)
    refine ⟨fun x => ?_, b, ?_⟩
    · rw [List.foldl_cons, a x, mem_dput hk o, List.mem_cons, or_assoc]
    · have := dput_len1 (ks := ks) (d := d)
      rw [List.foldl_cons, List.length_cons]
      omega
theorem puts_fresh : ∀ (ds ks : List D), (∀ e ∈ ks, ordD e = true) → (∀ d ∈ ds, ordD d = true) → (ks ++ ds).Nodup → ds.foldl dputK ks = ks ++ ds
  | [], ks, _, _, _ => by simp
  | d :: ds, ks, hk, hd, n => by
    have o := hd d (.head _)
    have e : dputK ks d = ks ++ [d] := by
      unfold dputK
      rw [kpos_ord hk o, if_neg fun m => by
        obtain ⟨e, he, z⟩ := List.mem_map.mp m
        have z := nkD_inj (hk e he) o z
        exact (List.nodup_append.mp n).2.2 e he d (.head _) z]
    rw [List.foldl_cons, e, puts_fresh ds (ks ++ [d]) (fun e he => by
      rcases List.mem_append.mp he with he | he
      · exact hk e he
      · rw [List.mem_singleton.mp he]; exact o) (fun e he => hd e (.tail _ he)) (by simpa using n)]
    simp
theorem ord_encT4 (t : T4) : ordD (encT4 t) = true := ord_step _ _ _ _
theorem ord_encs {ts : List T4} : ∀ d ∈ ts.map encT4, ordD d = true := fun d hd => by obtain ⟨t, _, rfl⟩ := List.mem_map.mp hd; exact ord_encT4 t
theorem encT4_inj {x y : T4} (h : encT4 x = encT4 y) : x = y := by
  obtain ⟨a, m, c, r⟩ := x
  obtain ⟨a', m', c', r'⟩ := y
  unfold encT4 stepD tS tI at h
  injection h with h
  injection h with h0 h
  injection h with h1 h
  injection h with h2 h
  injection h with h3 _
  injection h0 with h0
  injection h1 with h1
  injection h2 with h2
  injection h3 with h3
  have e1 : m = m' := map_inj2 (fun a b z => by injection z) h1
  have e3 : r = r' := map_inj2 (fun a b z => by injection z) h3
  have e0 : a = a' := by exact_mod_cast h0
  have e2 : c = c' := by exact_mod_cast h2
  rw [e0, e1, e2, e3]
def dueS (ts : List T4) (q : List Nat) : List D := sortD (puts ((ts.map (qT q)).map encT4))
theorem mem_due {ts : List T4} {q : List Nat} {d : D} : d ∈ dueS ts q ↔ d ∈ (ts.map (qT q)).map encT4 := by
  unfold dueS puts
  rw [(sortD_perm _).mem_iff, (puts_all _ [] (fun e he => nomatch he) ord_encs List.nodup_nil).1]
  simp
theorem due_nodup {ts : List T4} {q : List Nat} : (dueS ts q).Nodup := by
  unfold dueS puts
  exact (sortD_perm _).nodup_iff.mpr (puts_all _ [] (fun e he => nomatch he) ord_encs List.nodup_nil).2.1
theorem due_len {ts : List T4} {q : List Nat} : (dueS ts q).length ≤ ts.length := by
  unfold dueS puts
  rw [(sortD_perm _).length_eq]
  have := (puts_all ((ts.map (qT q)).map encT4) [] (fun e he => nomatch he) ord_encs List.nodup_nil).2.2
  simpa using this
theorem due_same {ts ts2 : List T4} {q : List Nat} (h : ts2.map encT4 = dueS ts q) {q2 : List Nat} (hq : ∀ t ∈ ts2, qT q2 t = t) : dueS ts2 q2 = dueS ts q := by
  have e : (ts2.map (qT q2)).map encT4 = dueS ts q := by
    rw [← h]
    congr 1
    conv => rhs; rw [← List.map_id ts2]
    exact List.map_congr_left fun t ht => hq t ht
  unfold dueS
  rw [e]
  have o : ∀ d ∈ dueS ts q, ordD d = true := fun d hd => ord_encs d (mem_due.mp hd)
  have e2 : puts (dueS ts q) = dueS ts q := puts_fresh (dueS ts q) [] (fun e he => nomatch he) o (by simpa using due_nodup)
  rw [e2]
  exact (sortD_of (.refl _) o (sortD_sorted _)).symm
theorem due_steps (ts : List T4) {q : List Nat} {k : Nat} (hq : ∀ s, s < cntT ts → q.getD s 0 < k) : ∃ ts2 : List T4, dueS ts q = ts2.map encT4 ∧ T12 k ts2 ∧ (∀ y, y ∈ ts2 ↔ ∃ t ∈ ts, qT q t = y) ∧ ts2.length ≤ ts.length := by
  obtain ⟨ts2, e, h⟩ := steps_of (k := k) (S := dueS ts q) fun d hd => by
    obtain ⟨t', ht', rfl⟩ := List.mem_map.mp (mem_due.mp hd)
    obtain ⟨t, ht, rfl⟩ := List.mem_map.mp ht'
    have c := cnt_mem t ht
    have h1 := hq _ c.1
    have h2 := hq _ c.2
    exact ⟨_, _, _, _, rfl, ⟨by omega, by show ((q.getD t.1 0 : Nat) : Int) < k; omega⟩, ⟨by omega, by show ((q.getD t.2.2.1 0 : Nat) : Int) < k; omega⟩⟩
  refine ⟨ts2, e, h, fun y => ?_, by have := @due_len ts q; rw [e, List.length_map] at this; exact this⟩
  have m : y ∈ ts2 ↔ encT4 y ∈ ts2.map encT4 := ⟨fun z => List.mem_map.mpr ⟨y, z, rfl⟩, fun z => by
    obtain ⟨x, hx, ex⟩ := List.mem_map.mp z
    rw [← encT4_inj ex]; exact hx⟩
  rw [m, ← e, mem_due]
  constructor
  · intro z
    obtain ⟨x, hx, ex⟩ := List.mem_map.mp z
    obtain ⟨t, ht, rfl⟩ := List.mem_map.mp hx
    exact ⟨t, ht, encT4_inj ex⟩
  · rintro ⟨t, ht, rfl⟩
    exact List.mem_map.mpr ⟨_, List.mem_map.mpr ⟨t, ht, rfl⟩, rfl⟩
theorem mem_tld {ts : List T4} {s : Nat} {y : List Str × Nat × List Int} : y ∈ tldT ts s ↔ ((s, y) : T4) ∈ ts := by
  unfold tldT
  rw [List.mem_map]
  constructor
  · rintro ⟨t, ht, rfl⟩
    obtain ⟨h1, h2⟩ := List.mem_filter.mp ht
    rw [← of_decide_eq_true h2]
    exact h1
  · intro h
    exact ⟨(s, y), List.mem_filter.mpr ⟨h, by simp⟩, rfl⟩
theorem fold_id {ts ts2 : List T4} {q : List Nat} {i j : Nat} (eq : seqP (cntT ts) (lookK ts) (i + 1) = q) (hi : cnt (seqP (cntT ts) (lookK ts) (i + 1)) ≤ cnt (seqP (cntT ts) (lookK ts) i))
    (hs : ∀ y, y ∈ ts2 ↔ ∃ t ∈ ts, qT q t = y) (hj : cnt (seqP (cntT ts2) (lookK ts2) (j + 1)) ≤ cnt (seqP (cntT ts2) (lookK ts2) j)) : seqP (cntT ts2) (lookK ts2) (j + 1) = List.range (cntT ts2) := by
  have Y : Sys (cntT ts) (tldT ts) (lookK ts) := sys_of ts _ fun t h => (cnt_mem t h).2
  have Y2 : Sys (cntT ts2) (tldT ts2) (lookK ts2) := sys_of ts2 _ fun t h => (cnt_mem t h).2
  have st := stays Y i hi
  rw [eq] at st
  have lt : ∀ s, s < cntT ts → q.getD s 0 < cnt q := fun s h => by rw [← eq]; exact seq_lt ts i s h
  have lq : q.length = cntT ts := by rw [← eq]; exact seq_len _
  have pos : 0 < cntT ts := by unfold cntT; omega
  have le : cntT ts2 ≤ cnt q := cnt_le (Nat.lt_of_le_of_lt (Nat.zero_le _) (lt 0 pos)) fun y hy => by
    obtain ⟨t, ht, rfl⟩ := (hs y).mp hy
    have c := cnt_mem t ht
    exact ⟨lt _ c.1, lt _ c.2⟩
  refine quot_id Y Y2 eq (fun k hk => ?_) (fun s hs' y => ?_) hj
  · have hk : k < cnt q := by omega
    have m : k ∈ q := by
      have : cnt q = (dd (looks (cntT ts) (lookK ts) (seqP (cntT ts) (lookK ts) i))).length := by rw [← eq]; exact cnt_next
      rw [← eq]
      exact num_mem (by rw [← this]; exact hk)
    obtain ⟨s, h, e⟩ := List.getElem_of_mem m
    exact ⟨s, by omega, by rw [List.getD_eq_getElem?_getD, List.getElem?_eq_getElem h]; exact e⟩
  · rw [mem_tld, hs]
    constructor
    · rintro ⟨t, ht, e⟩
      have c := cnt_mem t ht
      unfold qT at e
      injection e with e1 e2
      have ce : Cl (nextP (cntT ts) (lookK ts) q) s t.1 := by rw [st]; exact e1.symm
      have lk := (Y.key q s t.1 hs' c.1).mp ((next_cl hs' c.1).mp ce)
      exact (lk y).mpr (List.mem_map.mpr ⟨t.2, mem_tld.mpr ht, e2⟩)
    · intro h
      obtain ⟨x, hx, rfl⟩ := List.mem_map.mp h
      exact ⟨(s, x), mem_tld.mp hx, rfl⟩
end K52
set_option Elab.async false
set_option linter.all false
set_option maxRecDepth 100000
set_option maxHeartbeats 4000000
namespace K52
open PySem hiding ret plain
open Fz hiding tb nx
open FzP
theorem puts_snoc (l : List D) (d : D) : puts (l ++ [d]) = dputK (puts l) d := by unfold puts; rw [List.foldl_append]; rfl
theorem puts_mem {l : List D} (h : ∀ d ∈ l, ordD d = true) {x : D} : x ∈ puts l ↔ x ∈ l := by
  unfold puts
  rw [(puts_all l [] (fun e he => nomatch he) h List.nodup_nil).1]
  simp
theorem puts_len {l : List D} (h : ∀ d ∈ l, ordD d = true) : (puts l).length ≤ l.length := by
  have := (puts_all l [] (fun e he => nomatch he) h List.nodup_nil).2.2
  unfold puts
  simpa using this
theorem cls_at {p : List Nat} {s : Nat} (h : s < p.length) : dIx (.lst (natsD p)) (.int (s : Int)) = some (.int ((p.getD s 0 : Nat) : Int)) := by
  unfold natsD
  rw [e_ixn, List.getElem?_map, List.getElem?_eq_getElem h, List.getD_eq_getElem?_getD, List.getElem?_eq_getElem h]
  rfl
theorem enc_qT (q : List Nat) (t : T4) : encT4 (qT q t) = stepD ((q.getD t.1 0 : Nat) : Int) t.2.1 ((q.getD t.2.2.1 0 : Nat) : Int) t.2.2.2 := rfl
def kS (q : List Nat) (l : List T4) : List D := puts ((l.map (qT q)).map encT4)
theorem kS_snoc (q : List Nat) (l : List T4) (t : T4) : dputK (kS q l) (encT4 (qT q t)) = kS q (l ++ [t]) := by
  unfold kS
  rw [← puts_snoc]
  congr 1
  simp
theorem kS_len (q : List Nat) (l : List T4) : (kS q l).length ≤ l.length := by
  have pl := puts_len (l := (l.map (qT q)).map encT4) ord_encs
  rwa [List.length_map, List.length_map] at pl
theorem due_kS (ts : List T4) (q : List Nat) : sortD (kS q ts) = dueS ts q := rfl
theorem stb_puts {ts : List T4} {q : List Nat} {k : Nat} (h : ∀ t ∈ ts, q.getD t.1 0 < k ∧ q.getD t.2.2.1 0 < k) : ∀ e ∈ kS q ts, StB (k : Int) e := fun e he => by
  unfold kS at he
  obtain ⟨t', ht', rfl⟩ := List.mem_map.mp ((puts_mem ord_encs).mp he)
  obtain ⟨t, ht, rfl⟩ := List.mem_map.mp ht'
  have := h t ht
  exact ⟨_, _, _, _, rfl, ⟨by omega, by show ((q.getD t.1 0 : Nat) : Int) < k; omega⟩, ⟨by omega, by show ((q.getD t.2.2.1 0 : Nat) : Int) < k; omega⟩⟩
theorem imm_due (ts : List T4) (q : List Nat) : imms (dueS ts q) = true := imms_of fun d hd => by
  obtain ⟨t, _, rfl⟩ := List.mem_map.mp (mem_due.mp hd)
  show (true && (imm (tS t.2.1) && (true && (imm (tI t.2.2.2) && true)))) = true
  rw [imm_tS, imm_tI]; rfl
theorem folded_wf (ts : List T4) (ss : List Str) (b : Int) (hl : ts.length ≤ 60) (hn : cntT ts ≤ 90) : wf F_folded [.d (mO ss b ts)] fun o rs =>
    (∃ i, cnt (seqP (cntT ts) (lookK ts) (i + 1)) ≤ cnt (seqP (cntT ts) (lookK ts) i) ∧ o = .v (.ni 0 [.d (.tup (ss.map D.str)), .d (.int b), .ol (dueS ts (seqP (cntT ts) (lookK ts) (i + 1)))])) ∧ rs = [.d (mO ss b ts)] := by
  obtain ⟨_, _, ep, ⟨i, hi, rfl⟩, rfl⟩ := wf_get (places_wf ts ss b hl hn)
  have lt := seq_lt ts i
  have ln : (seqP (cntT ts) (lookK ts) (i + 1)).length = cntT ts := seq_len _
  have c1 := cnt_le_len (seqP (cntT ts) (lookK ts) (i + 1))
  rw [seq_len] at c1
  generalize hp : seqP (cntT ts) (lookK ts) (i + 1) = p at *
  have x0 : ix_names 0 = some 0 := rfl
  have x1 : ix_bells 0 = some 1 := rfl
  have x2 : ix_steps 0 = some 2 := rfl
  have mo : mO ss b ts = .obj 0 [.tup (ss.map D.str), .int b, .lst (ts.map encT4)] := rfl
  unfold F_folded
  simp_arith only [-n_sSeq, b_folded]
  rw [n_sSeq]
  simp_arith only [-n_sSeq, wf_of ep]
  rw [n_sSeq]
  simp_arith only [-n_sSeq]
  rw [n_sSeq]
  rw [mo]
  simp_arith only [-n_sSeq, x2]
  refine ws_for (fun es s => ∃ (pre u : List T4) (vs : List D) (x3 x4 x5 x6 : Option R), ts = pre ++ u ∧ es = u.map encT4 ∧ vs.length = (kS p pre).length ∧
      s = [some (.d (.obj 0 [.tup (ss.map D.str), .int b, .lst (ts.map encT4)])), some (.d (.lst (natsD p))), some (.od (kS p pre) vs), x3, x4, x5, x6])
      ⟨[], ts, [], none, none, none, none, rfl, rfl, rfl, rfl⟩ ?_ ?_
  · rintro d r s ⟨pre, u, vs, x3, x4, x5, x6, e, hd, hv, rfl⟩
    cases u with
    | nil => cases hd
    | cons t u =>
      rw [List.map_cons] at hd
      injection hd with hd1 hd2
      subst hd1 hd2
      have hm := cnt_mem (ts := ts) t (by rw [e]; simp)
      have i1 := cls_at (p := p) (s := t.1) (by omega)
      have i2 := cls_at (p := p) (s := t.2.2.1) (by omega)
      have hk : ∀ t' ∈ pre, p.getD t'.1 0 < 90 ∧ p.getD t'.2.2.1 0 < 90 := fun t' ht' => by
        have := cnt_mem (ts := ts) t' (by rw [e]; exact List.mem_append_left _ ht')
        have h1 := lt _ this.1
        have h2 := lt _ this.2
        omega
      have hs : StB 90 (stepD ((p.getD t.1 0 : Nat) : Int) t.2.1 ((p.getD t.2.2.1 0 : Nat) : Int) t.2.2.2) := by
        have h1 := lt _ hm.1
        have h2 := lt _ hm.2
        exact ⟨_, _, _, _, rfl, ⟨by omega, by omega⟩, ⟨by omega, by omega⟩⟩
      have pl := kS_len p pre
      have pl2 := congrArg List.length e
      rw [List.length_append] at pl2
      have st := set_steps (vs := vs) (stb_puts (k := 90) hk) hs (by omega) (.bl true)
      rw [← enc_qT, kS_snoc] at st
      have dv := dputV_len (d := encT4 (qT p t)) (x := D.bl true) hv
      rw [kS_snoc] at dv
      generalize dputV (kS p pre) vs (encT4 (qT p t)) (.bl true) = vs2 at st dv
      rw [enc_qT] at st
      unfold stepD tS tI at st
      simp_arith only [encT4, stepD, tS, tI, i1, i2, st]
      exact ⟨pre ++ [t], u, vs2, _, _, _, _, by rw [e]; simp, rfl, dv, rfl⟩
  · rintro s ⟨pre, u, vs, x3, x4, x5, x6, e, hd, hv, rfl⟩
    have e : ts = pre := by
      cases u with
      | nil => simpa using e
      | cons t u => cases hd
    subst e
    have hk : ∀ t' ∈ ts, p.getD t'.1 0 < 90 ∧ p.getD t'.2.2.1 0 < 90 := fun t' ht' => by
      have := cnt_mem (ts := ts) t' ht'
      have h1 := lt _ this.1
      have h2 := lt _ this.2
      omega
    have sd := sort_dict (vs := vs) (stb_puts (k := 90) hk) (by omega)
    have im1 : imms (ss.map D.str) = true := imm_tS ss
    have im2 := imm_due ts p
    rw [due_kS] at sd
    obtain ⟨_, _, ei, rfl, rfl⟩ := wf_get (init_wf (dueS ts p) ss b)
    simp_arith only [x0, x1, x2, sd, n_rFullN, n_rMakeR, kMr_v, kMrU_a, mkR_v, rfn_v, wf_of ei, immR_ni, immRs_cons, immRs_nil, immR_d, immR_ol, im1, im2]
    exact ⟨i, by rw [hp]; exact hi, by rw [hp]⟩
end K52
set_option Elab.async false
set_option linter.all false
set_option maxRecDepth 100000
set_option maxHeartbeats 4000000
namespace K52
open PySem hiding ret plain
open Fz hiding tb nx
open FzP
def addL (L : List Nat) (s : Nat) : List Nat := if s ∈ L then L else L ++ [s]
def valL (q L : List Nat) : List D := L.map fun s => D.int ((q.getD s 0 : Nat) : Int)
theorem mem_addL {L : List Nat} {s x : Nat} : x ∈ addL L s ↔ x ∈ L ∨ x = s := by
  unfold addL
  split
  · rename_i h
    exact ⟨.inl, fun z => z.elim id fun e => e ▸ h⟩
  · simp
theorem addL_len {L : List Nat} {s : Nat} : (addL L s).length ≤ L.length + 1 := by
  unfold addL
  split
  · omega
  · simp
theorem ord_nats {L : List Nat} : ∀ d ∈ natsD L, ordD d = true := fun d hd => by obtain ⟨k, _, rfl⟩ := List.mem_map.mp hd; rfl
theorem nk_int (s : Nat) : nkD (.int (s : Int)) = .num (s : Int) := rfl
theorem nk_nats (L : List Nat) : (natsD L).map nkD = L.map fun s : Nat => NestedKey.num (s : Int) := by unfold natsD; rw [List.map_map]; rfl
theorem kpos_nats {L : List Nat} {s : Nat} : kpos (natsD L) (.int (s : Int)) = if s ∈ L then some (L.idxOf s) else none := by
  have inj : ∀ y ∈ L, NestedKey.num ((y : Nat) : Int) = NestedKey.num (s : Int) → y = s := fun y _ e => by injection e with e; exact_mod_cast e
  have hm : NestedKey.num (s : Int) ∈ (L.map fun s : Nat => NestedKey.num (s : Int)) ↔ s ∈ L := by
    rw [List.mem_map]
    exact ⟨fun ⟨y, hy, e⟩ => by rw [← inj y hy e]; exact hy, fun h => ⟨s, h, rfl⟩⟩
  rw [kpos_ord ord_nats rfl, nk_nats, nk_int]
  by_cases h : s ∈ L
  · rw [if_pos h, if_pos (hm.mpr h), idx_map (g := fun s : Nat => NestedKey.num (s : Int)) inj]
  · rw [if_neg h, if_neg fun z => h (hm.mp z)]
theorem dk_nats {L : List Nat} {s : Nat} : dkOk (natsD L) (.int (s : Int)) = true := by
  have : (natsD L).all keyK = true := List.all_eq_true.mpr fun d hd => by obtain ⟨k, _, rfl⟩ := List.mem_map.mp hd; rfl
  unfold dkOk
  rw [this]
  rfl
theorem val_at {q L : List Nat} {s : Nat} (h : s ∈ L) : (valL q L)[L.idxOf s]? = some (.int ((q.getD s 0 : Nat) : Int)) := by
  unfold valL
  have h1 := List.idxOf_lt_length_iff.mpr h
  rw [List.getElem?_map, List.getElem?_eq_getElem h1, List.getElem_idxOf h1]
  rfl
theorem set_nats {q L : List Nat} {s k : Nat} (hk : q.getD s 0 = k) (hl : L.length < 10000) : opSet (.od (natsD L) (valL q L)) (.int (s : Int)) (.d (.int (k : Int))) = some (.od (natsD (addL L s)) (valL q (addL L s))) := by
  have e : opSet (.od (natsD L) (valL q L)) (.int (s : Int)) (.d (.int (k : Int))) = some (.od (dputK (natsD L) (.int (s : Int))) (dputV (natsD L) (valL q L) (.int (s : Int)) (.int (k : Int)))) := by
    show (if dkOk _ _ = true ∧ _ < sizeLine then _ else _) = _
    exact if_pos ⟨dk_nats, by unfold valL sizeLine; rw [List.length_map]; omega⟩
  rw [e]
  unfold dputK dputV addL
  rw [kpos_nats]
  by_cases h : s ∈ L
  · rw [if_pos h, if_pos h]
    have v := val_at (q := q) h
    have : (valL q L).set (L.idxOf s) (.int (k : Int)) = valL q L := by
      rw [← hk]
      refine List.ext_getElem? fun j => ?_
      rw [List.getElem?_set]
      split
      · rename_i e
        subst e
        have h1 := List.idxOf_lt_length_iff.mpr h
        rw [if_pos (by unfold valL; rw [List.length_map]; exact h1), v]
      · rfl
    show some (R.od (natsD L) ((valL q L).set _ _)) = _
    rw [this]
  · rw [if_neg h, if_neg h]
    unfold natsD valL
    rw [List.map_append, List.map_append, ← hk]
    rfl
theorem ix_nats {q L : List Nat} {s : Nat} (h : s ∈ L) : dIxD (.dct (natsD L) (valL q L)) (.int (s : Int)) = some (.int ((q.getD s 0 : Nat) : Int)) := by
  show (if dkOk _ _ = true then _ else _) = _
  rw [if_pos dk_nats, kpos_nats, if_pos h]
  exact val_at h
theorem between_wf (ts : List T4) {i : Nat} (hl : ts.length ≤ 60) (hn : cntT ts ≤ 14) (hi : cnt (seqP (cntT ts) (lookK ts) (i + 1)) ≤ cnt (seqP (cntT ts) (lookK ts) i)) :
    wf F__law_between [.d (.lst (ts.map encT4))] fun o rs => o = .v (.ol (dueS ts (seqP (cntT ts) (lookK ts) (i + 1)))) ∧ rs = [.d (.lst (ts.map encT4))] := by
  have Y : Sys (cntT ts) (tldT ts) (lookK ts) := sys_of ts _ fun t h => (cnt_mem t h).2
  obtain ⟨_, _, el, ⟨N, hN, hc, rfl⟩, rfl⟩ := wf_get (lawcl_wf ts hl hn Y)
  have hP : lawD (cntT ts) N (List.range (cntT ts)) = (progC (cntT ts) (seqP (cntT ts) (lookK ts) (i + 1))).map fun c => D.lst (natsD c) := by
    rw [← law_is_prog Y hN hc hi]
    unfold lawC
    rw [List.map_map]
    rfl
  rw [hP] at el
  have lt := seq_lt ts i
  have ln : (seqP (cntT ts) (lookK ts) (i + 1)).length = cntT ts := seq_len _
  have c1 := cnt_le_len (seqP (cntT ts) (lookK ts) (i + 1))
  rw [seq_len] at c1
  generalize seqP (cntT ts) (lookK ts) (i + 1) = q at *
  have row : ∀ k c, (progC (cntT ts) q)[k]? = some c → c.length ≤ 14 ∧ ∀ x, x ∈ c ↔ x < cntT ts ∧ q.getD x 0 = k := fun k c h => by
    unfold progC at h
    rw [List.getElem?_map] at h
    by_cases hk : k < cnt q
    · rw [List.getElem?_range hk] at h
      injection h with h
      subst h
      refine ⟨Nat.le_trans (List.length_filter_le _ _) (by rw [List.length_range]; omega), fun x => ?_⟩
      rw [List.mem_filter, List.mem_range, decide_eq_true_iff]
    · rw [List.getElem?_eq_none (by rw [List.length_range]; omega)] at h
      cases h
  have lP : (progC (cntT ts) q).length = cnt q := by unfold progC; rw [List.length_map, List.length_range]
  generalize progC (cntT ts) q = P at *
  unfold F__law_between
  simp_arith only [-n_sSeq, b__law_between]
  rw [n_sSeq]
  simp_arith only [-n_sSeq]
  rw [n_sSeq]
  simp_arith only [-n_sSeq, wf_of el]
  refine ws_for (fun es s => ∃ (k : Nat) (u : List (List Nat)) (L : List Nat) (x2 x3 x4 : Option R), P = P.take k ++ u ∧ k + u.length = P.length ∧ es = enumD k (u.map fun c => D.lst (natsD c)) ∧ (∀ x, x ∈ L ↔ x < cntT ts ∧ q.getD x 0 < k) ∧ L.length ≤ 14 * k ∧ (k = 0 ∨ ∃ d2 d3, x2 = some (.d d2) ∧ x3 = some (.d d3)) ∧
      s = [some (.d (.lst (ts.map encT4))), some (.od (natsD L) (valL q L)), x2, x3, x4, none, none, none, none])
      ⟨0, P, [], none, none, none, by simp, by simp, rfl, by simp, by simp, .inl rfl, rfl⟩ ?_ ?_
  · rintro d r s ⟨k, u, L, x2, x3, x4, e, hu, hd, hL, ll, sm, rfl⟩
    cases u with
    | nil => cases hd
    | cons c u =>
      rw [List.map_cons, enum_cons] at hd
      injection hd with hd1 hd2
      subst hd1 hd2
      rw [List.length_cons] at hu
      have tl : (P.take k).length = k := by rw [List.length_take]; omega
      have pk : P[k]? = some c := by
        rw [e, List.getElem?_append_right (by omega), tl]
        simp
      obtain ⟨lc, rc⟩ := row k c pk
      simp_arith only []
      refine ws_for (fun es s => ∃ (v w : List Nat) (M : List Nat) (x4 : Option R), c = v ++ w ∧ es = natsD w ∧ (∀ x, x ∈ M ↔ x ∈ L ∨ x ∈ v) ∧ M.length ≤ L.length + v.length ∧
        s = [some (.d (.lst (ts.map encT4))), some (.od (natsD M) (valL q M)), some (.d (.int (k : Int))), some (.d (.lst (natsD c))), x4, none, none, none, none])
        ⟨[], c, L, x4, rfl, rfl, by simp, by simp, rfl⟩ ?_ ?_
      · rintro d r s ⟨v, w, M, x4, e2, hd, hM, lm, rfl⟩
        cases w with
        | nil => cases hd
        | cons x w =>
          rw [natsD_cons] at hd
          injection hd with hd1 hd2
          subst hd1 hd2
          have lv := congrArg List.length e2
          rw [List.length_append, List.length_cons] at lv
          have hx := (rc x).mp (by rw [e2]; simp)
          have st := set_nats (q := q) (L := M) hx.2 (by omega)
          simp_arith only [st]
          refine ⟨v ++ [x], w, addL M x, _, by rw [e2]; simp, rfl, fun y => ?_, ?_, rfl⟩
          · rw [mem_addL, hM, List.mem_append, List.mem_singleton, or_assoc]
          · have := @addL_len M x
            rw [List.length_append, List.length_singleton]
            omega
      · rintro s ⟨v, w, M, x4, e2, hd, hM, lm, rfl⟩
        have e2 : c = v := by
          cases w with
          | nil => simpa using e2
          | cons t u => cases hd
        subst e2
        refine ⟨k + 1, u, M, _, _, _, ?_, by omega, rfl, fun x => ?_, by omega, .inr ⟨_, _, rfl, rfl⟩, rfl⟩
        · have : P.take (k + 1) = P.take k ++ [c] := by
            rw [List.take_add_one, pk]
            rfl
          rw [this]; simpa using e
        · rw [hM, hL, rc]
          constructor
          · rintro (⟨h1, h2⟩ | ⟨h1, h2⟩)
            · exact ⟨h1, by omega⟩
            · exact ⟨h1, by omega⟩
          · rintro ⟨h1, h2⟩
            by_cases h3 : q.getD x 0 < k
            · exact .inl ⟨h1, h3⟩
            · exact .inr ⟨h1, by omega⟩
  · rintro s ⟨k, u, L, x2, x3, x4, e, hu, hd, hL, ll, sm, rfl⟩
    have hk : k = cnt q := by
      cases u with
      | nil => simpa [lP] using hu
      | cons c u => cases hd
    subst hk
    obtain ⟨d2, d3, rfl, rfl⟩ := sm.resolve_left (by have := lt 0 (by unfold cntT; omega); omega)
    have hL : ∀ x, x < cntT ts → x ∈ L := fun x hx => (hL x).mpr ⟨hx, lt x hx⟩
    simp_arith only [-n_sSeq]
    rw [n_sSeq]
    simp_arith only [-n_sSeq]
    rw [n_sSeq]
    simp_arith only [-n_sSeq]
    refine ws_for (fun es s => ∃ (pre u : List T4) (vs : List D) (x4 x6 x7 x8 : Option R), ts = pre ++ u ∧ es = u.map encT4 ∧ vs.length = (kS q pre).length ∧
      s = [some (.d (.lst (ts.map encT4))), some (.od (natsD L) (valL q L)), some (.d d2), some (.d d3), x4, some (.od (kS q pre) vs), x6, x7, x8])
      ⟨[], ts, [], _, _, _, _, rfl, rfl, rfl, rfl⟩ ?_ ?_
    · rintro d r s ⟨pre, u, vs, x4, x6, x7, x8, e, hd, hv, rfl⟩
      cases u with
      | nil => cases hd
      | cons t u =>
        rw [List.map_cons] at hd
        injection hd with hd1 hd2
        subst hd1 hd2
        have hm := cnt_mem (ts := ts) t (by rw [e]; simp)
        have i1 := ix_nats (q := q) (hL t.1 hm.1)
        have i2 := ix_nats (q := q) (hL t.2.2.1 hm.2)
        have hk : ∀ t' ∈ pre, q.getD t'.1 0 < 90 ∧ q.getD t'.2.2.1 0 < 90 := fun t' ht' => by
          have := cnt_mem (ts := ts) t' (by rw [e]; exact List.mem_append_left _ ht')
          have h1 := lt _ this.1
          have h2 := lt _ this.2
          omega
        have hs : StB 90 (stepD ((q.getD t.1 0 : Nat) : Int) t.2.1 ((q.getD t.2.2.1 0 : Nat) : Int) t.2.2.2) := by
          have h1 := lt _ hm.1
          have h2 := lt _ hm.2
          exact ⟨_, _, _, _, rfl, ⟨by omega, by omega⟩, ⟨by omega, by omega⟩⟩
        have pl := kS_len q pre
        have pl2 := congrArg List.length e
        rw [List.length_append] at pl2
        have st := set_steps (vs := vs) (stb_puts (k := 90) hk) hs (by omega) (.bl true)
        rw [← enc_qT, kS_snoc] at st
        have dv := dputV_len (d := encT4 (qT q t)) (x := D.bl true) hv
        rw [kS_snoc] at dv
        generalize dputV (kS q pre) vs (encT4 (qT q t)) (.bl true) = vs2 at st dv
        rw [enc_qT] at st
        unfold stepD tS tI at st
        simp_arith only [encT4, stepD, tS, tI, i1, i2, st]
        exact ⟨pre ++ [t], u, vs2, _, _, _, _, by rw [e]; simp, rfl, dv, rfl⟩
    · rintro s ⟨pre, u, vs, x4, x6, x7, x8, e, hd, hv, rfl⟩
      have e : ts = pre := by
        cases u with
        | nil => simpa using e
        | cons t u => cases hd
      subst e
      have hk : ∀ t' ∈ ts, q.getD t'.1 0 < 90 ∧ q.getD t'.2.2.1 0 < 90 := fun t' ht' => by
        have := cnt_mem (ts := ts) t' ht'
        have h1 := lt _ this.1
        have h2 := lt _ this.2
        omega
      have sd := sort_dict (vs := vs) (stb_puts (k := 90) hk) (by omega)
      rw [due_kS] at sd
      simp_arith only [sd]
end K52
set_option Elab.async false
set_option linter.all false
set_option maxRecDepth 100000
set_option maxHeartbeats 4000000
namespace K52
open PySem hiding ret plain
open Fz hiding tb nx
open FzP
theorem ck_steps {ts : List T4} (h : T12 90 ts) : cok (.lst (ts.map encT4)) = true := (pd_lst (n := 2) fun d hd => (stp_enc h (by decide) d hd).pd).cok (by decide)
theorem so_wf (ts : List T4) (ss : List Str) (b : Int) (h : T12 90 ts) : wf F__law_so [.d (mO ss b ts), .d (.tup (ss.map D.str)), .d (.int b), .d (.lst (ts.map encT4))] fun o rs => o = .v (.d (.bl true)) ∧ rs = [.d (mO ss b ts), .d (.tup (ss.map D.str)), .d (.int b), .d (.lst (ts.map encT4))] := by
  have x0 : ix_names 0 = some 0 := rfl
  have x1 : ix_bells 0 = some 1 := rfl
  have x2 : ix_steps 0 = some 2 := rfl
  have c1 : cok (.tup (ss.map D.str)) = true := (pd_tS ss).cok (by decide)
  have c2 := ck_steps h
  have q1 : dEq (.tup (ss.map D.str)) (.tup (ss.map D.str)) = some (.bl true) := by rw [e_eqC c1 c1, same_self c1]
  have q2 : dEq (.lst (ts.map encT4)) (.lst (ts.map encT4)) = some (.bl true) := by rw [e_eqC c2 c2, same_self c2]
  have i1 : dIsc is_Machine (.obj 0 [.tup (ss.map D.str), .int b, .lst (ts.map encT4)]) = some (.bl true) := rfl
  unfold F__law_so mO
  simp_arith only [b__law_so, x0, x1, x2, q1, q2, i1]
theorem right_wf (sc : List Int) : wf F__law_right_by [.d (.lst (sc.map D.int))] fun o rs => o = .v (.d (.bl true)) ∧ rs = [.d (.lst (sc.map D.int))] := by
  obtain ⟨_, _, em, ⟨cs, lcs, hcs, rfl⟩, rfl⟩ := wf_get (mixed_wf sc 20 (by decide) (.int 20) (dR1_n (by decide)))
  unfold F__law_right_by
  simp_arith only [-n_sSeq, b__law_right_by]
  rw [n_sSeq]
  simp_arith only [-n_sSeq, wf_of em]
  rw [n_sSeq]
  have i19 : dIx (.lst (cs.map D.int)) (.int 19) = some (.int (cs.getD 19 0)) := by
    rw [show (19 : Int) = ((19 : Nat) : Int) by rfl, e_ixn]
    simp [lcs]
  have i18 : dIx (.lst (cs.map D.int)) (.int 18) = some (.int (cs.getD 18 0)) := by
    rw [show (18 : Int) = ((18 : Nat) : Int) by rfl, e_ixn]
    simp [lcs]
  obtain ⟨_, _, ek, ⟨ws, hws, rfl⟩, rfl⟩ := wf_get (marks_wf (cs.getD 19 0))
  obtain ⟨m, hm, e18⟩ := mod_nat (cs.getD 18 0) 3 (by decide)
  have e18 : cs.getD 18 0 % 3 = (m : Int) := e18
  have c1 : cutD (ws.map D.str) none (some (m : Int)) = (ws.take m).map D.str := cutD_to.trans List.map_take.symm
  have gs : gSorted [.lst ((ws.take m).map D.str)] = some ((ssort (ws.take m)).map D.str) := by
    show ((dStrs _).bind fun ss => if ss.length < 64 then some ((ssort ss).map D.str) else none) = _
    rw [dStrs_map]
    exact if_pos (by rw [List.length_take]; omega)
  simp_arith only [-n_sSeq, i19, i18, wf_of ek, e18, c1, gs]
  rw [n_sSeq]
  have ls : (ssort (ws.take m)).length ≤ 3 := by
    have : (ssort (ws.take m)).length = (ws.take m).length := by unfold ssort; simp
    rw [this, List.length_take]; omega
  generalize ssort (ws.take m) = ks at ls
  have c2 : cutD (cs.map D.int) none (some 18) = (cs.take 18).map D.int := (cutD_to (k := 18)).trans List.map_take.symm
  obtain ⟨_, _, eM, ⟨ss, b, S, hS, lS, hb, rfl⟩, rfl⟩ := wf_get (machine_wf (cs.take 18) ks (by rw [List.length_take]; omega) (fun y hy => hcs y (List.mem_of_mem_take hy)) ls)
  obtain ⟨ts, rfl, ht⟩ := steps_of (k := 12) hS
  have lt : ts.length ≤ 40 := by simpa using lS
  have cn : cntT ts ≤ 12 := cnt_le (by decide) ht
  have Y : Sys (cntT ts) (tldT ts) (lookK ts) := sys_of ts _ fun t h => (cnt_mem t h).2
  obtain ⟨_, _, ei, rfl, rfl⟩ := wf_get (init_wf (ts.map encT4) ss (b : Int))
  have Y : Sys (cntT ts) (tldT ts) (lookK ts) := sys_of ts _ fun t h => (cnt_mem t h).2
  have im1 : imms (ss.map D.str) = true := imm_tS ss
  have im2 : imms (ts.map encT4) = true := imms_of fun d hd => imm_stp ((hS d hd).stp (by decide))
  obtain ⟨_, _, ef, ⟨i, hi, rfl⟩, rfl⟩ := wf_get (folded_wf ts ss (b : Int) (by omega) (by omega))
  obtain ⟨_, _, ew, rfl, rfl⟩ := wf_get (between_wf ts (by omega) (by omega) hi)
  obtain ⟨ts2, e2, h2, hs2, l2⟩ := due_steps ts (q := seqP (cntT ts) (lookK ts) (i + 1)) (k := 12) fun s hs => by
    have h1 := seq_lt ts i s hs
    have h2 := cnt_le_len (seqP (cntT ts) (lookK ts) (i + 1))
    rw [seq_len] at h2
    omega
  have cn2 : cntT ts2 ≤ 12 := cnt_le (by decide) h2
  obtain ⟨_, _, ef2, ⟨j, hj, rfl⟩, rfl⟩ := wf_get (folded_wf ts2 ss (b : Int) (by omega) (by omega))
  have id2 := fold_id rfl hi hs2 hj
  have ds2 : dueS ts2 (seqP (cntT ts2) (lookK ts2) (j + 1)) = ts2.map encT4 := by
    rw [id2, due_same e2.symm (q2 := List.range (cntT ts2)) fun t ht => by
      have := cnt_mem t ht
      unfold qT
      rw [range_getD this.1, range_getD this.2], e2]
  obtain ⟨_, _, ec, ⟨j2, hj2, rfl⟩, rfl⟩ := wf_get (classes_of_wf ts2 ss (b : Int) (by omega) (by omega))
  rw [fold_id rfl hi hs2 hj2, progC_range, List.map_map] at ec
  obtain ⟨_, _, en, rfl, rfl⟩ := wf_get (count_wf ts2 ss (b : Int) (by omega))
  obtain ⟨_, _, so1, rfl, rfl⟩ := wf_get (so_wf ts ss (b : Int) fun t ht' => ⟨by have := ht t ht'; omega, by have := ht t ht'; omega⟩)
  obtain ⟨_, _, so2, rfl, rfl⟩ := wf_get (so_wf ts2 ss (b : Int) fun t ht' => ⟨by have := h2 t ht'; omega, by have := h2 t ht'; omega⟩)
  rw [e2] at ef ew
  rw [ds2] at ef2
  obtain ⟨_, _, ei, rfl, rfl⟩ := wf_get (init_wf (ts.map encT4) ss (b : Int))
  have mo : mO ss (b : Int) ts = .obj 0 [.tup (ss.map D.str), .int (b : Int), .lst (ts.map encT4)] := rfl
  have mo2 : mO ss (b : Int) ts2 = .obj 0 [.tup (ss.map D.str), .int (b : Int), .lst (ts2.map encT4)] := rfl
  have x2 : ix_steps 0 = some 2 := rfl
  have t1 : tab_count 0 = some F_Machine_count := rfl
  simp_arith only [-n_sSeq, c2, wf_of eM]
  rw [n_sSeq]
  simp_arith only [-n_sSeq, n_rFullN, n_rMakeR, kMr_v, kMrU_a, mkR_v, rfn_v, wf_of ei, immR_ni, immRs_cons, immRs_nil, immR_d, immR_ol, im1, im2]
  rw [n_sSeq]
  simp_arith only [-n_sSeq, wf_of ew]
  rw [n_sSeq]
  rw [mo] at ef so1
  rw [mo2] at ef2 ec en so2
  have w1 : wholeB nf (.ni 0 [.d (.tup (ss.map D.str)), .d (.int (b : Int)), .ol (ts.map encT4)]) = true := rfl
  have v1 : vw (.ni 0 [.d (.tup (ss.map D.str)), .d (.int (b : Int)), .ol (ts.map encT4)]) = .obj 0 [.tup (ss.map D.str), .int (b : Int), .lst (ts.map encT4)] := rfl
  have w2 : wholeB nf (.ni 0 [.d (.tup (ss.map D.str)), .d (.int (b : Int)), .ol (ts2.map encT4)]) = true := rfl
  have v2 : vw (.ni 0 [.d (.tup (ss.map D.str)), .d (.int (b : Int)), .ol (ts2.map encT4)]) = .obj 0 [.tup (ss.map D.str), .int (b : Int), .lst (ts2.map encT4)] := rfl
  simp_arith only [-n_sSeq, w1, v1, wf_of ef]
  rw [n_sSeq]
  have n0 : (3 == nf 0) = true := rfl
  simp_arith only [-n_sSeq, n0, w1, v1, w2, v2, wf_of so1, wf_of so2]
  rw [n_sSeq]
  have wP : wholeBL nf ((List.range (cntT ts2)).map ((fun c => R.ol (natsD c)) ∘ fun k => [k])) = true := by
    generalize List.range (cntT ts2) = l
    induction l with
    | nil => rfl
    | cons s l ih => show (wholeB nf (R.ol (natsD [s])) && wholeBL nf (l.map _)) = true; rw [ih]; rfl
  have vP : vwL ((List.range (cntT ts2)).map ((fun c => R.ol (natsD c)) ∘ fun k => [k])) = (List.range (cntT ts2)).map fun i : Nat => D.lst [.int (0 + (i : Int))] := by
    generalize List.range (cntT ts2) = l
    induction l with
    | nil => rfl
    | cons s l ih => show vw (R.ol (natsD [s])) :: vwL (l.map _) = _; rw [ih, List.map_cons, Int.zero_add]; rfl
  have hr : dR1 [.int (cntT ts2 : Int)] = some ((List.range (cntT ts2)).map fun i : Nat => D.int (0 + (i : Int))) := dR1_n (by omega)
  have ckP : cok (.lst ((List.range (cntT ts2)).map fun i : Nat => D.lst [.int (0 + (i : Int))])) = true := (pd_lst (n := 1) fun d hd => by
    obtain ⟨c, _, rfl⟩ := List.mem_map.mp hd
    exact pd_lst (n := 0) fun e he => by rw [List.mem_singleton.mp he]; exact pd_int _ 0).cok (by decide)
  have neP : dNe (.lst ((List.range (cntT ts2)).map fun i : Nat => D.lst [.int (0 + (i : Int))])) (.lst ((List.range (cntT ts2)).map fun i : Nat => D.lst [.int (0 + (i : Int))])) = some (.bl false) := by rw [e_neC ckP ckP, same_self ckP]; rfl
  have hi : dInts ((ts2.map fun t => (max (t.1 : Int) (t.2.2.1 : Int))).map D.int) = some (ts2.map fun t => (max (t.1 : Int) (t.2.2.1 : Int))) := dInts_map _
  have hx : ts2.map (fun t => D.int (max (t.1 : Int) (t.2.2.1 : Int))) = (ts2.map fun t => (max (t.1 : Int) (t.2.2.1 : Int))).map D.int := by rw [List.map_map]; rfl
  have e1 : (1 : Int) + (topT ts2 : Int) = (cntT ts2 : Int) := by unfold cntT; omega
  simp_arith only [-n_sSeq, -dR1_i, n0, w1, v1, w2, v2, wf_of so1, wf_of so2, wf_of ef2, wf_of ec, wP, vP, t1, wf_of en, hr]
  refine wl_map (acc := []) (xs := List.range (cntT ts2)) (fun i : Nat => D.int (0 + (i : Int))) (fun i : Nat => D.lst [.int (0 + (i : Int))]) (by simp [szl, sizeLine]; omega) (fun x hx => ?_) ?_
  · simp_arith only []
    try exact ⟨rfl, rfl⟩
  · rw [List.nil_append]
    simp_arith only [-n_sSeq, neP]
    rw [n_sSeq]
    simp_arith only [-n_sSeq, n0, w1, v1, w2, v2, t1, wf_of en]
    refine wl_map (acc := []) (xs := ts2) encT4 (fun t => D.int (max (t.1 : Int) (t.2.2.1 : Int))) (by simp [szl, sizeLine]; omega) (fun t ht => ?_) ?_
    · simp_arith only [encT4, stepD]
      try exact ⟨rfl, rfl⟩
    · rw [List.nil_append]
      simp_arith only [-n_sSeq, hx, hi, great_max, e1]
      rw [n_sSeq]
      simp_arith only [n0, w1, v1, w2, v2, x2, wf_of ef, wf_of so1, wf_of so2]
end K52
set_option Elab.async false
set_option linter.all false
set_option maxRecDepth 100000
set_option maxHeartbeats 4000000
namespace K52
open PySem hiding ret plain
open Fz hiding tb nx
open FzP
theorem law_ok : Fz.LawDoes F_law := by
  intro ns hns
  have h : wf F_law [.d (.lst (ns.map D.int))] (fun o rs => o = .v (.d (.bl true))) := by
    have ri : ∀ sc : List Int, F__law_right_by [.d (.lst (sc.map D.int))] = some (.v (.d (.bl true)), [.d (.lst (sc.map D.int))]) := fun sc => by
      obtain ⟨_, _, e, rfl, rfl⟩ := wf_get (right_wf sc)
      exact e
    have c1 : cutD (ns.map D.int) (some 1) none = (ns.drop 1).map D.int := (cutD_from (k := 1)).trans List.map_drop.symm
    have e2 : (ns.drop 1).map D.int ++ [D.int (7 + (ns.length : Int))] = (ns.drop 1 ++ [7 + (ns.length : Int)]).map D.int := by rw [List.map_append]; rfl
    have lD : dLen [.lst (ns.map D.int)] = some (.int (ns.length : Int)) := by show some (D.int _) = _; rw [List.length_map]
    have gc : gCat (.lst ((ns.drop 1).map D.int)) (.lst [.int (7 + (ns.length : Int))]) = some ((ns.drop 1 ++ [7 + (ns.length : Int)]).map D.int) := by
      rw [← e2]
      exact if_pos (by rw [List.length_map, List.length_drop]; simp [sizeLine]; omega)
    unfold F_law
    simp_arith only [b_law, c1, lD, gc]
    rw [ws_forL_cons]
    simp_arith only [wf_of (ri ns)]
    rw [ws_forL_cons]
    simp_arith only [wf_of (ri (ns.drop 1 ++ [7 + (ns.length : Int)]))]
    rw [ws_forL_cons]
    simp_arith only [wf_of (ri ns)]
    rw [ws_forL_nil]
    simp_arith only []
  obtain ⟨o, rs, e, rfl⟩ := wf_get h
  exact ⟨rs, e⟩
end K52
set_option Elab.async false
set_option linter.all false
set_option maxRecDepth 100000
set_option maxHeartbeats 0
namespace K52
open PySem PySem.Spec PyProof.Rows L2 Fz
theorem cb_all {K : PySem.W.Frag} (h : (fas.all fun f => f K) = true) : (fas0.all fun f => f K) = true ∧ (fas1.all fun f => f K) = true := by
  unfold fas at h
  simp only [List.all_append, Bool.and_eq_true, and_assoc] at h
  exact h
theorem cb0 {w : World} {K : PySem.W.Frag} (c : SaysC chk fns tss w K) : (fas0.all fun f => f K) = true := (cb_all c.b).1
theorem cb1 {w : World} {K : PySem.W.Frag} (c : SaysC chk fns tss w K) : (fas1.all fun f => f K) = true := (cb_all c.b).2
section
variable {w : World} {K : PySem.W.Frag} {h : Heap} {mg : Str → Option Value}
theorem vx_n_enumerate (X : K.In h) (G : h.Ns mainGlobals mg) (c : SaysC chk fns tss w K) : mg "enumerate" = none := He.free_ok X G (fact_at (f := fas_29) (cb1 c) 9)
theorem vx_n_isinstance (X : K.In h) (G : h.Ns mainGlobals mg) (c : SaysC chk fns tss w K) : mg "isinstance" = none := He.free_ok X G (fact_at (f := fas_30) (cb1 c) 10)
theorem vx_n_len (X : K.In h) (G : h.Ns mainGlobals mg) (c : SaysC chk fns tss w K) : mg "len" = none := He.free_ok X G (fact_at (f := fas_31) (cb1 c) 11)
theorem vx_n_list (X : K.In h) (G : h.Ns mainGlobals mg) (c : SaysC chk fns tss w K) : mg "list" = none := He.free_ok X G (fact_at (f := fas_32) (cb1 c) 12)
theorem vx_n_max (X : K.In h) (G : h.Ns mainGlobals mg) (c : SaysC chk fns tss w K) : mg "max" = none := He.free_ok X G (fact_at (f := fas_33) (cb1 c) 13)
theorem vx_n_range (X : K.In h) (G : h.Ns mainGlobals mg) (c : SaysC chk fns tss w K) : mg "range" = none := He.free_ok X G (fact_at (f := fas_34) (cb1 c) 14)
theorem vx_n_set (X : K.In h) (G : h.Ns mainGlobals mg) (c : SaysC chk fns tss w K) : mg "set" = none := He.free_ok X G (fact_at (f := fas_35) (cb1 c) 15)
theorem vx_n_sorted (X : K.In h) (G : h.Ns mainGlobals mg) (c : SaysC chk fns tss w K) : mg "sorted" = none := He.free_ok X G (fact_at (f := fas_36) (cb1 c) 16)
theorem vx_n_tuple (X : K.In h) (G : h.Ns mainGlobals mg) (c : SaysC chk fns tss w K) : mg "tuple" = none := He.free_ok X G (fact_at (f := fas_37) (cb1 c) 17)
theorem vx_f_steps_by_state (X : K.In h) (G : h.Ns mainGlobals mg) (c : SaysC chk fns tss w K) : GFun (tb w K) mg "steps_by_state" s_steps_by_state P_steps_by_state := let ⟨fd, F⟩ := c.t.d.def_ (d := fns_0) 0; ⟨_, fd, He.glo_ok X G (fact_at (f := fas_0) (cb0 c) 0), fun_of F, FunD.bindsN (ps := P_steps_by_state) F (fun _ _ _ _ _ _ us hl => match us, hl with | [_], _ => rfl)⟩
theorem vx_f_finer (X : K.In h) (G : h.Ns mainGlobals mg) (c : SaysC chk fns tss w K) : GFun (tb w K) mg "finer" s_finer P_finer := let ⟨fd, F⟩ := c.t.d.def_ (d := fns_1) 1; ⟨_, fd, He.glo_ok X G (fact_at (f := fas_1) (cb0 c) 1), fun_of F, FunD.bindsN (ps := P_finer) F (fun _ _ _ _ _ _ us hl => match us, hl with | [_, _], _ => rfl)⟩
theorem vx_f_class_places (X : K.In h) (G : h.Ns mainGlobals mg) (c : SaysC chk fns tss w K) : GFun (tb w K) mg "class_places" s_class_places P_class_places := let ⟨fd, F⟩ := c.t.d.def_ (d := fns_2) 2; ⟨_, fd, He.glo_ok X G (fact_at (f := fas_2) (cb0 c) 2), fun_of F, FunD.bindsN (ps := P_class_places) F (fun _ _ _ _ _ _ us hl => match us, hl with | [_], _ => rfl)⟩
theorem vx_f_classes_of (X : K.In h) (G : h.Ns mainGlobals mg) (c : SaysC chk fns tss w K) : GFun (tb w K) mg "classes_of" s_classes_of P_classes_of := let ⟨fd, F⟩ := c.t.d.def_ (d := fns_3) 3; ⟨_, fd, He.glo_ok X G (fact_at (f := fas_3) (cb0 c) 3), fun_of F, FunD.bindsN (ps := P_classes_of) F (fun _ _ _ _ _ _ us hl => match us, hl with | [_], _ => rfl)⟩
theorem vx_f_folded (X : K.In h) (G : h.Ns mainGlobals mg) (c : SaysC chk fns tss w K) : GFun (tb w K) mg "folded" s_folded P_folded := let ⟨fd, F⟩ := c.t.d.def_ (d := fns_4) 4; ⟨_, fd, He.glo_ok X G (fact_at (f := fas_4) (cb0 c) 4), fun_of F, FunD.bindsN (ps := P_folded) F (fun _ _ _ _ _ _ us hl => match us, hl with | [_], _ => rfl)⟩
theorem vx_f__law_cell_at (X : K.In h) (G : h.Ns mainGlobals mg) (c : SaysC chk fns tss w K) : GFun (tb w K) mg "_law_cell_at" s__law_cell_at P__law_cell_at := let ⟨fd, F⟩ := c.t.d.def_ (d := fns_5) 5; ⟨_, fd, He.glo_ok X G (fact_at (f := fas_5) (cb0 c) 5), fun_of F, FunD.bindsN (ps := P__law_cell_at) F (fun _ _ _ _ _ _ us hl => match us, hl with | [_, _], _ => rfl)⟩
theorem vx_f__law_mixed (X : K.In h) (G : h.Ns mainGlobals mg) (c : SaysC chk fns tss w K) : GFun (tb w K) mg "_law_mixed" s__law_mixed P__law_mixed := let ⟨fd, F⟩ := c.t.d.def_ (d := fns_6) 6; ⟨_, fd, He.glo_ok X G (fact_at (f := fas_6) (cb0 c) 6), fun_of F, FunD.bindsN (ps := P__law_mixed) F (fun _ _ _ _ _ _ us hl => match us, hl with | [_, _, _], _ => rfl)⟩
theorem vx_f__law_marks_by (X : K.In h) (G : h.Ns mainGlobals mg) (c : SaysC chk fns tss w K) : GFun (tb w K) mg "_law_marks_by" s__law_marks_by P__law_marks_by := let ⟨fd, F⟩ := c.t.d.def_ (d := fns_7) 7; ⟨_, fd, He.glo_ok X G (fact_at (f := fas_7) (cb0 c) 7), fun_of F, FunD.bindsN (ps := P__law_marks_by) F (fun _ _ _ _ _ _ us hl => match us, hl with | [_], _ => rfl)⟩
theorem vx_f__law_moment_of (X : K.In h) (G : h.Ns mainGlobals mg) (c : SaysC chk fns tss w K) : GFun (tb w K) mg "_law_moment_of" s__law_moment_of P__law_moment_of := let ⟨fd, F⟩ := c.t.d.def_ (d := fns_8) 8; ⟨_, fd, He.glo_ok X G (fact_at (f := fas_8) (cb0 c) 8), fun_of F, FunD.bindsN (ps := P__law_moment_of) F (fun _ _ _ _ _ _ us hl => match us, hl with | [_, _], _ => rfl)⟩
theorem vx_f__law_steps_by (X : K.In h) (G : h.Ns mainGlobals mg) (c : SaysC chk fns tss w K) : GFun (tb w K) mg "_law_steps_by" s__law_steps_by P__law_steps_by := let ⟨fd, F⟩ := c.t.d.def_ (d := fns_9) 9; ⟨_, fd, He.glo_ok X G (fact_at (f := fas_9) (cb0 c) 9), fun_of F, FunD.bindsN (ps := P__law_steps_by) F (fun _ _ _ _ _ _ us hl => match us, hl with | [_, _, _, _], _ => rfl)⟩
theorem vx_f__law_doubled (X : K.In h) (G : h.Ns mainGlobals mg) (c : SaysC chk fns tss w K) : GFun (tb w K) mg "_law_doubled" s__law_doubled P__law_doubled := let ⟨fd, F⟩ := c.t.d.def_ (d := fns_10) 10; ⟨_, fd, He.glo_ok X G (fact_at (f := fas_10) (cb0 c) 10), fun_of F, FunD.bindsN (ps := P__law_doubled) F (fun _ _ _ _ _ _ us hl => match us, hl with | [_, _], _ => rfl)⟩
theorem vx_f__law_machine_by (X : K.In h) (G : h.Ns mainGlobals mg) (c : SaysC chk fns tss w K) : GFun (tb w K) mg "_law_machine_by" s__law_machine_by P__law_machine_by := let ⟨fd, F⟩ := c.t.d.def_ (d := fns_11) 11; ⟨_, fd, He.glo_ok X G (fact_at (f := fas_11) (cb0 c) 11), fun_of F, FunD.bindsN (ps := P__law_machine_by) F (fun _ _ _ _ _ _ us hl => match us, hl with | [_, _], _ => rfl)⟩
theorem vx_f__law_follows (X : K.In h) (G : h.Ns mainGlobals mg) (c : SaysC chk fns tss w K) : GFun (tb w K) mg "_law_follows" s__law_follows P__law_follows := let ⟨fd, F⟩ := c.t.d.def_ (d := fns_12) 12; ⟨_, fd, He.glo_ok X G (fact_at (f := fas_12) (cb0 c) 12), fun_of F, FunD.bindsN (ps := P__law_follows) F (fun _ _ _ _ _ _ us hl => match us, hl with | [_, _, _], _ => rfl)⟩
theorem vx_f__law_near (X : K.In h) (G : h.Ns mainGlobals mg) (c : SaysC chk fns tss w K) : GFun (tb w K) mg "_law_near" s__law_near P__law_near := let ⟨fd, F⟩ := c.t.d.def_ (d := fns_13) 13; ⟨_, fd, He.glo_ok X G (fact_at (f := fas_13) (cb0 c) 13), fun_of F, FunD.bindsN (ps := P__law_near) F (fun _ _ _ _ _ _ us hl => match us, hl with | [_], _ => rfl)⟩
theorem vx_f__law_classes (X : K.In h) (G : h.Ns mainGlobals mg) (c : SaysC chk fns tss w K) : GFun (tb w K) mg "_law_classes" s__law_classes P__law_classes := let ⟨fd, F⟩ := c.t.d.def_ (d := fns_14) 14; ⟨_, fd, He.glo_ok X G (fact_at (f := fas_14) (cb0 c) 14), fun_of F, FunD.bindsN (ps := P__law_classes) F (fun _ _ _ _ _ _ us hl => match us, hl with | [_], _ => rfl)⟩
theorem vx_f__law_between (X : K.In h) (G : h.Ns mainGlobals mg) (c : SaysC chk fns tss w K) : GFun (tb w K) mg "_law_between" s__law_between P__law_between := let ⟨fd, F⟩ := c.t.d.def_ (d := fns_15) 15; ⟨_, fd, He.glo_ok X G (fact_at (f := fas_15) (cb0 c) 15), fun_of F, FunD.bindsN (ps := P__law_between) F (fun _ _ _ _ _ _ us hl => match us, hl with | [_], _ => rfl)⟩
theorem vx_f__law_so (X : K.In h) (G : h.Ns mainGlobals mg) (c : SaysC chk fns tss w K) : GFun (tb w K) mg "_law_so" s__law_so P__law_so := let ⟨fd, F⟩ := c.t.d.def_ (d := fns_16) 16; ⟨_, fd, He.glo_ok X G (fact_at (f := fas_16) (cb0 c) 16), fun_of F, FunD.bindsN (ps := P__law_so) F (fun _ _ _ _ _ _ us hl => match us, hl with | [_, _, _, _], _ => rfl)⟩
theorem vx_f__law_right_by (X : K.In h) (G : h.Ns mainGlobals mg) (c : SaysC chk fns tss w K) : GFun (tb w K) mg "_law_right_by" s__law_right_by P__law_right_by := let ⟨fd, F⟩ := c.t.d.def_ (d := fns_17) 17; ⟨_, fd, He.glo_ok X G (fact_at (f := fas_17) (cb0 c) 17), fun_of F, FunD.bindsN (ps := P__law_right_by) F (fun _ _ _ _ _ _ us hl => match us, hl with | [_], _ => rfl)⟩
theorem vx_f_law (X : K.In h) (G : h.Ns mainGlobals mg) (c : SaysC chk fns tss w K) : GFun (tb w K) mg "law" s_law P_law := let ⟨fd, F⟩ := c.t.d.def_ (d := fns_18) 18; ⟨_, fd, He.glo_ok X G (fact_at (f := fas_18) (cb0 c) 18), fun_of F, FunD.bindsN (ps := P_law) F (fun _ _ _ _ _ _ us hl => match us, hl with | [_], _ => rfl)⟩
theorem vx_m_Machine_count (X : K.In h) (G : h.Ns mainGlobals mg) (c : SaysC chk fns tss w K) : GMth (tb w K) 0 "count" "Machine.count" s_Machine_count P_Machine_count := let ⟨fd, F⟩ := c.t.d.def_ (d := fns_19) 19; ⟨_, fd, He.meth_ok (fact_at (f := fas_24) (cb1 c) 4), fun_of F, FunD.bindsN (ps := P_Machine_count) F (fun _ _ _ _ _ _ us hl => match us, hl with | [_], _ => rfl)⟩
theorem vx_g_Machine (X : K.In h) (G : h.Ns mainGlobals mg) (c : SaysC chk fns tss w K) : mg "Machine" = some (.ref ((tb w K).cls 0)) := He.glo_ok X G (fact_at (f := fas_19) (cb0 c) 19)
theorem vx_i_Machine (X : K.In h) (G : h.Ns mainGlobals mg) (c : SaysC chk fns tss w K) : GIs (tb w K) 0 is_Machine := by
  intro c2 b h2
  unfold is_Machine at h2
  split at h2
  · cases h2; exact ⟨He.cls_ok (fact_at (f := fas_20) (cb1 c) 0), insOk_of (fact_at (f := fas_27) (cb1 c) 7) (fact_at (f := fas_26) (cb1 c) 6), eq_of_beq (fact_at (f := fas_28) (cb1 c) 8)⟩
  · cases h2
theorem vx_k_Machine (X : K.In h) (G : h.Ns mainGlobals mg) (c : SaysC chk fns tss w K) : GMk (tb w K) mg "Machine" 0 "Machine.__init__" s_Machine___init__ P_Machine___init__ := let ⟨fd, F⟩ := c.t.d.def_ (d := fns_20) 20; ⟨_, fd, He.glo_ok X G (fact_at (f := fas_19) (cb0 c) 19), He.mkr_ok (fact_at (f := fas_25) (cb1 c) 5), fun_of F, FunD.bindsN (ps := P_Machine___init__) F (fun _ _ _ _ _ _ us hl => match us, hl with | [_, _, _, _], _ => rfl)⟩
theorem vx_q_Machine (X : K.In h) (G : h.Ns mainGlobals mg) (c : SaysC chk fns tss w K) : ClsOk (tb w K) 0 := ⟨He.cls_ok (fact_at (f := fas_20) (cb1 c) 0), (show (flds 0).Nodup by decide +kernel), (show (flds 0).length ≤ 100 by decide +kernel), fun f hf => by
    have hf : f ∈ (["names", "bells", "steps"] : List PySem.Str) := hf
    simp only [List.mem_cons, List.not_mem_nil, or_false] at hf
    rcases hf with rfl | rfl | rfl
    · exact He.noat_ok (fact_at (f := fas_21) (cb1 c) 1)
    · exact He.noat_ok (fact_at (f := fas_22) (cb1 c) 2)
    · exact He.noat_ok (fact_at (f := fas_23) (cb1 c) 3)⟩
theorem vx (X : K.In h) (G : h.Ns mainGlobals mg) (c : SaysC chk fns tss w K) : Vx w K mg where
  n_enumerate := vx_n_enumerate X G c
  n_isinstance := vx_n_isinstance X G c
  n_len := vx_n_len X G c
  n_list := vx_n_list X G c
  n_max := vx_n_max X G c
  n_range := vx_n_range X G c
  n_set := vx_n_set X G c
  n_sorted := vx_n_sorted X G c
  n_tuple := vx_n_tuple X G c
  f_steps_by_state := vx_f_steps_by_state X G c
  f_finer := vx_f_finer X G c
  f_class_places := vx_f_class_places X G c
  f_classes_of := vx_f_classes_of X G c
  f_folded := vx_f_folded X G c
  f__law_cell_at := vx_f__law_cell_at X G c
  f__law_mixed := vx_f__law_mixed X G c
  f__law_marks_by := vx_f__law_marks_by X G c
  f__law_moment_of := vx_f__law_moment_of X G c
  f__law_steps_by := vx_f__law_steps_by X G c
  f__law_doubled := vx_f__law_doubled X G c
  f__law_machine_by := vx_f__law_machine_by X G c
  f__law_follows := vx_f__law_follows X G c
  f__law_near := vx_f__law_near X G c
  f__law_classes := vx_f__law_classes X G c
  f__law_between := vx_f__law_between X G c
  f__law_so := vx_f__law_so X G c
  f__law_right_by := vx_f__law_right_by X G c
  f_law := vx_f_law X G c
  m_Machine_count := vx_m_Machine_count X G c
  g_Machine := vx_g_Machine X G c
  i_Machine := vx_i_Machine X G c
  k_Machine := vx_k_Machine X G c
  q_Machine := vx_q_Machine X G c
end
end K52
open PySem PySem.W PySem.Calls PyProof.Rows
theorem K52.holds (hlaw : Fz.LawDoes K52.F_law) : PySem.Challenge.rw_everwalk_k52_folded_told.Holds := by
  w_on; o_law
  refine HandSHeadRun.head_any (r := OpenLaw.row PySem.Challenge.rw_everwalk_k52_folded_told) (q := view (OpenLaw.row PySem.Challenge.rw_everwalk_k52_folded_told).prog [23]) (H := K52.hk) (ob := K52.obH) (M := 30000) (loose := K52.nms) (d := HandSHeadRun.topDef (OpenLaw.row PySem.Challenge.rw_everwalk_k52_folded_told).prog 23) (kwd := []) K52.obH_eq
    (by kernel_rfl) (fun s => by kernel_rfl) K52.runH (by kernel_rfl) (by kernel_rfl) (by kernel_rfl) (by rfl) (by first | assumption | decide +kernel) (by decide +kernel) ⟨rfl, rfl, rfl, rfl, rfl, by decide +kernel⟩ ?hw ?hc
  case hw => w_witness2
  case hc =>
    refine Fz.walk_ofW (l := PySem.Challenge.rw_everwalk_k52_folded_told) (k := 6) (x := "_law_script") rfl (by kernel_rfl) ⟨rfl, by decide, by decide, rfl⟩ ?F
    intro w mg fa h Y G hmg0
    obtain ⟨K, KX, c⟩ := Y
    have hmg : mg ("law" : PySem.Str) = some (.ref fa) := by
      have e : (HandSHeadRun.topDef (OpenLaw.row PySem.Challenge.rw_everwalk_k52_folded_told).prog 23).name = ("law" : PySem.Str) := by kernel_rfl
      rw [← e]
      exact hmg0
    have V := K52.vx KX G c
    obtain ⟨f, fd, g1, g2, g3⟩ := V.f_law
    have e := hmg.symm.trans g1
    cases e
    refine ⟨K52.tb w K, fd, K52.F_law, KX, fun s u => ?_, hlaw, fun base _ _ => Fz.ok_def g2 K52.sc_law (K52.does_law V fa)⟩
    obtain ⟨oc, od, kV, doc, pm, an, cdv, ct, osl, e, _, _⟩ := g2.ex
    subst e
    exact .of_eq rfl
open PySem PySem.W PyProof.Rows
set_option maxRecDepth 100000 in
set_option maxHeartbeats 8000000 in
theorem PySem.Challenge.cw_everwalk_k52_folded_told_holds : PySem.Challenge.rw_everwalk_k52_folded_told.Holds := by
  exact K52.holds K52.law_ok
