import PyProof.Rows.All
import Wide.All
import OpenK.AllK
import Wide.FinOn
import HandS.Words
import HandS.HeadHook1
import HandS.HeadHook2
import HandS.HeadHook3
import HandS.HeadEnd
import HandS.Head2
import Wide.Once
import KE.KNestM
import HandS.EndTab
import HandS.Base
import HandS.Call
import KE.KeyNested
import HandS.List
import HandS.Dict
import HandS.Iter
import HandS.Comp
import HandS.Conv
import HandS.Walk
import KE.KDictWalk
import KE.KDictKeyed
import KE.KDictPairs
import KE.KDictCopyH
import HandS.Deep
import HandS.Text
import HandS.WordsExc
import HandS.CallSlots
import HandS.ForMost
import HandS.ForExc
import HandS.TupAny
import HandS.IsInst
import HandS.Style
import HandS.More
import HandS.StrMore
import HandS.Replace
import HandS.Defaults
import HandS.Ends
import HandS.SortKw
import HandS.Set
import HandS.Strs
import PyProof.Rows.SortShellAny
import HandS.Exc
import HandS.ExcOwn
import HandS.ExcIs
import HandS.ExcValue
import HandS.TryOnly
import PyProof.NeKinds
import PyProof.ReprRoads
import PyProof.ReprLen
import PyProof.Rows.ReprShort
import PyProof.Rows.ReprOcc
import HandS.TupMul
import KE.KRevSl
import HandS.ReplaceLit
import PyProof.ToksMono
import HandS.TupLen
import HandS.FStr
import HandS.TupSets
import HandS.SortOrd
import HandS.TupLe
import HandS.Flt
import KE.KDictSum
import HandS.Nested
import HandS.RevRange
import PyProof.TupleOfSeq
import KE.KEqDict
import PySem.Challenge.RW_everwalk_k41_what_is_reached
set_option Elab.async false
set_option linter.all false
set_option maxRecDepth 100000
set_option maxHeartbeats 2000000
namespace Fz
open PySem L2 PySem.Spec PyProof.Rows
abbrev AlC : Type := Bool × He.AlT
def obsC (chk : PySem.W.Frag → Bool) (fn : List He.DefD) (ts : List He.Tab) (K : PySem.W.Frag) : AlC := (chk K, He.obsT [] fn ts K)
def valC (fn : List He.DefD) (ts : List He.Tab) (w : World) : AlC := (true, He.valT fn ts w)
def SaysC (chk : PySem.W.Frag → Bool) (fn : List He.DefD) (ts : List He.Tab) (w : World) (K : PySem.W.Frag) : Prop := obsC chk fn ts K = valC fn ts w
section
variable {chk : PySem.W.Frag → Bool} {fn : List He.DefD} {ts : List He.Tab} {w : World} {K : PySem.W.Frag} {h : Heap} {mg : Str → Option Value}
theorem SaysC.b (c : SaysC chk fn ts w K) : chk K = true := congrArg (fun z : AlC => z.1) c
theorem SaysC.t (c : SaysC chk fn ts w K) : He.SaysT [] fn ts w K := congrArg (fun z : AlC => z.2) c
theorem fact_at {fs : List (PySem.W.Frag → Bool)} (hc : (fs.all fun f => f K) = true) (i : Nat) {f : PySem.W.Frag → Bool} (h : fs[i]? = some f := by rfl) : f K = true := List.all_eq_true.mp hc f (List.mem_of_getElem? h)
end
def obsLG (as : List Addr) (chk : PySem.W.Frag → Bool) (fn : List He.DefD) (ts : List He.Tab) (g : Addr → Option Obj) : AlC := obsC chk fn ts (He.frG g as)
def hookL (as : List Addr) (chk : PySem.W.Frag → Bool) (fn : List He.DefD) (ts : List He.Tab) : PySem.W.Hook where
  α := AlC
  obs := fun s => obsLG as chk fn ts s.heap.get?
  val := fun w => valC fn ts w
  says := fun w h => ∃ K : PySem.W.Frag, K.In h ∧ SaysC chk fn ts w K
  of := fun _ _ e => ⟨_, He.frG_in, e⟩
  keeps := fun _ _ _ ⟨K, hK, c⟩ k => ⟨K, PySem.W.Frag.In.keeps hK k, c⟩
theorem obsLG_eq {as : List Addr} {chk : PySem.W.Frag → Bool} {fn : List He.DefD} {ts : List He.Tab} {g : Addr → Option Obj} {s : Shared} (h : ∀ a, g a = s.heap.get? a) : obsLG as chk fn ts g = (hookL as chk fn ts).obs s := by
  have e : g = s.heap.get? := funext h
  rw [e] <;> rfl
theorem map3 {α β γ δ : Type} {o : Option α} {a : α → β} {b : α → γ} {c : α → δ} {x : β} {y : γ} {z : δ} (h1 : o.map a = some x) (h2 : o.map b = some y) (h3 : o.map c = some z) : o.map (fun s => (a s, b s, c s)) = some (x, y, z) := by
  cases o with
  | none => cases h1
  | some s => cases h1; cases h2; cases h3; rfl
end Fz
set_option Elab.async false
set_option linter.all false
set_option maxRecDepth 100000
set_option maxHeartbeats 4000000
namespace Fz
open PySem L2 PySem.Spec PyProof.Rows
end Fz
set_option Elab.async false
set_option linter.all false
set_option maxRecDepth 100000
set_option maxHeartbeats 0
namespace K41
open PySem PySem.Spec PyProof.Rows L2 Fz
def topS (i : Nat) : Stmt := PySem.Challenge.pw_everwalk_k41_what_is_reached.main.body.getD i (.Pass ⟨0, 0, 0, 0⟩)
abbrev s_reached : Stmt := topS 1
abbrev s__law_begin : Stmt := topS 3
abbrev s__law_next : Stmt := topS 4
abbrev s__law_nodes : Stmt := topS 5
abbrev s__law_rung : Stmt := topS 6
abbrev s__law_graph : Stmt := topS 7
abbrev s__law_starts : Stmt := topS 8
abbrev s__law_come : Stmt := topS 9
abbrev s_law : Stmt := topS 10
def fns_0 : He.DefD := ⟨("reached", none), "reached", "reached", defArgs s_reached, defBody s_reached, defScope s_reached, [], []⟩
def fns_1 : He.DefD := ⟨("_law_begin", none), "_law_begin", "_law_begin", defArgs s__law_begin, defBody s__law_begin, defScope s__law_begin, [], []⟩
def fns_2 : He.DefD := ⟨("_law_next", none), "_law_next", "_law_next", defArgs s__law_next, defBody s__law_next, defScope s__law_next, [], []⟩
def fns_3 : He.DefD := ⟨("_law_nodes", none), "_law_nodes", "_law_nodes", defArgs s__law_nodes, defBody s__law_nodes, defScope s__law_nodes, [], []⟩
def fns_4 : He.DefD := ⟨("_law_rung", none), "_law_rung", "_law_rung", defArgs s__law_rung, defBody s__law_rung, defScope s__law_rung, [], []⟩
def fns_5 : He.DefD := ⟨("_law_graph", none), "_law_graph", "_law_graph", defArgs s__law_graph, defBody s__law_graph, defScope s__law_graph, [], []⟩
def fns_6 : He.DefD := ⟨("_law_starts", none), "_law_starts", "_law_starts", defArgs s__law_starts, defBody s__law_starts, defScope s__law_starts, [], []⟩
def fns_7 : He.DefD := ⟨("_law_come", none), "_law_come", "_law_come", defArgs s__law_come, defBody s__law_come, defScope s__law_come, [], []⟩
def fns_8 : He.DefD := ⟨("law", none), "law", "law", defArgs s_law, defBody s_law, defScope s_law, [], []⟩
def fns0 : List He.DefD := [fns_0, fns_1, fns_2, fns_3, fns_4, fns_5, fns_6, fns_7, fns_8]
def fns : List He.DefD := fns0
def fas_0 : PySem.W.Frag → Bool := (fun K => (He.Fa.glo "reached").ok K)
def fas_1 : PySem.W.Frag → Bool := (fun K => (He.Fa.glo "_law_begin").ok K)
def fas_2 : PySem.W.Frag → Bool := (fun K => (He.Fa.glo "_law_next").ok K)
def fas_3 : PySem.W.Frag → Bool := (fun K => (He.Fa.glo "_law_nodes").ok K)
def fas_4 : PySem.W.Frag → Bool := (fun K => (He.Fa.glo "_law_rung").ok K)
def fas_5 : PySem.W.Frag → Bool := (fun K => (He.Fa.glo "_law_graph").ok K)
def fas_6 : PySem.W.Frag → Bool := (fun K => (He.Fa.glo "_law_starts").ok K)
def fas_7 : PySem.W.Frag → Bool := (fun K => (He.Fa.glo "_law_come").ok K)
def fas_8 : PySem.W.Frag → Bool := (fun K => (He.Fa.glo "law").ok K)
def fas_9 : PySem.W.Frag → Bool := (fun K => (He.Fa.free "dict").ok K)
def fas_10 : PySem.W.Frag → Bool := (fun K => (He.Fa.free "isinstance").ok K)
def fas_11 : PySem.W.Frag → Bool := (fun K => (He.Fa.free "len").ok K)
def fas_12 : PySem.W.Frag → Bool := (fun K => (He.Fa.free "list").ok K)
def fas_13 : PySem.W.Frag → Bool := (fun K => (He.Fa.free "range").ok K)
def fas_14 : PySem.W.Frag → Bool := (fun K => (He.Fa.free "str").ok K)
def fas_15 : PySem.W.Frag → Bool := (fun K => (He.Fa.free "tuple").ok K)
def fas0 : List (PySem.W.Frag → Bool) := [fas_0, fas_1, fas_2, fas_3, fas_4, fas_5, fas_6, fas_7, fas_8, fas_9, fas_10, fas_11, fas_12, fas_13, fas_14, fas_15]
def fas : List (PySem.W.Frag → Bool) := fas0
def chk (K : PySem.W.Frag) : Bool := fas.all fun f => f K
def tss : List He.Tab := []
def nms0 : List PySem.Str := ["reached", "_law_begin", "_law_next", "_law_nodes", "_law_rung", "_law_graph", "_law_starts", "_law_come"]
def nms : List PySem.Str := nms0
abbrev Rw : PySem.W.OpenRow := PySem.W.OpenLaw.row PySem.Challenge.rw_everwalk_k41_what_is_reached
def asL : List Addr := [3, 21, 28, 35, 42, 47, 54, 59, 66, 71, 20, 27, 34, 41, 46, 53, 58, 65, 70]
abbrev hk : PySem.W.Hook := hookL asL chk fns tss
def obH (s : PySem.W.SharedT) : AlC := obsLG asL chk fns tss (HandSHeadRun.getT s)
theorem obH_eq (s : PySem.W.SharedT) : obH s = hk.obs s.abs := obsLG_eq (HandSHeadRun.getT_eq s)
noncomputable abbrev endH (w : World) (os : OsState) : Option PySem.W.SharedT := HandSHeadRun.endF (HandSHeadRun.stepQ (HandSHeadRun.denQ HandSHeadRun.tabQ) Rw.prog w) 30000 Rw.prog w os
def PH1 (w : World) : Prop := ∀ os : OsState, (endH w os).map (fun s => HandSHeadRun.looksF Rw.prog (PySem.W.boot_heap w.params) s.abs) = some true
def PH2 (w : World) : Prop := ∀ os : OsState, (endH w os).map (fun s => HandSHeadRun.seenQ (PySem.W.view Rw.prog [10]) nms (importedModules Rw.prog.main.body) (fun s => PySem.W.xlAt (PySem.W.view Rw.prog [10]) [] s && PySem.W.recOk Rw.toRowW.records s) s.abs) = some (PySem.W.openGood (PySem.W.view Rw.prog [10]) nms)
def PH3 (w : World) : Prop := ∀ os : OsState, (endH w os).map obH = some (hk.val w)
theorem runH1a (w : World) : PH1 (World.withFollow w "special-get-raises" false) := by delta PH1; intro os; kernel_rfl
theorem runH1b (w : World) : PH1 (World.withFollow w "special-get-raises" true) := by delta PH1; intro os; kernel_rfl
theorem runH2a (w : World) : PH2 (World.withFollow w "special-get-raises" false) := by delta PH2; intro os; kernel_rfl
theorem runH2b (w : World) : PH2 (World.withFollow w "special-get-raises" true) := by delta PH2; intro os; kernel_rfl
theorem runH3a (w : World) : PH3 (World.withFollow w "special-get-raises" false) := by delta PH3; intro os; kernel_rfl
theorem runH3b (w : World) : PH3 (World.withFollow w "special-get-raises" true) := by delta PH3; intro os; kernel_rfl
theorem runH1 (w : World) : PH1 w := PySem.W.byRow2 "special-get-raises" (P := PH1) runH1a runH1b w
theorem runH2 (w : World) : PH2 w := PySem.W.byRow2 "special-get-raises" (P := PH2) runH2a runH2b w
theorem runH3 (w : World) : PH3 w := PySem.W.byRow2 "special-get-raises" (P := PH3) runH3a runH3b w
theorem runH (w : World) : HandSHeadRun.RunEq Rw (PySem.W.view Rw.prog [10]) hk obH 30000 nms w := fun os => Fz.map3 (runH1 w os) (runH2 w os) (runH3 w os)
end K41
set_option Elab.async false
set_option linter.all false
set_option maxRecDepth 100000
set_option maxHeartbeats 2000000
namespace Fz
open PySem L2
inductive D where
  | non | bl (b : Bool) | int (i : Int) | str (s : Str) | tup (ds : List D) | lst (ds : List D) | obj (c : Nat) (fs : List D) | dct (ks vs : List D) | ext (k : Nat) (ds : List D)
structure Tab where
  K : PySem.W.Frag
  cls : Nat → Addr
  flds : Nat → List Str
  /-- further objects that stand as they are, of values -/
  xo : Nat → Addr → List V → HO
  /-- the world (its hashes of texts) -/
  w : World
  /-- the tables of code objects of the defs that make functions, and the names that those bear -/
  tt : List (Addr × Str) := []
  /-- defs that are handed on as values -/
  gf : Nat → Addr → Prop := fun _ _ => False
def CodeO (c : Addr) (q : Str) : HO := .ext fun h => ∃ (oc : Obj) (vs : Array Value) (t : Tok), h.get? c = some oc ∧ oc.data = .fields vs ∧ vs[1]? = some (.str q t)
def isTb (o : HO) : Prop := (∃ ps, o = .tbl ps) ∨ ∃ c q, o = CodeO c q
structure TbOk (T : Tab) (B F H : Hp) : Prop where
  noF : ∀ a o, F a = some o → ¬ isTb o
  tab : ∀ p ∈ T.tt, B p.1 = none ∧ ∃ ps : Array Value, H p.1 = some (.tbl ps) ∧ TriplesOk ps.toList ∧ ∀ (pos : Pos) (cv : Value), codeAmong pos ps.toList = some cv → ∃ c, cv = .ref c ∧ B c = some (CodeO c p.2)
def Tu (T : Tab) (B : Hp) (a : Addr) (xs : List V) : Prop := B a = some (.tup xs) ∨ ∃ (o : Obj) (its : Array Value) (n : Nat), T.K.lookup a = some o ∧ o.cls = .type "tuple" ∧ o.data = .seq its n ∧ its.size ≤ sizeLine ∧ Vals xs its.toList
theorem Tu.sq {T : Tab} {B : Hp} {a : Addr} {xs : List V} (h : Tu T B a xs) : SqT T.K B a xs := h.elim (fun h => .inl (.inl h)) .inr
def DKey : D → Key → Prop
  | .int i, k => k = .inl i
  | .str s, k => k = .inr s
  | _, _ => False
def DKeys : List D → List Key → Prop
  | [], ks => ks = []
  | d :: ds, ks => ∃ k r, ks = k :: r ∧ DKey d k ∧ DKeys ds r
mutual
def nk : D → Option NestedKey
  | .non => some .none
  | .bl b => some (.num (if b = true then 1 else 0))
  | .int i => some (.num i)
  | .str s => some (.text s)
  | .tup ds => (nks ds).map .tup
  | _ => none
def nks : List D → Option (List NestedKey)
  | [] => some []
  | d :: ds => (nk d).bind fun k => (nks ds).map (k :: ·)
end
inductive KX where
  | v (k : Key) | t (k : NestedKey) (a : Addr)
def KX.hash (w : World) : KX → Int
  | .v k => keyH w k
  | .t k _ => k.hash w
def KX.is : KX → Value → Prop
  | .v k, u => keyIs k u = true
  | .t _ a, u => u = .ref a
def entOk (w : World) (x : KX × V) (e : DictEntry) : Prop := e.hash = x.1.hash w ∧ x.1.is e.key ∧ RelV x.2 e.val
def dG (w : World) (a : Addr) (ep : Nat) (es : List (KX × V)) : HO := .ext fun h => ∃ o e, h.get? a = some o ∧ o.ExactDict ∧ o.data = .dict e ep ∧ Paired (entOk w) es e.toList
def KX.isV : KX → Bool
  | .v _ => true
  | .t _ _ => false
def KX.isT : KX → Bool
  | .t (.tup ks) _ => decide (NestedKey.depth (.tup ks) ≤ 8)
  | _ => false
def KX.nk : KX → NestedKey
  | .v (.inl i) => .num i
  | .v (.inr x) => .text x
  | .t k _ => k
structure DGOk (a : Addr) (es : List (KX × V)) : Prop where
  len : es.length ≤ sizeLine
  sm : (a == sysModules) = false
  nd : (es.map fun e => e.1.nk).Nodup
  kd : (∀ e ∈ es, e.1.isV = true) ∨ ∀ e ∈ es, e.1.isT = true
mutual
def Rep (T : Tab) (B : Hp) : D → V → Prop
  | .non, v => v = .non
  | .bl b, v => v = .bl b
  | .int i, v => v = .int i
  | .str s, v => v = .str s ∧ PyData.strOk s = true
  | .tup ds, v => ∃ a xs, v = .ref a ∧ Tu T B a xs ∧ Reps T B ds xs
  | .lst ds, v => ∃ a xs, v = .ref a ∧ SqL T.K B a xs ∧ Reps T B ds xs
  | .obj c fs, v => ∃ a dx fvs, v = .ref a ∧ B a = some (.ins (T.cls c) dx fvs) ∧ fvs.map (·.1) = T.flds c ∧ Reps T B fs (fvs.map (·.2))
  | .dct ks vs, v => ∃ a ep es, v = .ref a ∧ B a = some (dG T.w a ep es) ∧ DGOk a es ∧ KReps T B ks (es.map (·.1)) ∧ Reps T B vs (es.map (·.2))
  | .ext k ds, v => ∃ a xs, v = .ref a ∧ (B a = some (T.xo k a xs) ∨ (ds = [.bl true] ∧ T.gf k a)) ∧ Reps T B ds xs
def Reps (T : Tab) (B : Hp) : List D → List V → Prop
  | [], xs => xs = []
  | d :: ds, xs => ∃ v r, xs = v :: r ∧ Rep T B d v ∧ Reps T B ds r
def KReps (T : Tab) (B : Hp) : List D → List KX → Prop
  | [], xs => xs = []
  | d :: ds, xs => ∃ x r, xs = x :: r ∧ (match x with
    | .v k => DKey d k
    | .t k a => nk d = some k ∧ Rep T B d (.ref a)) ∧ KReps T B ds r
end
def keyK : D → Bool
  | .int _ => true
  | .str _ => true
  | _ => false
def DctAt (T : Tab) (B H : Hp) (a : Addr) (ks : List D) (xs : List V) : Prop := ∃ ep es, H a = some (dG T.w a ep es) ∧ DGOk a es ∧ KReps T B ks (es.map (·.1)) ∧ xs = es.map (·.2)
theorem rep_dct {T : Tab} {B : Hp} {ks vs : List D} {v : V} : Rep T B (.dct ks vs) v ↔ ∃ a xs, v = .ref a ∧ DctAt T B B a ks xs ∧ Reps T B vs xs := by
  unfold Rep
  constructor
  · rintro ⟨a, ep, es, h1, h2, h3, h4, h5⟩
    exact ⟨a, _, h1, ⟨ep, es, h2, h3, h4, rfl⟩, h5⟩
  · rintro ⟨a, xs, h1, ⟨ep, es, h2, h3, h4, rfl⟩, h5⟩
    exact ⟨a, ep, es, h1, h2, h3, h4, h5⟩
def Ex (H H' : Hp) : Prop := ∀ a o, H a = some o → H' a = some o
theorem Ex.refl (H : Hp) : Ex H H := fun _ _ h => h
theorem Ex.trans {H H1 H2 : Hp} (a : Ex H H1) (b : Ex H1 H2) : Ex H H2 := fun x o h => b x o (a x o h)
theorem Ex.free {H H' : Hp} (e : Ex H H') {l : Addr} (h : H' l = none) : H l = none := by
  cases q : H l with
  | none => rfl
  | some o => rw [e l o q] at h; cases h
theorem Ex.new {H : Hp} {p : Addr} {o : HO} (h : H p = none) : Ex H (upd H p o) := fun a u e => by
  rw [upd_ne (ne_of_none e h)]; exact e
theorem Ex.rd {H H' : Hp} {a : Addr} {u : HO} (e : Ex H H') (h : Rd H a u) : Rd H' a u := h.elim (fun h => .inl (e a _ h)) fun ⟨o, h⟩ => .inr ⟨o, e a _ h⟩
theorem Ex.sqL {K : PySem.W.Frag} {H H' : Hp} {a : Addr} {xs : List V} (e : Ex H H') (h : SqL K H a xs) : SqL K H' a xs := h.elim (fun h => .inl (e.rd h)) .inr
theorem Ex.tu {T : Tab} {H H' : Hp} {a : Addr} {xs : List V} (e : Ex H H') (h : Tu T H a xs) : Tu T H' a xs := h.elim (fun h => .inl (e a _ h)) .inr
mutual
theorem Rep.mono {T : Tab} {B B' : Hp} (e : Ex B B') : ∀ (d : D) {v : V}, Rep T B d v → Rep T B' d v
  | .non, _, h => h
  | .bl _, _, h => h
  | .int _, _, h => h
  | .str _, _, h => h
  | .tup ds, v, h => by
    unfold Rep at h ⊢
    obtain ⟨a, xs, h1, h2, h3⟩ := h
    exact ⟨a, xs, h1, e.tu h2, Reps.mono e ds h3⟩
  | .lst ds, v, h => by
    unfold Rep at h ⊢
    obtain ⟨a, xs, h1, h2, h3⟩ := h
    exact ⟨a, xs, h1, e.sqL h2, Reps.mono e ds h3⟩
  | .obj c fs, v, h => by
    unfold Rep at h ⊢
    obtain ⟨a, dx, fvs, h1, h2, h3, h4⟩ := h
    exact ⟨a, dx, fvs, h1, e a _ h2, h3, Reps.mono e fs h4⟩
  | .dct ks vs, v, h => by
    unfold Rep at h ⊢
    obtain ⟨a, ep, es, h1, h2, h3, h4, h5⟩ := h
    exact ⟨a, ep, es, h1, e a _ h2, h3, KReps.mono e ks h4, Reps.mono e vs h5⟩
  | .ext k ds, v, h => by
    unfold Rep at h ⊢
    obtain ⟨a, xs, h1, h2, h3⟩ := h
    exact ⟨a, xs, h1, h2.imp (e a _) id, Reps.mono e ds h3⟩
theorem Reps.mono {T : Tab} {B B' : Hp} (e : Ex B B') : ∀ (ds : List D) {xs : List V}, Reps T B ds xs → Reps T B' ds xs
  | [], _, h => h
  | d :: ds, xs, h => by
    unfold Reps at h ⊢
    obtain ⟨v, r, h1, h2, h3⟩ := h
    exact ⟨v, r, h1, Rep.mono e d h2, Reps.mono e ds h3⟩
theorem KReps.mono {T : Tab} {B B' : Hp} (e : Ex B B') : ∀ (ds : List D) {xs : List KX}, KReps T B ds xs → KReps T B' ds xs
  | [], _, h => h
  | d :: ds, xs, h => by
    unfold KReps at h ⊢
    obtain ⟨x, r, h1, h2, h3⟩ := h
    refine ⟨x, r, h1, ?_, KReps.mono e ds h3⟩
    cases x with
    | v k => exact h2
    | t k a => exact ⟨h2.1, Rep.mono e d h2.2⟩
end
theorem Reps.length {T : Tab} {B : Hp} : ∀ {ds : List D} {xs : List V}, Reps T B ds xs → ds.length = xs.length
  | [], _, h => by unfold Reps at h; subst h; rfl
  | d :: ds, xs, h => by
    unfold Reps at h
    obtain ⟨v, r, rfl, _, h3⟩ := h
    simp [Reps.length h3]
theorem Reps.get {T : Tab} {B : Hp} : ∀ {ds : List D} {xs : List V} {i : Nat} {d : D}, Reps T B ds xs → ds[i]? = some d → ∃ v, xs[i]? = some v ∧ Rep T B d v
  | [], _, _, _, _, e => by simp at e
  | d :: ds, xs, i, d', h, e => by
    unfold Reps at h
    obtain ⟨v, r, rfl, h2, h3⟩ := h
    cases i with
    | zero => simp at e; subst e; exact ⟨v, rfl, h2⟩
    | succ i =>
      obtain ⟨u, a, b⟩ := Reps.get (i := i) h3 (by simpa using e)
      exact ⟨u, by simpa using a, b⟩
theorem Reps.append {T : Tab} {B : Hp} : ∀ {ds es : List D} {xs ys : List V}, Reps T B ds xs → Reps T B es ys → Reps T B (ds ++ es) (xs ++ ys)
  | [], _, _, _, h, g => by unfold Reps at h; subst h; exact g
  | d :: ds, es, xs, ys, h, g => by
    unfold Reps at h
    obtain ⟨v, r, rfl, h2, h3⟩ := h
    show Reps T B (d :: (ds ++ es)) (v :: (r ++ ys))
    unfold Reps
    exact ⟨v, _, rfl, h2, Reps.append h3 g⟩
theorem Reps.set {T : Tab} {B : Hp} : ∀ {ds : List D} {xs : List V} {i : Nat} {d : D} {v : V}, Reps T B ds xs → Rep T B d v → Reps T B (ds.set i d) (xs.set i v)
  | [], _, _, _, _, h, _ => by unfold Reps at h; subst h; unfold Reps; rfl
  | e :: ds, xs, i, d, v, h, g => by
    unfold Reps at h
    obtain ⟨u, r, rfl, h2, h3⟩ := h
    cases i with
    | zero => show Reps T B (d :: ds) (v :: r); unfold Reps; exact ⟨v, r, rfl, g, h3⟩
    | succ i => show Reps T B (e :: ds.set i d) (u :: r.set i v); unfold Reps; exact ⟨u, _, rfl, h2, Reps.set h3 g⟩
theorem reps_nil {T : Tab} {B : Hp} : Reps T B [] [] := by unfold Reps; rfl
theorem reps_cons {T : Tab} {B : Hp} {d : D} {ds : List D} {v : V} {xs : List V} (h : Rep T B d v) (g : Reps T B ds xs) : Reps T B (d :: ds) (v :: xs) := by unfold Reps; exact ⟨v, xs, rfl, h, g⟩
mutual
def imm : D → Bool
  | .lst _ => false
  | .obj _ _ => false
  | .dct _ _ => false
  | .ext _ _ => false
  | .tup ds => imms ds
  | _ => true
def imms : List D → Bool
  | [] => true
  | d :: ds => imm d && imms ds
end
theorem imm_rep {T : Tab} {B B' : Hp} (e : ∀ a xs, B a = some (.tup xs) → B' a = some (.tup xs)) : ∀ (d : D) {v : V}, imm d = true → Rep T B d v → Rep T B' d v := by
  intro d
  refine D.rec (motive_1 := fun d => ∀ {v : V}, imm d = true → Rep T B d v → Rep T B' d v) (motive_2 := fun ds => ∀ {xs : List V}, imms ds = true → Reps T B ds xs → Reps T B' ds xs) ?_ ?_ ?_ ?_ ?_ ?_ ?_ ?_ ?_ ?_ ?_ d
  · exact fun _ h => h
  · exact fun _ _ _ h => h
  · exact fun _ _ _ h => h
  · exact fun _ _ _ h => h
  · intro ds ih v i h
    unfold Rep at h ⊢
    unfold imm at i
    obtain ⟨a, xs, h1, h2, h3⟩ := h
    exact ⟨a, xs, h1, h2.elim (fun h => .inl (e a _ h)) .inr, ih i h3⟩
  · intro ds _ v i; simp [imm] at i
  · intro c ds _ v i; simp [imm] at i
  · intro c ds _ _ v i; simp [imm] at i
  · intro c ds _ v i; simp [imm] at i
  · exact fun _ h => h
  · intro d ds h1 h2 xs i h
    unfold Reps at h ⊢
    unfold imms at i
    obtain ⟨v, r, e1, e2, e3⟩ := h
    have i' := (Bool.and_eq_true _ _).mp i
    exact ⟨v, r, e1, h1 i'.1 e2, h2 i'.2 e3⟩
inductive R where
  | d (x : D) | ol (xs : List D) | oi (c : Nat) (fs : List D) | od (ks vs : List D)
  | nl (cs : List R) | nt (cs : List R) | ni (c : Nat) (cs : List R) | nd (ks : List D) (cs : List R)
def HeldAt (H : Hp) (a : Addr) (xs : List V) : Prop := H a = some (.lst xs) ∨ H a = some (.tup xs) ∨ (∃ C dx fs, H a = some (.ins C dx fs) ∧ xs = fs.map (·.2)) ∨
  ∃ w ep es, H a = some (dG w a ep es) ∧ xs = es.map (·.2)
def unv : Value → V
  | .none => .non
  | .bool b => .bl b
  | .int i _ => .int i
  | .str x _ => .str x
  | .bytes b _ => .byt b
  | .float b _ => .flt b
  | .ref a => .ref a
  | .type n => .ty n
  | _ => .non
theorem unv_of : ∀ {v : V} {x : Value}, RelV v x → unv x = v
  | .non, _, h => by cases h; rfl
  | .bl _, _, h => by cases h; rfl
  | .int _, _, h => by obtain ⟨t, rfl⟩ := h; rfl
  | .str _, _, h => by obtain ⟨t, rfl⟩ := h; rfl
  | .byt _, _, h => by obtain ⟨t, rfl⟩ := h; rfl
  | .flt _, _, h => by obtain ⟨t, rfl⟩ := h; rfl
  | .ref _, _, h => by cases h; rfl
  | .ty _, _, h => by cases h; rfl
theorem relV_inj {u v : V} {x : Value} (h : RelV u x) (g : RelV v x) : u = v := by rw [← unv_of h, ← unv_of g]
def valOf : V → Value
  | .non => .none
  | .bl b => .bool b
  | .int i => .int i default
  | .str x => .str x default
  | .byt b => .bytes b default
  | .flt b => .float b default
  | .ref a => .ref a
  | .ty n => .type n
theorem valOf_rel : ∀ v : V, RelV v (valOf v)
  | .non => rfl
  | .bl _ => rfl
  | .int _ => ⟨_, rfl⟩
  | .str _ => ⟨_, rfl⟩
  | .byt _ => ⟨_, rfl⟩
  | .flt _ => ⟨_, rfl⟩
  | .ref _ => rfl
  | .ty _ => rfl
def KX.val : KX → Value
  | .v (.inl i) => .int i default
  | .v (.inr x) => .str x default
  | .t _ a => .ref a
theorem KX.val_is : ∀ k : KX, k.is k.val
  | .v (.inl i) => keyIs_int i _
  | .v (.inr x) => keyIs_str x _
  | .t _ _ => rfl
theorem dG_inj {w w' : World} {a : Addr} {ep ep' : Nat} {es es' : List (KX × V)} (h : dG w a ep es = dG w' a ep' es') : es.map (·.2) = es'.map (·.2) := by
  unfold dG at h
  have h := HO.ext.inj h
  let ys : List DictEntry := es.map fun e => ⟨e.1.hash w, e.1.val, valOf e.2⟩
  let ob : Obj := { cls := .type "dict", data := .dict ys.toArray ep }
  let hp : Heap := { objs := Array.replicate (a + 1) ob }
  have hg : hp.get? a = some ob := by
    have : hp.objs[a]? = some ob := by show (Array.replicate (a + 1) ob)[a]? = some ob; simp
    unfold Heap.get?
    rw [this]
  have pr : ∀ es : List (KX × V), Paired (entOk w) es (es.map fun e => (⟨e.1.hash w, e.1.val, valOf e.2⟩ : DictEntry)) := fun es => by
    induction es with
    | nil => exact .nil
    | cons e es ih => exact .cons ⟨rfl, KX.val_is _, valOf_rel _⟩ ih
  have l := congrFun h hp
  obtain ⟨o, e, g1, _, g2, g3⟩ := l.mp ⟨ob, ys.toArray, hg, ⟨rfl, rfl, rfl⟩, rfl, pr es⟩
  rw [hg] at g1
  cases g1
  injection g2 with g2 _
  rw [← g2] at g3
  have g3 : Paired (entOk w') es' ys := g3
  have fin : ∀ {xs xs' : List (KX × V)}, Paired (entOk w') xs' (xs.map fun e => (⟨e.1.hash w, e.1.val, valOf e.2⟩ : DictEntry)) → xs.map (·.2) = xs'.map (·.2) := fun {xs} => by
    induction xs with
    | nil => intro xs' p; cases p; rfl
    | cons x xs ih =>
      intro xs' p
      cases p with
      | cons q r =>
        simp only [List.map_cons, List.cons.injEq]
        exact ⟨relV_inj (valOf_rel _) q.2.2, ih r⟩
  exact fin g3
theorem HeldAt.inj {H : Hp} {a : Addr} {xs ys : List V} (h : HeldAt H a xs) (g : HeldAt H a ys) : xs = ys := by
  rcases h with h | h | ⟨C, dx, fs, h, rfl⟩ | ⟨w, ep, es, h, rfl⟩ <;> rcases g with g | g | ⟨C', dx', fs', g, rfl⟩ | ⟨w', ep', es', g, rfl⟩ <;> rw [h] at g <;> have g := Option.some.inj g <;>
    first | (cases g; rfl) | exact dG_inj g | (unfold dG at g; cases g) | cases g
theorem HeldAt.keep {H H' : Hp} {a : Addr} {xs : List V} (h : HeldAt H a xs) (k : ∀ o, H a = some o → H' a = some o) : HeldAt H' a xs := by
  rcases h with h | h | ⟨C, dx, fs, h, e⟩ | ⟨w, ep, es, h, e⟩
  · exact .inl (k _ h)
  · exact .inr (.inl (k _ h))
  · exact .inr (.inr (.inl ⟨C, dx, fs, k _ h, e⟩))
  · exact .inr (.inr (.inr ⟨w, ep, es, k _ h, e⟩))
theorem HeldAt.some {H : Hp} {a : Addr} {xs : List V} (h : HeldAt H a xs) : ∃ o, H a = some o := by
  rcases h with h | h | ⟨C, dx, fs, h, e⟩ | ⟨w, ep, es, h, e⟩ <;> exact ⟨_, h⟩
mutual
def Ow (H : Hp) : R → V → Addr → Prop
  | .d _, _, _ => False
  | .ol _, v, b => v = .ref b
  | .oi _ _, v, b => v = .ref b
  | .od _ _, v, b => v = .ref b
  | .nl cs, v, b => v = .ref b ∨ ∃ a xs, v = .ref a ∧ HeldAt H a xs ∧ OwL H cs xs b
  | .nt cs, v, b => ∃ a xs, v = .ref a ∧ HeldAt H a xs ∧ OwL H cs xs b
  | .ni _ cs, v, b => v = .ref b ∨ ∃ a xs, v = .ref a ∧ HeldAt H a xs ∧ OwL H cs xs b
  | .nd _ cs, v, b => v = .ref b ∨ ∃ a xs, v = .ref a ∧ HeldAt H a xs ∧ OwL H cs xs b
def OwL (H : Hp) : List R → List V → Addr → Prop
  | [], _, _ => False
  | r :: rs, xs, b => ∃ y t, xs = y :: t ∧ (Ow H r y b ∨ OwL H rs t b)
end
mutual
def RelR (T : Tab) (B H : Hp) : R → V → Prop
  | .d x, v => Rep T B x v
  | .ol xs, v => ∃ a ys, v = .ref a ∧ H a = some (.lst ys) ∧ Reps T B xs ys
  | .oi c fs, v => ∃ a dx fvs, v = .ref a ∧ H a = some (.ins (T.cls c) dx fvs) ∧ fvs.map (·.1) = (T.flds c).take fs.length ∧ Reps T B fs (fvs.map (·.2))
  | .od ks vs, v => ∃ a xs, v = .ref a ∧ DctAt T B H a ks xs ∧ Reps T B vs xs
  | .nl cs, v => ∃ a ys, v = .ref a ∧ H a = some (.lst ys) ∧ RelRs T B H cs ys ∧ ¬ OwL H cs ys a
  | .nt cs, v => ∃ a ys, v = .ref a ∧ (B a = some (.tup ys) ∧ H a = some (.tup ys)) ∧ RelRs T B H cs ys
  | .ni c cs, v => ∃ a dx fvs, v = .ref a ∧ H a = some (.ins (T.cls c) dx fvs) ∧ fvs.map (·.1) = (T.flds c).take cs.length ∧ RelRs T B H cs (fvs.map (·.2)) ∧ ¬ OwL H cs (fvs.map (·.2)) a
  | .nd ks cs, v => ∃ a xs, v = .ref a ∧ DctAt T B H a ks xs ∧ RelRs T B H cs xs ∧ ¬ OwL H cs xs a
def RelRs (T : Tab) (B H : Hp) : List R → List V → Prop
  | [], ys => ys = []
  | r :: rs, ys => ∃ y t, ys = y :: t ∧ RelR T B H r y ∧ RelRs T B H rs t ∧ ∀ b, Ow H r y b → OwL H rs t b → False
end
abbrev Sl := List (Option R)
structure Sim (T : Tab) (st : Sl) (σ : St) (B F H : Hp) : Prop where
  exB : Ex B H
  exF : Ex F H
  dis : ∀ a o, F a = some o → B a = none
  tup : ∀ a xs, H a = some (.tup xs) → B a = some (.tup xs)
  len : st.length = σ.length
  rel : ∀ (i : Nat) r, st[i]? = some (some r) → ∃ v, σ[i]? = some (some v) ∧ RelR T B H r v
  own : ∀ (i : Nat) r v a, st[i]? = some (some r) → σ[i]? = some (some v) → Ow H r v a → B a = none ∧ F a = none
  sep : ∀ (i j : Nat) r q v u a, i ≠ j → st[i]? = some (some r) → σ[i]? = some (some v) → st[j]? = some (some q) → σ[j]? = some (some u) → Ow H r v a → Ow H q u a → False
  tbs : TbOk T B F H
theorem DctAt.held {T : Tab} {B H : Hp} {a : Addr} {ks : List D} {xs : List V} (h : DctAt T B H a ks xs) : HeldAt H a xs := by
  obtain ⟨ep, es, q1, q2, q3, q4⟩ := h
  exact .inr (.inr (.inr ⟨_, ep, es, q1, q4⟩))
theorem DctAt.keep {T : Tab} {B B' H H' : Hp} {a : Addr} {ks : List D} {xs : List V} (h : DctAt T B H a ks xs) (e : Ex B B') (k : ∀ o, H a = some o → H' a = some o) : DctAt T B' H' a ks xs := by
  obtain ⟨ep, es, q1, q2, q3, q4⟩ := h
  exact ⟨ep, es, k _ q1, q2, KReps.mono e ks q3, q4⟩
theorem DctAt.notTup {T : Tab} {B H : Hp} {a : Addr} {ks : List D} {xs : List V} (h : DctAt T B H a ks xs) (ys : List V) : H a ≠ some (.tup ys) := by
  obtain ⟨ep, es, q1, q2, q3, q4⟩ := h
  rw [q1]; unfold dG; intro z; cases z
theorem ex_of {H : Hp} {a : Addr} {o : HO} (h : H a = some o) (n : ∀ xs, o ≠ .tup xs) : (∃ o, H a = some o) ∧ ∀ xs, H a ≠ some (.tup xs) := ⟨⟨o, h⟩, fun xs z => by rw [h] at z; exact n xs (Option.some.inj z)⟩
mutual
theorem RelR.ow {T : Tab} {B H : Hp} : ∀ {r : R} {v : V} {a : Addr}, RelR T B H r v → Ow H r v a → (∃ o, H a = some o) ∧ ∀ xs, H a ≠ some (.tup xs)
  | .d x, v, a, h, o => by unfold Ow at o; exact o.elim
  | .ol xs, v, a, h, o => by unfold RelR at h; unfold Ow at o; obtain ⟨b, ys, h1, h2, _⟩ := h; rw [o] at h1; cases h1; exact ex_of h2 (fun _ z => nomatch z)
  | .oi c fs, v, a, h, o => by unfold RelR at h; unfold Ow at o; obtain ⟨b, dx, fvs, h1, h2, _⟩ := h; rw [o] at h1; cases h1; exact ex_of h2 (fun _ z => nomatch z)
  | .od ks vs, v, a, h, o => by unfold RelR at h; unfold Ow at o; obtain ⟨b, xs, h1, h2, _⟩ := h; rw [o] at h1; cases h1; exact ⟨h2.held.some, h2.notTup⟩
  | .nl cs, v, a, h, o => by
    unfold RelR at h; unfold Ow at o
    obtain ⟨b, ys, h1, h2, h3, _⟩ := h
    rcases o with o | ⟨p, xs, o1, o2, o3⟩
    · rw [o] at h1; cases h1; exact ex_of h2 (fun _ z => nomatch z)
    · rw [h1] at o1; cases o1
      cases (HeldAt.inj (.inl h2) o2)
      exact RelRs.ow h3 o3
  | .nt cs, v, a, h, o => by
    unfold RelR at h; unfold Ow at o
    obtain ⟨b, ys, h1, h2, h3⟩ := h
    obtain ⟨p, xs, o1, o2, o3⟩ := o
    rw [h1] at o1; cases o1
    cases (HeldAt.inj (.inr (.inl h2.2)) o2)
    exact RelRs.ow h3 o3
  | .ni c cs, v, a, h, o => by
    unfold RelR at h; unfold Ow at o
    obtain ⟨b, dx, fvs, h1, h2, _, h3, _⟩ := h
    rcases o with o | ⟨p, xs, o1, o2, o3⟩
    · rw [o] at h1; cases h1; exact ex_of h2 (fun _ z => nomatch z)
    · rw [h1] at o1; cases o1
      cases (HeldAt.inj (.inr (.inr (.inl ⟨_, _, _, h2, rfl⟩))) o2)
      exact RelRs.ow h3 o3
  | .nd ks cs, v, a, h, o => by
    unfold RelR at h; unfold Ow at o
    obtain ⟨b, ys, h1, h2, h3, _⟩ := h
    rcases o with o | ⟨p, xs, o1, o2, o3⟩
    · rw [o] at h1; cases h1; exact ⟨h2.held.some, h2.notTup⟩
    · rw [h1] at o1; cases o1
      cases (HeldAt.inj h2.held o2)
      exact RelRs.ow h3 o3
theorem RelRs.ow {T : Tab} {B H : Hp} : ∀ {rs : List R} {vs : List V} {a : Addr}, RelRs T B H rs vs → OwL H rs vs a → (∃ o, H a = some o) ∧ ∀ xs, H a ≠ some (.tup xs)
  | [], vs, a, h, o => by unfold OwL at o; exact o.elim
  | r :: rs, vs, a, h, o => by
    unfold RelRs at h; unfold OwL at o
    obtain ⟨y, t, h1, h2, h3, _⟩ := h
    obtain ⟨y', t', o1, o2⟩ := o
    rw [h1] at o1; cases o1
    rcases o2 with o2 | o2
    · exact RelR.ow h2 o2
    · exact RelRs.ow h3 o2
end
theorem dG_ntb {w : World} {a : Addr} {ep : Nat} {es : List (KX × V)} : ¬ isTb (dG w a ep es) := by
  rintro (⟨ps, z⟩ | ⟨c, q, z⟩)
  · unfold dG at z; cases z
  · unfold dG CodeO at z
    have h := HO.ext.inj z
    let ys : List DictEntry := es.map fun e => ⟨e.1.hash w, e.1.val, valOf e.2⟩
    let ob : Obj := { cls := .type "dict", data := .dict ys.toArray ep }
    let hp : Heap := { objs := Array.replicate (a + 1) ob }
    have hg : hp.get? a = some ob := by
      have : hp.objs[a]? = some ob := by show (Array.replicate (a + 1) ob)[a]? = some ob; simp
      unfold Heap.get?
      rw [this]
    have pr : ∀ es : List (KX × V), Paired (entOk w) es (es.map fun e => (⟨e.1.hash w, e.1.val, valOf e.2⟩ : DictEntry)) := fun es => by
      induction es with
      | nil => exact .nil
      | cons e es ih => exact .cons ⟨rfl, KX.val_is _, valOf_rel _⟩ ih
    obtain ⟨oc, vs, t, h1, h2, _⟩ := (congrFun h hp).mp ⟨ob, ys.toArray, hg, ⟨rfl, rfl, rfl⟩, rfl, pr es⟩
    have e : oc = ob := by
      unfold Heap.get? at h1
      have : ∀ o, hp.objs[c]? = some o → o = ob := fun o z => by
        have z : (Array.replicate (a + 1) ob)[c]? = some o := z
        rw [Array.getElem?_replicate] at z
        split at z
        · exact (Option.some.inj z).symm
        · cases z
      split at h1
      · cases h1
      · exact this _ h1
    rw [e] at h2
    cases h2
theorem ntb_of {H : Hp} {a : Addr} {o : HO} (h : H a = some o) (n : ¬ isTb o) : ∀ u, H a = some u → ¬ isTb u := fun u z => by rw [h] at z; cases z; exact n
theorem lst_ntb {xs : List V} : ¬ isTb (.lst xs) := by rintro (⟨_, z⟩ | ⟨_, _, z⟩) <;> first | cases z | (unfold CodeO at z; cases z)
theorem tup_ntb {xs : List V} : ¬ isTb (.tup xs) := by rintro (⟨_, z⟩ | ⟨_, _, z⟩) <;> first | cases z | (unfold CodeO at z; cases z)
theorem ins_ntb {C dx : Addr} {xs : List (Str × V)} : ¬ isTb (.ins C dx xs) := by rintro (⟨_, z⟩ | ⟨_, _, z⟩) <;> first | cases z | (unfold CodeO at z; cases z)
mutual
theorem RelR.ntb {T : Tab} {B H : Hp} : ∀ {r : R} {v : V} {a : Addr}, RelR T B H r v → Ow H r v a → ∀ u, H a = some u → ¬ isTb u
  | .d x, v, a, h, o => by unfold Ow at o; exact o.elim
  | .ol xs, v, a, h, o => by unfold RelR at h; unfold Ow at o; obtain ⟨b, ys, h1, h2, _⟩ := h; rw [o] at h1; cases h1; exact ntb_of h2 lst_ntb
  | .oi c fs, v, a, h, o => by unfold RelR at h; unfold Ow at o; obtain ⟨b, dx, fvs, h1, h2, _⟩ := h; rw [o] at h1; cases h1; exact ntb_of h2 ins_ntb
  | .od ks vs, v, a, h, o => by unfold RelR at h; unfold Ow at o; obtain ⟨b, xs, h1, ⟨ep, es, h2, _⟩, _⟩ := h; rw [o] at h1; cases h1; exact ntb_of h2 dG_ntb
  | .nl cs, v, a, h, o => by
    unfold RelR at h; unfold Ow at o
    obtain ⟨b, ys, h1, h2, h3, _⟩ := h
    rcases o with o | ⟨p, xs, o1, o2, o3⟩
    · rw [o] at h1; cases h1; exact ntb_of h2 lst_ntb
    · rw [h1] at o1; cases o1
      cases (HeldAt.inj (.inl h2) o2)
      exact RelRs.ntb h3 o3
  | .nt cs, v, a, h, o => by
    unfold RelR at h; unfold Ow at o
    obtain ⟨b, ys, h1, h2, h3⟩ := h
    obtain ⟨p, xs, o1, o2, o3⟩ := o
    rw [h1] at o1; cases o1
    cases (HeldAt.inj (.inr (.inl h2.2)) o2)
    exact RelRs.ntb h3 o3
  | .ni c cs, v, a, h, o => by
    unfold RelR at h; unfold Ow at o
    obtain ⟨b, dx, fvs, h1, h2, _, h3, _⟩ := h
    rcases o with o | ⟨p, xs, o1, o2, o3⟩
    · rw [o] at h1; cases h1; exact ntb_of h2 ins_ntb
    · rw [h1] at o1; cases o1
      cases (HeldAt.inj (.inr (.inr (.inl ⟨_, _, _, h2, rfl⟩))) o2)
      exact RelRs.ntb h3 o3
  | .nd ks cs, v, a, h, o => by
    unfold RelR at h; unfold Ow at o
    obtain ⟨b, ys, h1, h2, h3, _⟩ := h
    rcases o with o | ⟨p, xs, o1, o2, o3⟩
    · rw [o] at h1; cases h1; obtain ⟨ep, es, h2, _⟩ := h2; exact ntb_of h2 dG_ntb
    · rw [h1] at o1; cases o1
      cases (HeldAt.inj h2.held o2)
      exact RelRs.ntb h3 o3
theorem RelRs.ntb {T : Tab} {B H : Hp} : ∀ {rs : List R} {vs : List V} {a : Addr}, RelRs T B H rs vs → OwL H rs vs a → ∀ u, H a = some u → ¬ isTb u
  | [], vs, a, h, o => by unfold OwL at o; exact o.elim
  | r :: rs, vs, a, h, o => by
    unfold RelRs at h; unfold OwL at o
    obtain ⟨y, t, h1, h2, h3, _⟩ := h
    obtain ⟨y', t', o1, o2⟩ := o
    rw [h1] at o1; cases o1
    rcases o2 with o2 | o2
    · exact RelR.ntb h2 o2
    · exact RelRs.ntb h3 o2
end
theorem Sim.ntb {T : Tab} {st : Sl} {σ : St} {B F H : Hp} (S : Sim T st σ B F H) {i : Nat} {r : R} {v : V} {a : Addr} (h1 : st[i]? = some (some r)) (h2 : σ[i]? = some (some v)) (h3 : Ow H r v a) : ∀ u, H a = some u → ¬ isTb u := by
  obtain ⟨v', h4, h5⟩ := S.rel i r h1
  rw [h2] at h4; cases h4
  exact h5.ntb h3
theorem TbOk.stay {T : Tab} {B F H B' F' H' : Hp} (x : TbOk T B F H) (eB : ∀ a o, B a = some o → B' a = some o) (eH : ∀ a u, H a = some u → isTb u → H' a = some u) (nB : ∀ a u, H a = some u → isTb u → B a = none → B' a = none)
    (nF : ∀ a o, F' a = some o → ¬ isTb o) : TbOk T B' F' H' := ⟨nF, fun p hp => by
  obtain ⟨h1, ps, h3, h4, h5⟩ := x.tab p hp
  exact ⟨nB _ _ h3 (.inl ⟨ps, rfl⟩) h1, ps, eH _ _ h3 (.inl ⟨ps, rfl⟩), h4, fun pos cv hc => let ⟨c, a, b⟩ := h5 pos cv hc; ⟨c, a, eB _ _ b⟩⟩⟩
theorem TbOk.new {T : Tab} {B F H : Hp} (x : TbOk T B F H) {p : Addr} {o : HO} (hp : H p = none) : TbOk T B F (upd H p o) :=
  x.stay (fun _ _ h => h) (fun a ps h _ => by rw [upd_ne (by intro e; subst e; rw [hp] at h; cases h)]; exact h) (fun _ _ _ _ n => n) x.noF
theorem TbOk.upd {T : Tab} {B F H : Hp} (x : TbOk T B F H) {p : Addr} {o : HO} (hp : ∀ u, H p = some u → ¬ isTb u) : TbOk T B F (upd H p o) :=
  x.stay (fun _ _ h => h) (fun a ps h t => by rw [upd_ne (by intro e; subst e; exact hp _ h t)]; exact h) (fun _ _ _ _ n => n) x.noF
def Tk (H H' : Hp) : Prop := ∀ a xs, H a = some (.tup xs) → H' a = some (.tup xs)
theorem Ex.tk {H H' : Hp} (e : Ex H H') : Tk H H' := fun a xs h => e a _ h
theorem Tk.refl (H : Hp) : Tk H H := fun _ _ h => h
mutual
theorem Ow.back {T : Tab} {B H H' : Hp} (tk : Tk H H') : ∀ {r : R} {v : V} {a : Addr}, RelR T B H r v → (∀ p o, Ow H r v p → H p = some o → H' p = some o) → Ow H' r v a → Ow H r v a
  | .d x, v, a, h, k, o => by unfold Ow at o ⊢; exact o
  | .ol xs, v, a, h, k, o => by unfold Ow at o ⊢; exact o
  | .oi c fs, v, a, h, k, o => by unfold Ow at o ⊢; exact o
  | .od ks vs, v, a, h, k, o => by unfold Ow at o ⊢; exact o
  | .nl cs, v, a, h, k, o => by
    unfold RelR at h; unfold Ow at o ⊢
    obtain ⟨b, ys, h1, h2, h3, _⟩ := h
    rcases o with o | ⟨p, xs, o1, o2, o3⟩
    · exact .inl o
    · rw [h1] at o1; cases o1
      have q := k b _ (by unfold Ow; exact .inl h1) h2
      cases (HeldAt.inj (.inl q) o2)
      exact .inr ⟨b, ys, h1, .inl h2, OwL.back tk h3 (fun p o z => k p o (by unfold Ow; exact .inr ⟨b, ys, h1, .inl h2, z⟩)) o3⟩
  | .nt cs, v, a, h, k, o => by
    unfold RelR at h; unfold Ow at o ⊢
    obtain ⟨b, ys, h1, h2, h3⟩ := h
    obtain ⟨p, xs, o1, o2, o3⟩ := o
    rw [h1] at o1; cases o1
    cases (HeldAt.inj (.inr (.inl (tk b _ h2.2))) o2)
    exact ⟨b, ys, h1, .inr (.inl h2.2), OwL.back tk h3 (fun p o z => k p o (by unfold Ow; exact ⟨b, ys, h1, .inr (.inl h2.2), z⟩)) o3⟩
  | .ni c cs, v, a, h, k, o => by
    unfold RelR at h; unfold Ow at o ⊢
    obtain ⟨b, dx, fvs, h1, h2, _, h3, _⟩ := h
    rcases o with o | ⟨p, xs, o1, o2, o3⟩
    · exact .inl o
    · rw [h1] at o1; cases o1
      have q := k b _ (by unfold Ow; exact .inl h1) h2
      cases (HeldAt.inj (.inr (.inr (.inl ⟨_, _, _, q, rfl⟩))) o2)
      exact .inr ⟨b, _, h1, .inr (.inr (.inl ⟨_, _, _, h2, rfl⟩)), OwL.back tk h3 (fun p o z => k p o (by unfold Ow; exact .inr ⟨b, _, h1, .inr (.inr (.inl ⟨_, _, _, h2, rfl⟩)), z⟩)) o3⟩
  | .nd ks cs, v, a, h, k, o => by
    unfold RelR at h; unfold Ow at o ⊢
    obtain ⟨b, ys, h1, h2, h3, _⟩ := h
    rcases o with o | ⟨p, xs, o1, o2, o3⟩
    · exact .inl o
    · rw [h1] at o1; cases o1
      have q := h2.held.keep fun o z => k b o (by unfold Ow; exact .inl h1) z
      cases (HeldAt.inj q o2)
      exact .inr ⟨b, ys, h1, h2.held, OwL.back tk h3 (fun p o z => k p o (by unfold Ow; exact .inr ⟨b, ys, h1, h2.held, z⟩)) o3⟩
theorem OwL.back {T : Tab} {B H H' : Hp} (tk : Tk H H') : ∀ {rs : List R} {vs : List V} {a : Addr}, RelRs T B H rs vs → (∀ p o, OwL H rs vs p → H p = some o → H' p = some o) → OwL H' rs vs a → OwL H rs vs a
  | [], vs, a, h, k, o => by unfold OwL at o ⊢; exact o
  | r :: rs, vs, a, h, k, o => by
    unfold RelRs at h; unfold OwL at o ⊢
    obtain ⟨y, t, h1, h2, h3, _⟩ := h
    obtain ⟨y', t', o1, o2⟩ := o
    rw [h1] at o1; cases o1
    refine ⟨y, t, h1, ?_⟩
    rcases o2 with o2 | o2
    · exact .inl (Ow.back tk h2 (fun p o z => k p o (by unfold OwL; exact ⟨y, t, h1, .inl z⟩)) o2)
    · exact .inr (OwL.back tk h3 (fun p o z => k p o (by unfold OwL; exact ⟨y, t, h1, .inr z⟩)) o2)
end
mutual
theorem RelR.keep {T : Tab} {B B' H H' : Hp} (e : Ex B B') (tk : Tk H H') : ∀ {r : R} {v : V}, RelR T B H r v → (∀ p o, Ow H r v p → H p = some o → H' p = some o) → RelR T B' H' r v
  | .d x, v, h, k => by unfold RelR at h ⊢; exact Rep.mono e x h
  | .ol xs, v, h, k => by unfold RelR at h ⊢; obtain ⟨b, ys, h1, h2, h3⟩ := h; exact ⟨b, ys, h1, k b _ (by unfold Ow; exact h1) h2, Reps.mono e _ h3⟩
  | .oi c fs, v, h, k => by unfold RelR at h ⊢; obtain ⟨b, dx, fvs, h1, h2, h3, h4⟩ := h; exact ⟨b, dx, fvs, h1, k b _ (by unfold Ow; exact h1) h2, h3, Reps.mono e _ h4⟩
  | .od ks vs, v, h, k => by unfold RelR at h ⊢; obtain ⟨b, xs, h1, h2, h3⟩ := h; exact ⟨b, xs, h1, h2.keep e fun o z => k b o (by unfold Ow; exact h1) z, Reps.mono e _ h3⟩
  | .nl cs, v, h, k => by
    unfold RelR at h ⊢
    obtain ⟨b, ys, h1, h2, h3, h4⟩ := h
    have ko : ∀ p o, OwL H cs ys p → H p = some o → H' p = some o := fun p o z => k p o (by unfold Ow; exact .inr ⟨b, ys, h1, .inl h2, z⟩)
    exact ⟨b, ys, h1, k b _ (by unfold Ow; exact .inl h1) h2, RelRs.keep e tk h3 ko, fun z => h4 (OwL.back tk h3 ko z)⟩
  | .nt cs, v, h, k => by
    unfold RelR at h ⊢
    obtain ⟨b, ys, h1, h2, h3⟩ := h
    exact ⟨b, ys, h1, ⟨e b _ h2.1, tk b _ h2.2⟩, RelRs.keep e tk h3 fun p o z => k p o (by unfold Ow; exact ⟨b, ys, h1, .inr (.inl h2.2), z⟩)⟩
  | .ni c cs, v, h, k => by
    unfold RelR at h ⊢
    obtain ⟨b, dx, fvs, h1, h2, h5, h3, h4⟩ := h
    have ko : ∀ p o, OwL H cs (fvs.map (·.2)) p → H p = some o → H' p = some o := fun p o z => k p o (by unfold Ow; exact .inr ⟨b, _, h1, .inr (.inr (.inl ⟨_, _, _, h2, rfl⟩)), z⟩)
    exact ⟨b, dx, fvs, h1, k b _ (by unfold Ow; exact .inl h1) h2, h5, RelRs.keep e tk h3 ko, fun z => h4 (OwL.back tk h3 ko z)⟩
  | .nd ks cs, v, h, k => by
    unfold RelR at h ⊢
    obtain ⟨b, ys, h1, h2, h3, h4⟩ := h
    have ko : ∀ p o, OwL H cs ys p → H p = some o → H' p = some o := fun p o z => k p o (by unfold Ow; exact .inr ⟨b, ys, h1, h2.held, z⟩)
    exact ⟨b, ys, h1, h2.keep e fun o z => k b o (by unfold Ow; exact .inl h1) z, RelRs.keep e tk h3 ko, fun z => h4 (OwL.back tk h3 ko z)⟩
theorem RelRs.keep {T : Tab} {B B' H H' : Hp} (e : Ex B B') (tk : Tk H H') : ∀ {rs : List R} {vs : List V}, RelRs T B H rs vs → (∀ p o, OwL H rs vs p → H p = some o → H' p = some o) → RelRs T B' H' rs vs
  | [], vs, h, k => by unfold RelRs at h ⊢; exact h
  | r :: rs, vs, h, k => by
    unfold RelRs at h ⊢
    obtain ⟨y, t, h1, h2, h3, h4⟩ := h
    have k1 : ∀ p o, Ow H r y p → H p = some o → H' p = some o := fun p o z => k p o (by unfold OwL; exact ⟨y, t, h1, .inl z⟩)
    have k2 : ∀ p o, OwL H rs t p → H p = some o → H' p = some o := fun p o z => k p o (by unfold OwL; exact ⟨y, t, h1, .inr z⟩)
    exact ⟨y, t, h1, RelR.keep e tk h2 k1, RelRs.keep e tk h3 k2, fun b z1 z2 => h4 b (Ow.back tk h2 k1 z1) (OwL.back tk h3 k2 z2)⟩
end
structure Ext (B H B' H' : Hp) : Prop where
  b : Ex B B'
  h : Ex H H'
  bh : Ex B' H'
  new : ∀ a o, B' a = some o → B a = some o ∨ H a = none
  tup : ∀ a xs, H' a = some (.tup xs) → H a = some (.tup xs) ∨ B' a = some (.tup xs)
theorem Ext.refl {B H : Hp} (e : Ex B H) : Ext B H B H := ⟨.refl _, .refl _, e, fun _ _ h => .inl h, fun _ _ h => .inl h⟩
theorem Sim.ext {T : Tab} {st : Sl} {σ : St} {B F H B' H' : Hp} (S : Sim T st σ B F H) (e : Ext B H B' H') : Sim T st σ B' F H' := by
  have back : ∀ (i : Nat) r v a, st[i]? = some (some r) → σ[i]? = some (some v) → Ow H' r v a → Ow H r v a := fun i r v a h1 h2 o => by
    obtain ⟨v', h4, h5⟩ := S.rel i r h1
    rw [h2] at h4; cases h4
    exact Ow.back e.h.tk h5 (fun p o _ q => e.h p o q) o
  exact {
    exB := e.bh
    exF := S.exF.trans e.h
    dis := fun a o h => by
      cases q : B' a with
      | none => rfl
      | some u =>
        rcases e.new a u q with z | z
        · rw [S.dis a o h] at z; cases z
        · rw [S.exF a o h] at z; cases z
    tup := fun a xs h => by
      rcases e.tup a xs h with z | z
      · exact e.b a _ (S.tup a xs z)
      · exact z
    len := S.len
    rel := fun i r h => by
      obtain ⟨v, h1, h2⟩ := S.rel i r h
      exact ⟨v, h1, h2.keep e.b e.h.tk fun a o _ z => e.h a o z⟩
    own := fun i r v a h1 h2 h3 => by
      have h3 := back i r v a h1 h2 h3
      obtain ⟨z1, z2⟩ := S.own i r v a h1 h2 h3
      refine ⟨?_, z2⟩
      obtain ⟨v', h4, h5⟩ := S.rel i r h1
      rw [h2] at h4; cases h4
      obtain ⟨⟨o, h6⟩, _⟩ := h5.ow h3
      cases q : B' a with
      | none => rfl
      | some u =>
        rcases e.new a u q with z | z
        · rw [z1] at z; cases z
        · rw [h6] at z; cases z
    sep := fun i j r q v u a n h1 h2 h3 h4 h5 h6 => S.sep i j r q v u a n h1 h2 h3 h4 (back i r v a h1 h2 h5) (back j q u a h3 h4 h6)
    tbs := S.tbs.stay e.b (fun a ps h _ => e.h a _ h) (fun a ps h _ n => by
      cases q : B' a with
      | none => rfl
      | some u =>
        rcases e.new a u q with z | z
        · rw [n] at z; cases z
        · rw [h] at z; cases z) S.tbs.noF }
theorem Ext.newT {B H : Hp} {p : Addr} {o : HO} (e : Ex B H) (h : H p = none) : Ext B H (upd B p o) (upd H p o) := by
  refine ⟨.new (e.free h), .new h, fun a u q => ?_, fun a u q => ?_, fun a xs q => ?_⟩
  · by_cases z : a = p
    · subst z; rw [upd_same] at q ⊢; exact q
    · rw [upd_ne z] at q ⊢; exact e a u q
  · by_cases z : a = p
    · subst z; exact .inr h
    · rw [upd_ne z] at q; exact .inl q
  · by_cases z : a = p
    · subst z; rw [upd_same] at q ⊢; exact .inr q
    · rw [upd_ne z] at q; exact .inl q
end Fz
set_option Elab.async false
set_option linter.all false
set_option maxRecDepth 100000
set_option maxHeartbeats 2000000
namespace Fz
open PySem L2
inductive Oc (α : Type) where
  | v (a : α) | x (c : Nat)
abbrev DN := { d : Option Addr // d = none }
abbrev M (α : Type) := Sl → Option (Oc α × Sl)
def ret {α : Type} (a : α) : M α := fun st => some (.v a, st)
def bnd {α β : Type} (m : M α) (k : α → M β) : M β := fun st => match m st with
  | none => none
  | some (.x c, s) => some (.x c, s)
  | some (.v a, s) => k a s
def opt {α : Type} (o : Option α) : M α := fun st => match o with
  | none => none
  | some a => some (.v a, st)
variable (T : Tab)
section
variable (E : XK)
def Okx {α : Type} (o : Oc α) (st : Sl) (σ : St) (B F : Hp) (Q : α → Hp → Hp → Prop) : Prop := match o with
  | .v a => ∀ B' H', Ex B B' → Sim T st σ B' F H' → Q a B' H'
  | .x c => ∀ (d : DN) B' H', Ex B B' → Sim T st σ B' F H' → E (.ref (T.cls c)) d.1 H'
def Okr (o : Oc R) (st : Sl) (σ : St) (B F : Hp) (Q : V → Hp → Hp → Prop) : Prop := match o with
  | .v r => ∀ v B' H', Ex B B' → Sim T (some r :: st) (some v :: σ) B' F H' → Q v B' H'
  | .x c => ∀ (d : DN) B' H', Ex B B' → Sim T st σ B' F H' → E (.ref (T.cls c)) d.1 H'
end
variable (E : L2.St → XK)
def SemE (te : TE) (f : M D) : Prop := ∀ st σ B F H, Sim T st σ B F H → ∀ o s, f st = some (o, s) → ∀ Q : VK, Okx T (E σ) o s σ B F (fun x B' H' => ∀ v, Rep T B' x v → Q v H') → te σ H Q
def SemT (tt : TT) (f : M Bool) : Prop := ∀ st σ B F H, Sim T st σ B F H → ∀ o s, f st = some (o, s) → ∀ Q : Bool → Hp → Prop, Okx T (E σ) o s σ B F (fun b _ H' => Q b H') → tt σ H Q
def SemA (ta : TA) (f : M (List D)) : Prop := ∀ st σ B F H, Sim T st σ B F H → ∀ o s, f st = some (o, s) → ∀ Q : List V → Hp → Prop, Okx T (E σ) o s σ B F (fun xs B' H' => ∀ vs, Reps T B' xs vs → Q vs H') → ta σ H Q
def SemR (te : TE) (f : M R) : Prop := ∀ st σ B F H, Sim T st σ B F H → ∀ o s, f st = some (o, s) → ∀ Q : VK, Okr T (E σ) o s σ B F (fun v _ H' => Q v H') → te σ H Q
section
variable {T : Tab} {E : XK} {st : Sl} {σ : St} {B F H B' H' : Hp}
theorem Sim.push (S : Sim T st σ B F H) {x : D} {v : V} (r : Rep T B x v) : Sim T (some (.d x) :: st) (some v :: σ) B F H where
  exB := S.exB
  exF := S.exF
  dis := S.dis
  tup := S.tup
  len := by simp [S.len]
  rel := fun i q h => by
    cases i with
    | zero => simp at h; subst h; exact ⟨v, rfl, r⟩
    | succ i => obtain ⟨u, a, b⟩ := S.rel i q (by simpa using h); exact ⟨u, by simpa using a, b⟩
  own := fun i q u a h1 h2 h3 => by
    cases i with
    | zero => simp at h1; subst h1; exact h3.elim
    | succ i => exact S.own i q u a (by simpa using h1) (by simpa using h2) h3
  sep := fun i j q p u w a n h1 h2 h3 h4 h5 h6 => by
    cases i with
    | zero => simp at h1; subst h1; exact h5.elim
    | succ i =>
      cases j with
      | zero => simp at h3; subst h3; exact h6.elim
      | succ j => exact S.sep i j q p u w a (by omega) (by simpa using h1) (by simpa using h2) (by simpa using h3) (by simpa using h4) h5 h6
  tbs := S.tbs
theorem Sim.pop {s : Option R} {v : Option V} (S : Sim T (s :: st) (v :: σ) B F H) : Sim T st σ B F H where
  exB := S.exB
  exF := S.exF
  dis := S.dis
  tup := S.tup
  len := by have := S.len; simpa using this
  rel := fun i q h => by obtain ⟨u, a, b⟩ := S.rel (i + 1) q (by simpa using h); exact ⟨u, by simpa using a, b⟩
  own := fun i q u a h1 h2 h3 => S.own (i + 1) q u a (by simpa using h1) (by simpa using h2) h3
  sep := fun i j q p u w a n h1 h2 h3 h4 h5 h6 => S.sep (i + 1) (j + 1) q p u w a (by omega) (by simpa using h1) (by simpa using h2) (by simpa using h3) (by simpa using h4) h5 h6
  tbs := S.tbs
theorem Sim.top {r : R} {v : V} (S : Sim T (some r :: st) (some v :: σ) B F H) : RelR T B H r v := by
  obtain ⟨u, a, b⟩ := S.rel 0 r rfl
  cases a; exact b
theorem relR_od {B H : Hp} {p : Addr} {ks vs : List D} {xs : List V} (h : DctAt T B H p ks xs) (r : Reps T B vs xs) : RelR T B H (.od ks vs) (.ref p) := by
  unfold RelR; exact ⟨p, _, rfl, h, r⟩
theorem Sim.forget (S : Sim T st σ B F H) (i : Nat) : Sim T (st.set i none) σ B F H where
  exB := S.exB
  exF := S.exF
  dis := S.dis
  tup := S.tup
  len := by simp [S.len]
  rel := fun j q h => by
    rw [List.getElem?_set] at h
    split at h
    · split at h <;> simp at h
    · exact S.rel j q h
  own := fun j q u a h1 h2 h3 => by
    rw [List.getElem?_set] at h1
    split at h1
    · split at h1 <;> simp at h1
    · exact S.own j q u a h1 h2 h3
  sep := fun j k q p u w a n h1 h2 h3 h4 h5 h6 => by
    rw [List.getElem?_set] at h1 h3
    split at h1
    · split at h1 <;> simp at h1
    · split at h3
      · split at h3 <;> simp at h3
      · exact S.sep j k q p u w a n h1 h2 h3 h4 h5 h6
  tbs := S.tbs
theorem Sim.store {r : R} {v : V} (S : Sim T (some r :: st) (some v :: σ) B F H) (i : Nat) : Sim T (st.set i (some r)) (σ.set i (some v)) B F H := by
  have S' := S.pop
  have ln := S'.len
  refine ⟨S.exB, S.exF, S.dis, S.tup, by simp [ln], fun j q h => ?_, fun j q u a h1 h2 h3 => ?_, fun j k q p u w a n h1 h2 h3 h4 h5 h6 => ?_, S.tbs⟩
  · rw [List.getElem?_set] at h
    by_cases e : i = j
    · subst e
      rw [if_pos rfl] at h
      split at h
      · cases h
        refine ⟨v, ?_, S.top⟩
        rw [List.getElem?_set_self (by omega)]
      · cases h
    · rw [if_neg e] at h
      obtain ⟨u, a, b⟩ := S'.rel j q h
      exact ⟨u, by rw [List.getElem?_set_ne e]; exact a, b⟩
  · rw [List.getElem?_set] at h1 h2
    by_cases e : i = j
    · subst e
      rw [if_pos rfl] at h1 h2
      split at h1
      · cases h1
        rw [if_pos (by omega)] at h2
        cases h2
        exact S.own 0 r v a rfl rfl h3
      · cases h1
    · rw [if_neg e] at h1 h2
      exact S'.own j q u a h1 h2 h3
  · rw [List.getElem?_set] at h1 h2 h3 h4
    by_cases e : i = j
    · subst e
      rw [if_pos rfl] at h1 h2
      rw [if_neg n] at h3 h4
      split at h1
      · cases h1
        rw [if_pos (by omega)] at h2
        cases h2
        exact S.sep 0 (k + 1) r p v w a (by omega) rfl rfl (by simpa using h3) (by simpa using h4) h5 h6
      · cases h1
    · rw [if_neg e] at h1 h2
      by_cases e' : i = k
      · subst e'
        rw [if_pos rfl] at h3 h4
        split at h3
        · cases h3
          rw [if_pos (by omega)] at h4
          cases h4
          exact S.sep (j + 1) 0 q r u v a (by omega) (by simpa using h1) (by simpa using h2) rfl rfl h5 h6
        · cases h3
      · rw [if_neg e'] at h3 h4
        exact S'.sep j k q p u w a n h1 h2 h3 h4 h5 h6
mutual
def vw : R → D
  | .d x => x
  | .ol xs => .lst xs
  | .oi c fs => .obj c fs
  | .od ks vs => .dct ks vs
  | .nl cs => .lst (vwL cs)
  | .nt cs => .tup (vwL cs)
  | .ni c cs => .obj c (vwL cs)
  | .nd ks cs => .dct ks (vwL cs)
def vwL : List R → List D
  | [] => []
  | r :: rs => vw r :: vwL rs
end
mutual
def whole (T : Tab) : R → Prop
  | .oi c fs => fs.length = (T.flds c).length
  | .nl cs => wholeL T cs
  | .nt cs => wholeL T cs
  | .ni c cs => cs.length = (T.flds c).length ∧ wholeL T cs
  | .nd _ cs => wholeL T cs
  | _ => True
def wholeL (T : Tab) : List R → Prop
  | [] => True
  | r :: rs => whole T r ∧ wholeL T rs
end
noncomputable def addS (B H : Hp) (S : Addr → Prop) : Hp := fun b => by classical exact if S b then H b else B b
theorem addS_in {B H : Hp} {S : Addr → Prop} {b : Addr} (h : S b) : addS B H S b = H b := by unfold addS; exact if_pos h
theorem addS_out {B H : Hp} {S : Addr → Prop} {b : Addr} (h : ¬ S b) : addS B H S b = B b := by unfold addS; exact if_neg h
theorem addS_ex {B H : Hp} {S : Addr → Prop} (hb : ∀ a, S a → B a = none) : Ex B (addS B H S) := fun b o h => by
  by_cases q : S b
  · rw [hb b q] at h; cases h
  · rw [addS_out q]; exact h
theorem Ow.self {r : R} {v : V} {b : Addr} (h : v = .ref b) (n : (∀ x, r ≠ .d x) ∧ ∀ cs, r ≠ .nt cs) : Ow H r v b := by
  cases r <;> unfold Ow <;> first | exact h | exact .inl h | exact (n.1 _ rfl).elim | exact (n.2 _ rfl).elim
mutual
theorem repR {S : Addr → Prop} (e : Ex B (addS B H S)) : ∀ {r : R} {v : V}, RelR T B H r v → (∀ b, Ow H r v b → S b) → whole T r → Rep T (addS B H S) (vw r) v
  | .d x, v, h, k, w => by unfold RelR at h; exact Rep.mono e x h
  | .ol xs, v, h, k, w => by
    unfold RelR at h; obtain ⟨b, ys, h1, h2, h3⟩ := h
    unfold vw; unfold Rep
    exact ⟨b, ys, h1, .inl (.inl (by rw [addS_in (k b (by unfold Ow; exact h1))]; exact h2)), Reps.mono e _ h3⟩
  | .oi c fs, v, h, k, w => by
    unfold RelR at h; obtain ⟨b, dx, fvs, h1, h2, h3, h4⟩ := h
    unfold vw; unfold Rep
    unfold whole at w
    exact ⟨b, dx, fvs, h1, by rw [addS_in (k b (by unfold Ow; exact h1))]; exact h2, by rw [h3, w, List.take_length], Reps.mono e _ h4⟩
  | .od ks vs, v, h, k, w => by
    unfold RelR at h; obtain ⟨b, xs, h1, h2, h4⟩ := h
    unfold vw; rw [rep_dct]
    exact ⟨b, xs, h1, h2.keep e fun o z => by rw [addS_in (k b (by unfold Ow; exact h1))]; exact z, Reps.mono e _ h4⟩
  | .nl cs, v, h, k, w => by
    unfold RelR at h; obtain ⟨b, ys, h1, h2, h3, _⟩ := h
    unfold vw; unfold Rep
    unfold whole at w
    exact ⟨b, ys, h1, .inl (.inl (by rw [addS_in (k b (by unfold Ow; exact .inl h1))]; exact h2)), repRs e h3 (fun p z => k p (by unfold Ow; exact .inr ⟨b, ys, h1, .inl h2, z⟩)) w⟩
  | .nt cs, v, h, k, w => by
    unfold RelR at h; obtain ⟨b, ys, h1, h2, h3⟩ := h
    unfold vw; unfold Rep
    unfold whole at w
    exact ⟨b, ys, h1, .inl (e b _ h2.1), repRs e h3 (fun p z => k p (by unfold Ow; exact ⟨b, ys, h1, .inr (.inl h2.2), z⟩)) w⟩
  | .ni c cs, v, h, k, w => by
    unfold RelR at h; obtain ⟨b, dx, fvs, h1, h2, h5, h3, _⟩ := h
    unfold vw; unfold Rep
    unfold whole at w
    exact ⟨b, dx, fvs, h1, by rw [addS_in (k b (by unfold Ow; exact .inl h1))]; exact h2, by rw [h5, w.1, List.take_length], repRs e h3 (fun p z => k p (by unfold Ow; exact .inr ⟨b, _, h1, .inr (.inr (.inl ⟨_, _, _, h2, rfl⟩)), z⟩)) w.2⟩
  | .nd ks cs, v, h, k, w => by
    unfold RelR at h; obtain ⟨b, xs, h1, h2, h3, _⟩ := h
    unfold vw; rw [rep_dct]
    unfold whole at w
    exact ⟨b, xs, h1, h2.keep e fun o z => by rw [addS_in (k b (by unfold Ow; exact .inl h1))]; exact z, repRs e h3 (fun p z => k p (by unfold Ow; exact .inr ⟨b, xs, h1, h2.held, z⟩)) w⟩
theorem repRs {S : Addr → Prop} (e : Ex B (addS B H S)) : ∀ {rs : List R} {vs : List V}, RelRs T B H rs vs → (∀ b, OwL H rs vs b → S b) → wholeL T rs → Reps T (addS B H S) (vwL rs) vs
  | [], vs, h, k, w => by unfold RelRs at h; unfold vwL; unfold Reps; exact h
  | r :: rs, vs, h, k, w => by
    unfold RelRs at h; obtain ⟨y, t, h1, h2, h3, _⟩ := h
    unfold vwL; unfold Reps
    unfold wholeL at w
    exact ⟨y, t, h1, repR e h2 (fun b z => k b (by unfold OwL; exact ⟨y, t, h1, .inl z⟩)) w.1, repRs e h3 (fun b z => k b (by unfold OwL; exact ⟨y, t, h1, .inr z⟩)) w.2⟩
end
theorem relR_vw {r : R} {v : V} (h : RelR T B H r v) (w : whole T r) (e : Ex B (addS B H (Ow H r v))) : Rep T (addS B H (Ow H r v)) (vw r) v := repR e h (fun _ z => z) w
theorem Sim.freeze (S : Sim T st σ B F H) {i : Nat} {r : R} (h : st[i]? = some (some r)) (w : whole T r) :
    ∃ B', Ex B B' ∧ Sim T (st.set i (some (.d (vw r)))) σ B' F H ∧ ∀ v, σ[i]? = some (some v) → Rep T B' (vw r) v := by
  obtain ⟨v, hv, rel⟩ := S.rel i r h
  have e : Ex B (addS B H (Ow H r v)) := addS_ex fun a o => (S.own i r v a h hv o).1
  have rp := relR_vw rel w e
  refine ⟨addS B H (Ow H r v), e, ⟨fun b o q => ?_, S.exF, fun b o q => ?_, fun b xs q => ?_, by simp [S.len], fun j q hj => ?_, fun j q u b h1 h2 h3 => ?_, fun j k q p u w' b n h1 h2 h3 h4 h5 h6 => ?_, S.tbs.stay e (fun _ _ z _ => z) (fun a ps z t n => by rw [addS_out (fun o => S.ntb h hv o _ z t)]; exact n) S.tbs.noF⟩, fun v' hv' => ?_⟩
  · by_cases z : Ow H r v b
    · rw [addS_in z] at q; exact q
    · rw [addS_out z] at q; exact S.exB b o q
  · by_cases z : Ow H r v b
    · rw [(S.own i r v b h hv z).2] at q; cases q
    · rw [addS_out z]; exact S.dis b o q
  · exact e b _ (S.tup b xs q)
  · rw [List.getElem?_set] at hj
    by_cases z : i = j
    · subst z
      rw [if_pos rfl] at hj
      split at hj
      · cases hj; exact ⟨v, hv, by unfold RelR; exact rp⟩
      · cases hj
    · rw [if_neg z] at hj
      obtain ⟨u, h1, h2⟩ := S.rel j q hj
      exact ⟨u, h1, h2.keep e (Tk.refl H) fun _ _ _ q => q⟩
  · rw [List.getElem?_set] at h1
    by_cases z : i = j
    · subst z
      rw [if_pos rfl] at h1
      split at h1
      · cases h1; exact h3.elim
      · cases h1
    · rw [if_neg z] at h1
      obtain ⟨y1, y2⟩ := S.own j q u b h1 h2 h3
      refine ⟨?_, y2⟩
      by_cases y : Ow H r v b
      · exact (S.sep i j r q v u b z h hv h1 h2 y h3).elim
      · rw [addS_out y]; exact y1
  · rw [List.getElem?_set] at h1 h3
    by_cases z : i = j
    · subst z
      rw [if_pos rfl] at h1
      split at h1
      · cases h1; exact h5.elim
      · cases h1
    · rw [if_neg z] at h1
      by_cases z' : i = k
      · subst z'
        rw [if_pos rfl] at h3
        split at h3
        · cases h3; exact h6.elim
        · cases h3
      · rw [if_neg z'] at h3
        exact S.sep j k q p u w' b n h1 h2 h3 h4 h5 h6
  · rw [hv] at hv'; cases hv'; exact rp
theorem Sim.freezeTop {r : R} {v : V} (S : Sim T (some r :: st) (some v :: σ) B F H) (w : whole T r) : ∃ B', Ex B B' ∧ Sim T st σ B' F H ∧ Rep T B' (vw r) v := by
  obtain ⟨B', e, S', h⟩ := S.freeze (i := 0) rfl w
  exact ⟨B', e, Sim.pop (show Sim T (some (.d (vw r)) :: st) (some v :: σ) B' F H from S'), h v rfl⟩
theorem Sim.alloc (S : Sim T st σ B F H) {p : Addr} {o : HO} {r : R} (hp : H p = none) (nt : ∀ xs, o ≠ .tup xs) (hr : RelR T B (upd H p o) r (.ref p)) (ho : ∀ a, Ow (upd H p o) r (.ref p) a → a = p := by intro a h; exact (V.ref.inj h).symm) : Sim T (some r :: st) (some (.ref p) :: σ) B F (upd H p o) := by
  have back : ∀ (i : Nat) q v a, st[i]? = some (some q) → σ[i]? = some (some v) → Ow (upd H p o) q v a → Ow H q v a := fun i q v a h1 h2 z => by
    obtain ⟨v', h4, h5⟩ := S.rel i q h1
    rw [h2] at h4; cases h4
    exact Ow.back (Ex.new hp).tk h5 (fun b u _ e => (Ex.new hp) b u e) z
  have no : ∀ (k : Nat) y x, st[k]? = some (some y) → σ[k]? = some (some x) → Ow H y x p → False := fun k y x g1 g2 g3 => by
    obtain ⟨u', a', b'⟩ := S.rel k y g1
    rw [g2] at a'; cases a'
    obtain ⟨⟨o', h'⟩, _⟩ := b'.ow g3
    rw [hp] at h'; cases h'
  refine ⟨S.exB.trans (.new hp), S.exF.trans (.new hp), S.dis, fun a xs q => ?_, by simp [S.len], fun i q h => ?_, fun i q u a h1 h2 h3 => ?_, fun i j q t u w a n h1 h2 h3 h4 h5 h6 => ?_, S.tbs.new hp⟩
  · by_cases z : a = p
    · subst z; rw [upd_same] at q; cases q; exact (nt xs rfl).elim
    · rw [upd_ne z] at q; exact S.tup a xs q
  · cases i with
    | zero => simp at h; subst h; exact ⟨_, rfl, hr⟩
    | succ i =>
      obtain ⟨u, a, b⟩ := S.rel i q (by simpa using h)
      exact ⟨u, by simpa using a, b.keep (.refl B) (Ex.new hp).tk fun a o _ z => (Ex.new hp) a o z⟩
  · cases i with
    | zero =>
      simp at h1 h2; subst h1; subst h2
      have e := ho a h3
      subst e
      exact ⟨S.exB.free hp, S.exF.free hp⟩
    | succ i =>
      have h1 : st[i]? = some (some q) := by simpa using h1
      have h2 : σ[i]? = some (some u) := by simpa using h2
      exact S.own i q u a h1 h2 (back i q u a h1 h2 h3)
  · cases i with
    | zero =>
      simp at h1 h2; subst h1; subst h2
      have e := ho a h5
      subst e
      cases j with
      | zero => exact n rfl
      | succ j =>
        have h3 : st[j]? = some (some t) := by simpa using h3
        have h4 : σ[j]? = some (some w) := by simpa using h4
        exact no j t w h3 h4 (back j t w _ h3 h4 h6)
    | succ i =>
      have h1 : st[i]? = some (some q) := by simpa using h1
      have h2 : σ[i]? = some (some u) := by simpa using h2
      cases j with
      | zero =>
        simp at h3 h4; subst h3; subst h4
        have e := ho a h6
        subst e
        exact no i q u h1 h2 (back i q u _ h1 h2 h5)
      | succ j =>
        have h3 : st[j]? = some (some t) := by simpa using h3
        have h4 : σ[j]? = some (some w) := by simpa using h4
        exact S.sep i j q t u w a (by omega) h1 h2 h3 h4 (back i q u a h1 h2 h5) (back j t w a h3 h4 h6)
theorem Sim.change2 {q : R} {u : V} (S : Sim T (some q :: st) (some u :: σ) B F H) {i : Nat} {r r' : R} {v : V} {a : Addr} {o : HO} (h : st[i]? = some (some r)) (hv : σ[i]? = some (some v)) (ho : Ow H r v a) (nt : ∀ xs, o ≠ .tup xs)
    (hr : RelR T B (upd H a o) r' v) (hb : ∀ b, Ow (upd H a o) r' v b → Ow H r v b ∨ Ow H q u b) : Sim T (st.set i (some r')) σ B F (upd H a o) := by
  have S' := S.pop
  obtain ⟨ba, fa⟩ := S'.own i r v a h hv ho
  obtain ⟨vr, hvr, relr⟩ := S'.rel i r h
  rw [hv] at hvr; cases hvr
  have tk : Tk H (upd H a o) := fun b xs z => by
    rw [upd_ne (by intro e; subst e; exact (relr.ow ho).2 xs z)]; exact z
  have other : ∀ j q u, i ≠ j → st[j]? = some (some q) → σ[j]? = some (some u) → ∀ b, Ow H q u b → b ≠ a := fun j q u n g1 g2 b g3 e => by
    subst e; exact S'.sep i j r q v u b n h hv g1 g2 ho g3
  have back : ∀ j q u, i ≠ j → st[j]? = some (some q) → σ[j]? = some (some u) → ∀ b, Ow (upd H a o) q u b → Ow H q u b := fun j q u n g1 g2 b g3 => by
    obtain ⟨v', h4, h5⟩ := S'.rel j q g1
    rw [g2] at h4; cases h4
    exact Ow.back tk h5 (fun p w g4 g5 => by rw [upd_ne (other j q u n g1 g2 p g4)]; exact g5) g3
  have ln := S'.len
  have two : ∀ j p w b, i ≠ j → st[j]? = some (some p) → σ[j]? = some (some w) → Ow (upd H a o) r' v b → Ow H p w b → False := fun j p w b n g1 g2 g3 g4 => by
    rcases hb b g3 with z | z
    · exact S'.sep i j r p v w b n h hv g1 g2 z g4
    · exact S.sep 0 (j + 1) q p u w b (by omega) rfl rfl (by simpa using g1) (by simpa using g2) z g4
  refine ⟨fun b u q => ?_, fun b u q => ?_, S'.dis, fun b xs q => ?_, by simp [ln], fun j q hj => ?_, fun j p w b h1 h2 h3 => ?_, fun j k q p u w b n h1 h2 h3 h4 h5 h6 => ?_, S'.tbs.upd (S'.ntb h hv ho)⟩
  · rw [upd_ne (by intro e; subst e; rw [ba] at q; cases q)]; exact S'.exB b u q
  · rw [upd_ne (by intro e; subst e; rw [fa] at q; cases q)]; exact S'.exF b u q
  · by_cases z : b = a
    · subst z; rw [upd_same] at q; cases q; exact (nt xs rfl).elim
    · rw [upd_ne z] at q; exact S'.tup b xs q
  · rw [List.getElem?_set] at hj
    by_cases z : i = j
    · subst z
      rw [if_pos rfl] at hj
      split at hj
      · cases hj; exact ⟨v, hv, hr⟩
      · cases hj
    · rw [if_neg z] at hj
      obtain ⟨u, h1, h2⟩ := S'.rel j q hj
      exact ⟨u, h1, h2.keep (.refl B) tk fun b ob g1 g2 => by rw [upd_ne (other j q u z hj h1 b g1)]; exact g2⟩
  · rw [List.getElem?_set] at h1
    by_cases z : i = j
    · subst z
      rw [if_pos rfl] at h1
      split at h1
      · cases h1
        rw [hv] at h2; cases h2
        rcases hb b h3 with z | z
        · exact S'.own i r v b h hv z
        · exact S.own 0 q u b rfl rfl z
      · cases h1
    · rw [if_neg z] at h1
      exact S'.own j p w b h1 h2 (back j p w z h1 h2 b h3)
  · rw [List.getElem?_set] at h1 h3
    by_cases z : i = j
    · subst z
      rw [if_pos rfl] at h1
      rw [if_neg n] at h3
      split at h1
      · cases h1
        rw [hv] at h2; cases h2
        exact two k p w b n h3 h4 h5 (back k p w n h3 h4 b h6)
      · cases h1
    · rw [if_neg z] at h1
      by_cases z' : i = k
      · subst z'
        rw [if_pos rfl] at h3
        split at h3
        · cases h3
          rw [hv] at h4; cases h4
          exact two j q u b z h1 h2 h6 (back j q u z h1 h2 b h5)
        · cases h3
      · rw [if_neg z'] at h3
        exact S'.sep j k q p u w b n h1 h2 h3 h4 (back j q u z h1 h2 b h5) (back k p w z' h3 h4 b h6)
theorem Sim.change (S : Sim T st σ B F H) {i : Nat} {r r' : R} {v : V} {a : Addr} {o : HO} (h : st[i]? = some (some r)) (hv : σ[i]? = some (some v)) (ho : Ow H r v a) (nt : ∀ xs, o ≠ .tup xs)
    (hr : RelR T B (upd H a o) r' v) (hb : ∀ b, Ow (upd H a o) r' v b → Ow H r v b := by intro b h; exact h) : Sim T (st.set i (some r')) σ B F (upd H a o) :=
  Sim.change2 (q := .d .non) (u := .non) (S.push (show Rep T B .non .non by unfold Rep; rfl)) h hv ho nt hr fun b z => .inl (hb b z)
end
end Fz
set_option Elab.async false
set_option linter.all false
set_option maxRecDepth 100000
set_option maxHeartbeats 2000000
namespace Fz
open PySem L2 PySem.Spec PyProof.Rows
def ofK (kvs : List (Key × V)) : List (KX × V) := kvs.map fun kv => (.v kv.1, kv.2)
def ofX (xs : List (NestedKey × Addr × V)) : List (KX × V) := xs.map fun x => (.t x.1 x.2.1, x.2.2)
theorem ofK_all : ∀ {es : List (KX × V)}, (∀ e ∈ es, e.1.isV = true) → ∃ kvs, es = ofK kvs
  | [], _ => ⟨[], rfl⟩
  | (.v k, y) :: es, h => by
    obtain ⟨kvs, e⟩ := ofK_all fun e he => h e (List.mem_cons_of_mem _ he)
    exact ⟨(k, y) :: kvs, by rw [e]; rfl⟩
  | (.t k a, y) :: es, h => nomatch h _ List.mem_cons_self
theorem ofX_all : ∀ {es : List (KX × V)}, (∀ e ∈ es, e.1.isT = true) → ∃ xs, es = ofX xs
  | [], _ => ⟨[], rfl⟩
  | (.t k a, y) :: es, h => by
    obtain ⟨xs, e⟩ := ofX_all fun e he => h e (List.mem_cons_of_mem _ he)
    exact ⟨(k, a, y) :: xs, by rw [e]; rfl⟩
  | (.v k, y) :: es, h => nomatch h _ List.mem_cons_self
def XV (xs : List (NestedKey × Addr × V)) (ys : List (NestedKey × Addr × Value)) : Prop := Paired (fun p q => p.1 = q.1 ∧ p.2.1 = q.2.1 ∧ RelV p.2.2 q.2.2) xs ys
theorem XV.keys {xs : List (NestedKey × Addr × V)} {ys : List (NestedKey × Addr × Value)} (r : XV xs ys) : ys.map (·.1) = xs.map (·.1) := by
  induction r with
  | nil => rfl
  | cons q _ ih => simp [ih, q.1]
theorem XV.get {xs : List (NestedKey × Addr × V)} {ys : List (NestedKey × Addr × Value)} (r : XV xs ys) : ∀ {i : Nat} {y : NestedKey × Addr × Value}, ys[i]? = some y → ∃ x, xs[i]? = some x ∧ x.1 = y.1 ∧ x.2.1 = y.2.1 ∧ RelV x.2.2 y.2.2 := by
  induction r with
  | nil => intro i y hi; simp at hi
  | @cons p q xs ys r _ ih =>
    intro i y hi
    cases i with
    | zero => simp at hi; subst hi; exact ⟨p, rfl, r⟩
    | succ i => simpa using ih (i := i) (by simpa using hi)
theorem nkK_inj {a b : Key} (h : (KX.v a).nk = (KX.v b).nk) : a = b := by
  cases a <;> cases b <;> simp only [KX.nk] at h <;> cases h <;> rfl
section
variable {P : Program} {w : World} {H : Hp} {h : Heap} {a : Addr} {ep : Nat} {es : List (KX × V)}
theorem dg_raw (ok : HOk P w H h) (e : H a = some (dG w a ep es)) : ∃ en, h.DictRaw a en ep ∧ Paired (entOk w) es en.toList := by
  obtain ⟨⟨o, en, h1, h2, h3, h4⟩, _⟩ := (show ObjOk P w H h a (dG w a ep es) from ok a _ e)
  exact ⟨en, ⟨o, h1, h2, h3⟩, h4⟩
theorem dgV (ok : HOk P w H h) (e : H a = some (dG w a ep es)) (k : DGOk a es) (hv : ∀ e ∈ es, e.1.isV = true) : ∃ kvs vs, es = ofK kvs ∧ KV kvs vs ∧ h.DictOf (mixKind P w) a vs := by
  obtain ⟨en, ⟨o, h1, h2, h3⟩, h4⟩ := dg_raw ok e
  obtain ⟨kvs, rfl⟩ := ofK_all hv
  have go : ∀ {kvs : List (Key × V)} {l : List DictEntry}, Paired (entOk w) (ofK kvs) l → ∃ vs, KV kvs vs ∧ Pairs (mixKind P w) l vs ∧ ∀ x ∈ l, ∃ q, (mixKind P w).is q x.key = true ∧ x.hash = (mixKind P w).hash q := fun {kvs} => by
    induction kvs with
    | nil => intro l p; cases p; exact ⟨[], .nil, .nil, fun x hx => by simp at hx⟩
    | cons kv kvs ih =>
      intro l p
      cases p with
      | @cons _ en _ l q r =>
        obtain ⟨vs, z1, z2, z3⟩ := ih r
        obtain ⟨q1, q2, q3⟩ := q
        refine ⟨(kv.1, en.val) :: vs, .cons ⟨rfl, q3⟩ z1, .cons q2 rfl z2, fun x hx => ?_⟩
        rcases List.mem_cons.mp hx with rfl | hx
        · exact ⟨kv.1, q2, q1⟩
        · exact z3 x hx
  obtain ⟨vs, z1, z2, z3⟩ := go h4
  refine ⟨kvs, vs, rfl, z1, o, en, ep, h1, h2, h3, fun x hx => z3 x (Array.mem_toList_iff.mpr hx), z2, ?_⟩
  rw [← z1.keys]
  have := k.nd
  unfold ofK at this
  rw [List.map_map] at this
  rw [List.nodup_iff_pairwise_ne, List.pairwise_map] at this ⊢
  exact this.imp fun {a b} n e => n (show (KX.v a.1).nk = (KX.v b.1).nk by rw [e])
theorem dgK_obj {H' : Hp} {kvs : List (Key × V)} {vs : List (Key × Value)} (r : KV kvs vs) (dd : h.DictOf (mixKind P w) a vs) : ∃ ep, ObjOk P w H' h a (dG w a ep (ofK kvs)) := by
  obtain ⟨o, en, ep, h1, h2, h3, h4, h5, h6⟩ := dd
  have go : ∀ {kvs : List (Key × V)} {vs : List (Key × Value)} {l : List DictEntry}, KV kvs vs → Pairs (mixKind P w) l vs → (∀ x ∈ l, ∃ q, (mixKind P w).is q x.key = true ∧ x.hash = (mixKind P w).hash q) → Paired (entOk w) (ofK kvs) l := fun {kvs vs l} r p => by
    induction p generalizing kvs with
    | nil => intro _; cases r; exact .nil
    | @cons en kv l vs p1 p2 p3 ih =>
      intro hk
      cases r with
      | @cons x _ kvs _ q r =>
        refine .cons ⟨?_, ?_, ?_⟩ (ih r fun x hx => hk x (List.mem_cons_of_mem _ hx))
        · obtain ⟨c, c1, c2⟩ := hk en List.mem_cons_self
          have := (mixKind P w).inj _ _ _ c1 p1
          rw [c2, this, ← q.1]; rfl
        · show keyIs x.1 en.key = true
          rw [q.1]; exact p1
        · show RelV x.2 en.val
          rw [p2]; exact q.2
  exact ⟨ep, ⟨o, en, h1, h2, h3, go r h5 fun x hx => h4 x (Array.mem_toList_iff.mp hx)⟩, ⟨o, h1⟩, fun h1' h2' ⟨o', e', g1, g2⟩ st => ⟨o', e', st _ g1, g2⟩⟩
theorem dgX_obj {H' : Hp} {xs : List (NestedKey × Addr × V)} {ys : List (NestedKey × Addr × Value)} (r : XV xs ys) (dd : h.DictOfH (nestedKind P w) a ys) : ∃ ep, ObjOk P w H' h a (dG w a ep (ofX xs)) := by
  obtain ⟨o, en, ep, h1, h2, h3, h4, h5, h6⟩ := dd
  have go : ∀ {xs : List (NestedKey × Addr × V)} {ys : List (NestedKey × Addr × Value)}, XV xs ys → Paired (entOk w) (ofX xs) (ys.map (entryOfKey (nestedKind P w))) := fun {xs ys} r => by
    induction r with
    | nil => exact .nil
    | @cons x y xs ys q _ ih =>
      obtain ⟨q1, q2, q3⟩ := q
      refine .cons ⟨?_, ?_, q3⟩ ih
      · show y.1.hash w = x.1.hash w; rw [q1]
      · show Value.ref y.2.1 = Value.ref x.2.1; rw [q2]
  exact ⟨ep, ⟨o, en, h1, h2, h3, by rw [h4]; exact go r⟩, ⟨o, h1⟩, fun h1' h2' ⟨o', e', g1, g2⟩ st => ⟨o', e', st _ g1, g2⟩⟩
mutual
theorem nested_of {T : Tab} (ok : HOk P w H h) (kx : T.K.In h) : ∀ (d : D) {v : V} {u : Value} {k : NestedKey}, Rep T H d v → RelV v u → nk d = some k → NestedIs h k u
  | .non, v, u, k, r, rv, e => by unfold Rep at r; subst r; cases e; cases rv; exact .none
  | .bl b, v, u, k, r, rv, e => by unfold Rep at r; subst r; cases e; cases rv; exact .bool rfl
  | .int i, v, u, k, r, rv, e => by unfold Rep at r; subst r; cases e; obtain ⟨t, rfl⟩ := rv; exact .int i t
  | .str s, v, u, k, r, rv, e => by unfold Rep at r; obtain ⟨rfl, _⟩ := r; cases e; obtain ⟨t, rfl⟩ := rv; exact .text s t
  | .tup ds, v, u, k, r, rv, e => by
    unfold Rep at r
    obtain ⟨b, xs, rfl, ht, hr⟩ := r
    cases rv
    unfold nk at e
    obtain ⟨ks, e1, rfl⟩ := Option.map_eq_some_iff.mp e
    rcases ht with ht | ⟨o, its, n, h1, h2, h3, _, h5⟩
    · obtain ⟨_, its, rv, o, h1, h2, n, h3⟩ := (show ObjOk P w H h b (.tup xs) from ok b _ ht)
      exact .tup h1 h2 h3 (nesteds_of ok kx ds hr (by simpa using rv) e1)
    · exact .tup (kx b o h1) h2 h3 (nesteds_of ok kx ds hr h5 e1)
  | .lst ds, v, u, k, r, rv, e => by simp [nk] at e
  | .obj _ _, v, u, k, r, rv, e => by simp [nk] at e
  | .dct _ _, v, u, k, r, rv, e => by simp [nk] at e
  | .ext _ _, v, u, k, r, rv, e => by simp [nk] at e
theorem nesteds_of {T : Tab} (ok : HOk P w H h) (kx : T.K.In h) : ∀ (ds : List D) {vs : List V} {us : List Value} {ks : List NestedKey}, Reps T H ds vs → Vals vs us → nks ds = some ks → NestedAll h ks us
  | [], vs, us, ks, r, rv, e => by unfold Reps at r; subst r; cases rv; cases e; exact .nil
  | d :: ds, vs, us, ks, r, rv, e => by
    unfold Reps at r
    obtain ⟨v, q, rfl, r1, r2⟩ := r
    cases rv with
    | cons h1 h2 =>
      unfold nks at e
      obtain ⟨k, e1, e2⟩ := Option.bind_eq_some_iff.mp e
      obtain ⟨l, e3, rfl⟩ := Option.map_eq_some_iff.mp e2
      exact .cons (nested_of ok kx d r1 h1 e1) (nesteds_of ok kx ds r2 h2 e3)
end
theorem KReps.get {T : Tab} : ∀ {ks : List D} {xs : List KX} {i : Nat} {x : KX}, KReps T H ks xs → xs[i]? = some x → ∃ d, ks[i]? = some d ∧ nk d = some x.nk ∧ (match x with
    | .v k => DKey d k
    | .t k a => nk d = some k ∧ Rep T H d (.ref a))
  | [], xs, i, x, h, e => by unfold KReps at h; subst h; simp at e
  | d :: ds, xs, i, x, h, e => by
    unfold KReps at h
    obtain ⟨y, r, rfl, h1, h2⟩ := h
    cases i with
    | zero =>
      simp at e; subst e
      refine ⟨d, rfl, ?_, h1⟩
      cases y with
      | v k =>
        have h1 : DKey d k := h1
        cases d <;> first | exact h1.elim | (cases (show k = _ from h1); rfl)
      | t k a => exact h1.1
    | succ i => exact KReps.get (i := i) h2 (by simpa using e)
theorem KReps.length {T : Tab} : ∀ {ks : List D} {xs : List KX}, KReps T H ks xs → ks.length = xs.length
  | [], xs, h => by unfold KReps at h; subst h; rfl
  | d :: ds, xs, h => by unfold KReps at h; obtain ⟨y, r, rfl, _, h2⟩ := h; simp [KReps.length h2]
theorem dgT {T : Tab} {ks : List D} (ok : HOk P w H h) (kx : T.K.In h) (e : H a = some (dG w a ep es)) (k : DGOk a es) (hk : KReps T H ks (es.map (·.1))) (hv : ∀ e ∈ es, e.1.isT = true) : ∃ xs ys, es = ofX xs ∧ XV xs ys ∧ h.DictOfH (nestedKind P w) a ys := by
  obtain ⟨en, ⟨o, h1, h2, h3⟩, h4⟩ := dg_raw ok e
  obtain ⟨xs, rfl⟩ := ofX_all hv
  have go : ∀ {xs : List (NestedKey × Addr × V)} {l : List DictEntry}, Paired (entOk w) (ofX xs) l → ∃ ys, XV xs ys ∧ l = ys.map (entryOfKey (nestedKind P w)) := fun {xs} => by
    induction xs with
    | nil => intro l p; cases p; exact ⟨[], .nil, rfl⟩
    | cons x xs ih =>
      intro l p
      cases p with
      | @cons _ en _ l q r =>
        obtain ⟨ys, z1, z2⟩ := ih r
        obtain ⟨q1, q2, q3⟩ := q
        refine ⟨(x.1, x.2.1, en.val) :: ys, .cons ⟨rfl, rfl, q3⟩ z1, ?_⟩
        rw [List.map_cons, ← z2]
        refine congrArg (· :: l) ?_
        obtain ⟨eh, ek, ev⟩ := en
        have q1 : eh = x.1.hash w := q1
        have q2 : ek = .ref x.2.1 := q2
        subst q1 q2
        rfl
  obtain ⟨ys, z1, z2⟩ := go h4
  have keys := XV.keys z1
  refine ⟨xs, ys, rfl, z1, o, en, ep, h1, h2, h3, z2, fun y hy => ?_, ?_⟩
  · obtain ⟨i, hi⟩ := List.mem_iff_getElem?.mp hy
    obtain ⟨x, hx, e1, e2, _⟩ := XV.get z1 hi
    obtain ⟨d, g1, g2, g3⟩ := hk.get (i := i) (x := .t x.1 x.2.1) (by rw [List.getElem?_map]; show Option.map _ ((ofX xs)[i]?) = _; unfold ofX; rw [List.getElem?_map, hx]; rfl)
    have tp := hv (.t x.1 x.2.1, x.2.2) (List.mem_of_getElem? (i := i) (by unfold ofX; rw [List.getElem?_map, hx]; rfl))
    refine ⟨?_, ?_⟩
    · rw [← e1, ← e2]; exact nested_of ok kx d g3.2 rfl g3.1
    · rw [← e1]
      have tp : KX.isT (.t x.1 x.2.1) = true := tp
      cases hx1 : x.1 <;> rw [hx1] at tp <;> first | exact of_decide_eq_true tp | cases tp
  · rw [keys]
    have := k.nd
    unfold ofX at this
    rw [List.map_map] at this
    exact this
end
end Fz
set_option Elab.async false
set_option linter.all false
set_option maxRecDepth 100000
set_option maxHeartbeats 2000000
namespace Fz
open PySem L2 PySem.Spec PyProof.Rows
def tupK (d : D) : Bool := match nk d with
  | some (.tup ks) => decide (NestedKey.depth (.tup ks) ≤ 8)
  | _ => false
def dkOk (ks : List D) (d : D) : Bool := (keyK d && ks.all keyK) || (tupK d && ks.all tupK)
def kpos (ks : List D) (d : D) : Option Nat := ks.findIdx? fun x => decide (nk x = nk d)
theorem find_map {α β : Type} (p : α → Bool) (f : α → β) : ∀ l : List α, (l.find? p).map f = (l.findIdx? p).bind fun j => (l.map f)[j]?
  | [] => rfl
  | x :: l => by
    rw [List.find?_cons, List.findIdx?_cons]
    cases h : p x with
    | true => simp
    | false =>
      simp only [Bool.false_eq_true, if_false]
      rw [find_map p f l]
      cases List.findIdx? p l <;> simp
section
variable {P : Program} {w : World} {T : Tab} {H : Hp} {h : Heap} {a : Addr} {ep : Nat} {es : List (KX × V)} {ks : List D}
theorem kpos_eq {d : D} {k : NestedKey} (hd : nk d = some k) : ∀ {ks : List D} {xs : List KX}, KReps T H ks xs → kpos ks d = (xs.map KX.nk).findIdx? fun x => decide (x = k)
  | [], xs, h => by unfold KReps at h; subst h; rfl
  | x :: ks, xs, h => by
    have g : ∀ y, xs[0]? = some y → _ := fun y e => KReps.get h e
    unfold KReps at h
    obtain ⟨y, r, rfl, _, h2⟩ := h
    obtain ⟨x', e, e1, _⟩ := g y rfl
    cases e
    unfold kpos
    rw [List.findIdx?_cons, List.map_cons, List.findIdx?_cons, e1, hd]
    have ih := kpos_eq hd h2
    unfold kpos at ih
    rw [hd] at ih
    rw [ih]
    simp
theorem keyK_of {d : D} {k : Key} (h : DKey d k) : nk d = some (KX.v k).nk := by
  cases d <;> first | exact h.elim | (cases (show k = _ from h); rfl)
theorem key_of_rep {d : D} {y : V} (hk : keyK d = true) (r : Rep T H d y) : ∃ k, DKey d k ∧ y = kV k := by
  cases d with
  | int i => unfold Rep at r; exact ⟨.inl i, rfl, r⟩
  | str s => unfold Rep at r; exact ⟨.inr s, rfl, r.1⟩
  | _ => cases hk
theorem tup_of_rep {d : D} {y : V} (hk : tupK d = true) (r : Rep T H d y) : ∃ k b, nk d = some k ∧ y = .ref b ∧ KX.isT (.t k b) = true := by
  cases d with
  | tup ds =>
    unfold Rep at r
    obtain ⟨b, xs, rfl, _⟩ := r
    unfold tupK at hk
    split at hk
    · rename_i ks e; exact ⟨_, b, e, rfl, hk⟩
    · cases hk
  | non => cases hk
  | bl _ => cases hk
  | int _ => cases hk
  | str _ => cases hk
  | lst _ => simp [tupK, nk] at hk
  | obj _ _ => simp [tupK, nk] at hk
  | dct _ _ => simp [tupK, nk] at hk
  | ext _ _ => simp [tupK, nk] at hk
theorem allV : ∀ {ks : List D} {es : List (KX × V)}, KReps T H ks (es.map (·.1)) → ks.all keyK = true → ∀ e ∈ es, e.1.isV = true := fun {ks es} h k e he => by
  obtain ⟨i, hi⟩ := List.mem_iff_getElem?.mp he
  obtain ⟨d, g1, g2, g3⟩ := h.get (i := i) (x := e.1) (by rw [List.getElem?_map, hi]; rfl)
  have kd := List.all_eq_true.mp k d (List.mem_of_getElem? g1)
  cases hx : e.1 with
  | v k => rfl
  | t k b =>
    rw [hx] at g3
    have g3 := g3.2
    cases d with
    | int i => unfold Rep at g3; cases g3
    | str i => unfold Rep at g3; cases g3.1
    | _ => cases kd
theorem allT : ∀ {ks : List D} {es : List (KX × V)}, KReps T H ks (es.map (·.1)) → ks.all tupK = true → ∀ e ∈ es, e.1.isT = true := fun {ks es} h k e he => by
  obtain ⟨i, hi⟩ := List.mem_iff_getElem?.mp he
  obtain ⟨d, g1, g2, g3⟩ := h.get (i := i) (x := e.1) (by rw [List.getElem?_map, hi]; rfl)
  have kd := List.all_eq_true.mp k d (List.mem_of_getElem? g1)
  cases hx : e.1 with
  | v q =>
    rw [hx] at g3
    have g3 : DKey d q := g3
    cases d <;> first | exact g3.elim | cases kd
  | t q b =>
    rw [hx] at g3
    unfold tupK at kd
    rw [g3.1] at kd
    split at kd
    · rename_i e; cases e; exact kd
    · cases kd
theorem valV_kpos {kvs : List (Key × V)} {d : D} {k : Key} (h : KReps T H ks ((ofK kvs).map (·.1))) (hd : DKey d k) : valV kvs k = (kpos ks d).bind fun j => (kvs.map (·.2))[j]? := by
  unfold valV
  rw [find_map, kpos_eq (keyK_of hd) h]
  congr 1
  unfold ofK
  rw [List.map_map, List.map_map, List.findIdx?_map]
  congr 1
  funext kv
  show decide (kv.1 = k) = decide ((KX.v kv.1).nk = (KX.v k).nk)
  by_cases e : kv.1 = k
  · rw [e, decide_eq_true rfl, decide_eq_true rfl]
  · rw [decide_eq_false e, decide_eq_false fun z => e (nkK_inj z)]
theorem atKey_kpos {xs : List (NestedKey × Addr × V)} {ys : List (NestedKey × Addr × Value)} {d : D} {k : NestedKey} (h : KReps T H ks ((ofX xs).map (·.1))) (r : XV xs ys) (hd : nk d = some k) : atKey ys k = (kpos ks d).bind fun j => (ys.map (·.2))[j]? := by
  unfold atKey
  rw [find_map, kpos_eq hd h]
  congr 1
  rw [show ((ofX xs).map (·.1)).map KX.nk = ys.map (·.1) by rw [XV.keys r]; unfold ofX; rw [List.map_map, List.map_map]; rfl, List.findIdx?_map]
  rfl
theorem XV.at {xs : List (NestedKey × Addr × V)} {ys : List (NestedKey × Addr × Value)} (r : XV xs ys) : ∀ {j : Nat} {v : V}, (xs.map (·.2.2))[j]? = some v → ∃ p, (ys.map (·.2))[j]? = some p ∧ RelV v p.2 := by
  induction r with
  | nil => intro j v hi; simp at hi
  | @cons p q xs ys r _ ih =>
    intro j v hi
    cases j with
    | zero => simp at hi; subst hi; exact ⟨q.2, rfl, r.2.2⟩
    | succ j => simpa using ih (j := j) (by simpa using hi)
theorem XV.length {xs : List (NestedKey × Addr × V)} {ys : List (NestedKey × Addr × Value)} (r : XV xs ys) : xs.length = ys.length := Paired.length r
theorem kpos_lt {d : D} {j : Nat} (h : kpos ks d = some j) : j < ks.length := by
  unfold kpos at h
  exact (List.findIdx?_eq_some_iff_getElem.mp h).1
end
section
variable {X : Cx} {T : Tab} {pins : List (Addr × Obj)} {σ : L2.St} {H : Hp} {s : Shared} {a : Addr} {ks : List D} {xs : List V} {d : D} {y v : V} {u : Value} {A : Around} {E : Value → Shared → Prop}
theorem g_kind (I : Inv X pins σ H s) (hK : X.K = T.K) (hw : X.w = T.w) (c : DctAt T H H a ks xs) (hd : dkOk ks d = true) (ry : Rep T H d y) (ru : RelV y u) :
    (∃ kvs vs k, xs = kvs.map (·.2) ∧ KReps T H ks ((ofK kvs).map (·.1)) ∧ KV kvs vs ∧ s.heap.DictOf (mixKind X.prog X.w) a vs ∧ DKey d k ∧ y = kV k) ∨
    ∃ es ys k b, xs = es.map (·.2.2) ∧ KReps T H ks ((ofX es).map (·.1)) ∧ XV es ys ∧ s.heap.DictOfH (nestedKind X.prog X.w) a ys ∧ nk d = some k ∧ y = .ref b ∧ u = .ref b ∧ (nestedKind X.prog X.w).is s.heap k b := by
  obtain ⟨ep, es, h1, h2, h3, rfl⟩ := c
  rw [← hw] at h1
  unfold dkOk at hd
  rcases (Bool.or_eq_true _ _).mp hd with hd | hd
  · have hd := (Bool.and_eq_true _ _).mp hd
    obtain ⟨kvs, vs, rfl, r, dd⟩ := dgV I.hok h1 h2 (allV h3 hd.2)
    obtain ⟨k, k1, k2⟩ := key_of_rep hd.1 ry
    exact .inl ⟨kvs, vs, k, by unfold ofK; rw [List.map_map]; rfl, h3, r, dd, k1, k2⟩
  · have hd := (Bool.and_eq_true _ _).mp hd
    obtain ⟨xs, ys, rfl, r, dd⟩ := dgT I.hok (by rw [← hK]; exact I.kIn) h1 h2 h3 (allT h3 hd.2)
    obtain ⟨k, b, k1, rfl, k3⟩ := tup_of_rep hd.1 ry
    cases (show u = Value.ref b from ru)
    refine .inr ⟨xs, ys, k, b, by unfold ofX; rw [List.map_map]; rfl, h3, r, dd, k1, rfl, rfl, nested_of I.hok (by rw [← hK]; exact I.kIn) d ry rfl k1, ?_⟩
    cases k <;> first | exact of_decide_eq_true k3 | cases k3
theorem g_sm (c : DctAt T H H a ks xs) : (a == sysModules) = false := let ⟨_, _, _, h2, _, _⟩ := c; h2.sm
theorem g_get {j : Nat} {Q : Value → Shared → Prop} (hu : A.units + 9 < cLine) (I : Inv X pins σ H s) (hK : X.K = T.K) (hw : X.w = T.w) (c : DctAt T H H a ks xs) (hd : dkOk ks d = true) (ry : Rep T H d y) (ru : RelV y u)
    (hp : kpos ks d = some j) (hv : xs[j]? = some v) (h : ∀ w' s', Inv X pins σ H s' → RelV v w' → Q w' s') : wpAny (model X.prog X.w) A (getItem (.ref a) u) Q E s := by
  rcases g_kind I hK hw c hd ry ru with ⟨kvs, vs, k, rfl, kr, r, dd, dk, rfl⟩ | ⟨es, ys, k, b, rfl, kr, r, dd, dk, rfl, rfl, hi⟩
  · have l := valV_kpos kr dk
    rw [hp, Option.bind_some, hv] at l
    obtain ⟨w', hw', rw'⟩ := RelO.some_of (v := v) (o := valueAt vs k) (by rw [← l]; exact r.val k)
    exact wpAny_getItem_of (kV_is ru) dd.mapOf hw' (h w' _ (I.tok _) rw')
  · have l := atKey_kpos kr r dk
    obtain ⟨p, hp1, hp2⟩ := XV.at r hv
    rw [hp, Option.bind_some, hp1] at l
    exact wpAny_getItem_heap (show A.units + 1 + 8 < cLine by omega) hi dd l (h _ _ (I.tok _) hp2)
theorem g_notIn {Q : Value → Shared → Prop} (hu : A.units + 9 < cLine) (I : Inv X pins σ H s) (hK : X.K = T.K) (hw : X.w = T.w) (c : DctAt T H H a ks xs) (hd : dkOk ks d = true) (ry : Rep T H d y) (ru : RelV y u)
    (h : ∀ s', Inv X pins σ H s' → Q (.bool !(kpos ks d).isSome) s') : wpAny (model X.prog X.w) A (compareOp .NotIn u (.ref a)) Q E s := by
  have hs := g_sm c
  have hl : ks.length = xs.length := by obtain ⟨_, es, _, _, h3, rfl⟩ := c; rw [h3.length]; simp
  have fin : ∀ {α : Type} {l : List α}, l.length = xs.length → ((kpos ks d).bind fun j => l[j]?).isSome = (kpos ks d).isSome := fun {α l} e => by
    cases q : kpos ks d with
    | none => rfl
    | some j =>
      have := kpos_lt q
      simp only [Option.bind_some, Option.isSome_some]
      rw [List.getElem?_eq_getElem (by omega)]; rfl
  rcases g_kind I hK hw c hd ry ru with ⟨kvs, vs, k, rfl, kr, r, dd, dk, rfl⟩ | ⟨es, ys, k, b, rfl, kr, r, dd, dk, rfl, rfl, hi⟩
  · refine wpAny_notIn_of (kV_is ru) hs dd.mapOf ?_
    rw [← (r.val k).isSome_eq, valV_kpos kr dk, fin (by simp)]
    exact h _ (I.tok _)
  · refine wpAny_notIn_heap (show A.units + 1 + 8 < cLine by omega) hi hs dd ?_
    rw [atKey_kpos kr r dk, fin (by simp [XV.length r])]
    exact h _ (I.tok _)
end
end Fz
set_option Elab.async false
set_option linter.all false
set_option maxRecDepth 100000
set_option maxHeartbeats 2000000
namespace Fz
open PySem L2 PySem.Spec PyProof.Rows
def dputK (ks : List D) (d : D) : List D := match kpos ks d with
  | some _ => ks
  | none => ks ++ [d]
def dputV {α : Type} (ks : List D) (xs : List α) (d : D) (v : α) : List α := match kpos ks d with
  | some j => xs.set j v
  | none => xs ++ [v]
def dputE (es : List (KX × V)) (x : KX) (v : V) : List (KX × V) := match es.findIdx? (fun e => decide (e.1.nk = x.nk)) with
  | some j => es.modify j fun e => (e.1, v)
  | none => es ++ [(x, v)]
theorem mapIf {α β : Type} [DecidableEq β] (key : α → β) (k : β) (f : α → α) : ∀ l : List α, (l.map key).Nodup → l.map (fun x => if key x = k then f x else x) = ((l.findIdx? (fun x => decide (key x = k))).elim l fun j => l.modify j f)
  | [], _ => rfl
  | x :: l, n => by
    rw [List.map_cons, List.nodup_cons] at n
    rw [List.map_cons, List.findIdx?_cons]
    by_cases e : key x = k
    · rw [if_pos e, decide_eq_true e, if_pos rfl]
      show f x :: _ = f x :: l
      refine congrArg (f x :: ·) ?_
      have : ∀ l : List α, k ∉ l.map key → l.map (fun x => if key x = k then f x else x) = l := fun l => by
        induction l with
        | nil => intro _; rfl
        | cons y l ih =>
          intro h
          simp only [List.map_cons, List.mem_cons, not_or] at h
          rw [List.map_cons, if_neg (fun z => h.1 z.symm), ih h.2]
      exact this l (e ▸ n.1)
    · rw [if_neg e, decide_eq_false e]
      simp only [Bool.false_eq_true, if_false]
      rw [mapIf key k f l n.2]
      cases l.findIdx? (fun x => decide (key x = k)) <;> rfl
theorem any_findIdx {α : Type} (p : α → Bool) : ∀ l : List α, l.any p = (l.findIdx? p).isSome
  | [] => rfl
  | x :: l => by
    rw [List.any_cons, List.findIdx?_cons]
    cases h : p x with
    | true => rfl
    | false => rw [any_findIdx p l]; simp only [Bool.false_or, Bool.false_eq_true, if_false, Option.isSome_map]
theorem ofK_put {kvs : List (Key × V)} {k : Key} {v : V} (n : ((ofK kvs).map fun e => e.1.nk).Nodup) : ofK (putK kvs k v) = dputE (ofK kvs) (.v k) v := by
  have n' : (kvs.map (·.1)).Nodup := by
    unfold ofK at n
    rw [List.map_map] at n
    rw [List.nodup_iff_pairwise_ne, List.pairwise_map] at n ⊢
    exact n.imp fun {a b} h e => h (show (KX.v a.1).nk = (KX.v b.1).nk by rw [e])
  unfold dputE
  have fe : (ofK kvs).findIdx? (fun e => decide (e.1.nk = (KX.v k).nk)) = kvs.findIdx? fun kv => decide (kv.1 = k) := by
    unfold ofK
    rw [List.findIdx?_map]
    congr 1
    funext kv
    show decide ((KX.v kv.1).nk = (KX.v k).nk) = decide (kv.1 = k)
    by_cases e : kv.1 = k
    · rw [e, decide_eq_true rfl, decide_eq_true rfl]
    · rw [decide_eq_false e, decide_eq_false fun z => e (nkK_inj z)]
  rw [fe]
  unfold putK
  rw [any_findIdx]
  have m := mapIf (fun kv : Key × V => kv.1) k (fun kv => (kv.1, v)) kvs n'
  cases q : kvs.findIdx? fun kv => decide (kv.1 = k) with
  | none => rw [if_neg (by simp)]; unfold ofK; rw [List.map_append]; rfl
  | some j =>
    rw [q] at m
    rw [if_pos (by rfl), m]
    show ofK (kvs.modify j fun kv => (kv.1, v)) = (ofK kvs).modify j fun e => (e.1, v)
    clear m q fe n n'
    induction kvs generalizing j with
    | nil => cases j <;> rfl
    | cons x kvs ih =>
      cases j with
      | zero => rfl
      | succ j =>
        show _ :: _ = _ :: _
        exact congrArg _ (ih j)
theorem ofX_put {es : List (NestedKey × Addr × V)} {ys : List (NestedKey × Addr × Value)} {k : NestedKey} {b : Addr} {v : V} {r : Value} (x : XV es ys) (n : ((ofX es).map fun e => e.1.nk).Nodup) (rv : RelV v r) : ∃ es', XV es' (storedH ys k b r) ∧ ofX es' = dputE (ofX es) (.t k b) v := by
  have n' : (ys.map (·.1)).Nodup := by
    rw [XV.keys x]
    unfold ofX at n
    rw [List.map_map] at n
    exact n
  have fe : (ofX es).findIdx? (fun e => decide (e.1.nk = (KX.t k b).nk)) = ys.findIdx? fun y => decide (y.1 = k) := by
    have h1 : (ofX es).findIdx? (fun e => decide (e.1.nk = (KX.t k b).nk)) = (es.map (·.1)).findIdx? fun y => decide (y = k) := by
      unfold ofX; rw [List.findIdx?_map, List.findIdx?_map]; rfl
    have h2 : ys.findIdx? (fun y => decide (y.1 = k)) = (ys.map (·.1)).findIdx? fun y => decide (y = k) := by rw [List.findIdx?_map]; rfl
    rw [h1, h2, XV.keys x]
  have at_ : (atKey ys k).isSome = (ys.findIdx? fun y => decide (y.1 = k)).isSome := by
    unfold atKey
    rw [Option.isSome_map, ← any_findIdx, Bool.eq_iff_iff, List.find?_isSome, List.any_eq_true]
  unfold dputE storedH
  rw [fe]
  cases q : ys.findIdx? fun y => decide (y.1 = k) with
  | none =>
    rw [q] at at_
    rw [if_neg (by rw [at_]; simp)]
    have ap : ∀ {es ys}, XV es ys → XV (es ++ [(k, b, v)]) (ys ++ [(k, b, r)]) := fun {es ys} x => Paired.snoc x ⟨rfl, rfl, rv⟩
    exact ⟨es ++ [(k, b, v)], ap x, by unfold ofX; rw [List.map_append]; rfl⟩
  | some j =>
    rw [q] at at_
    rw [if_pos (by rw [at_]; rfl)]
    have m := mapIf (fun y : NestedKey × Addr × Value => y.1) k (fun y => (y.1, y.2.1, r)) ys n'
    rw [q] at m
    have e : ys.map (putAt k r) = ys.modify j fun y => (y.1, y.2.1, r) := m
    rw [e]
    refine ⟨es.modify j fun y => (y.1, y.2.1, v), ?_, ?_⟩
    · clear m e q at_ fe n' n
      induction x generalizing j with
      | nil => cases j <;> exact .nil
      | cons h t ih =>
        cases j with
        | zero => exact .cons ⟨h.1, h.2.1, rv⟩ t
        | succ j => exact .cons h (ih j)
    · clear m e q at_ fe n' n x
      induction es generalizing j with
      | nil => cases j <;> rfl
      | cons z es ih =>
        cases j with
        | zero => rfl
        | succ j => exact congrArg (_ :: ·) (ih j)
section
variable {T : Tab} {B H : Hp} {a : Addr} {ks : List D} {es : List (KX × V)} {d : D} {x : KX} {v : V}
theorem modify_fst {j : Nat} {β : Type} (f : KX → β) : ∀ (es : List (KX × V)) (j : Nat), (es.modify j fun e => (e.1, v)).map (fun e => f e.1) = es.map fun e => f e.1
  | [], j => by cases j <;> rfl
  | e :: es, 0 => rfl
  | e :: es, j + 1 => congrArg (_ :: ·) (modify_fst (j := j) f es j)
theorem modify_snd : ∀ (es : List (KX × V)) (j : Nat), (es.modify j fun e => (e.1, v)).map (·.2) = (es.map (·.2)).set j v
  | [], j => by cases j <;> rfl
  | e :: es, 0 => rfl
  | e :: es, j + 1 => congrArg (_ :: ·) (modify_snd es j)
def KeyAt (T : Tab) (B : Hp) (d : D) : KX → Prop
  | .v k => DKey d k
  | .t k a => nk d = some k ∧ Rep T B d (.ref a)
theorem KReps.snoc (r : KeyAt T B d x) : ∀ {ks : List D} {xs : List KX}, KReps T B ks xs → KReps T B (ks ++ [d]) (xs ++ [x])
  | [], xs, h => by unfold KReps at h; subst h; show KReps T B [d] [x]; unfold KReps; exact ⟨x, [], rfl, (by cases x <;> exact r), by unfold KReps; rfl⟩
  | k :: ks, xs, h => by
    unfold KReps at h
    obtain ⟨y, q, rfl, h1, h2⟩ := h
    show KReps T B (k :: (ks ++ [d])) (y :: (q ++ [x]))
    unfold KReps
    exact ⟨y, _, rfl, h1, KReps.snoc r h2⟩
theorem kpos_es (h : KReps T B ks (es.map (·.1))) (hd : nk d = some x.nk) : kpos ks d = es.findIdx? fun e => decide (e.1.nk = x.nk) := by
  rw [kpos_eq hd h, List.map_map, List.findIdx?_map]; rfl
theorem dput_at (ok : DGOk a es) (h : KReps T B ks (es.map (·.1))) (r : KeyAt T B d x) (hk : (x.isV = true ∧ ∀ e ∈ es, e.1.isV = true) ∨ (x.isT = true ∧ ∀ e ∈ es, e.1.isT = true)) (hl : es.length < sizeLine) :
    DGOk a (dputE es x v) ∧ KReps T B (dputK ks d) ((dputE es x v).map (·.1)) ∧ dputV ks (es.map (·.2)) d v = (dputE es x v).map (·.2) := by
  have hd : nk d = some x.nk := by cases x with
    | v k => exact keyK_of r
    | t k a => exact r.1
  unfold dputK dputV dputE
  rw [kpos_es h hd]
  cases q : es.findIdx? fun e => decide (e.1.nk = x.nk) with
  | some j =>
    refine ⟨⟨by rw [List.length_modify]; exact ok.len, ok.sm, ?_, ?_⟩, ?_, (modify_snd es j).symm⟩
    · rw [modify_fst (j := j) (fun e => e.nk)]; exact ok.nd
    · have mem : ∀ {p : KX → Bool}, (∀ e ∈ es, p e.1 = true) → ∀ e ∈ es.modify j (fun e => (e.1, v)), p e.1 = true := fun {p} g e he => by
        have : (es.modify j fun e => (e.1, v)).all (fun e => p e.1) = true := by
          have m := modify_fst (v := v) (j := j) p es j
          have := congrArg (List.all · id) m
          rw [List.all_map, List.all_map] at this
          rw [show (fun e : KX × V => p e.1) = (id ∘ fun e => p e.1) from rfl, this]
          exact List.all_eq_true.mpr g
        exact List.all_eq_true.mp this e he
      exact ok.kd.imp (fun g => mem g) fun g => mem g
    · rw [modify_fst (j := j) (fun e => e)]; exact h
  | none =>
    refine ⟨⟨by simp; omega, ok.sm, ?_, ?_⟩, ?_, by rw [List.map_append]; rfl⟩
    · rw [List.map_append, List.nodup_append]
      refine ⟨ok.nd, by simp, fun y hy z hz => ?_⟩
      obtain ⟨e, he, rfl⟩ := List.mem_map.mp hy
      have hz : z = x.nk := by simpa using hz
      subst hz
      have := List.findIdx?_eq_none_iff.mp q e he
      exact of_decide_eq_false this
    · rcases hk with ⟨h1, h2⟩ | ⟨h1, h2⟩
      · exact .inl fun e he => (List.mem_append.mp he).elim (h2 e) (fun z => by rw [List.mem_singleton.mp z]; exact h1)
      · exact .inr fun e he => (List.mem_append.mp he).elim (h2 e) (fun z => by rw [List.mem_singleton.mp z]; exact h1)
    · rw [List.map_append]; exact KReps.snoc (x := x) r h
end
section
variable {X : Cx} {T : Tab} {pins : List (Addr × Obj)} {σ : L2.St} {B H : Hp} {s : Shared} {a : Addr} {ks : List D} {xs : List V} {d : D} {y v : V} {u r : Value} {A : Around} {E : Value → Shared → Prop}
theorem mut_dg {w : World} {a : Addr} {ep : Nat} {es : List (KX × V)} : Mut (some (dG w a ep es)) := True.intro
theorem dg_notTup {w : World} {a : Addr} {ep : Nat} {es : List (KX × V)} : ∀ zs, dG w a ep es ≠ .tup zs := fun zs z => by unfold dG at z; cases z
theorem kreps_key {es : List (KX × V)} (hd : dkOk ks d = true) (h : KReps T H ks (es.map (·.1))) (ry : Rep T H d y) :
    (∃ k, DKey d k ∧ y = kV k ∧ ∀ e ∈ es, e.1.isV = true) ∨ ∃ k b, nk d = some k ∧ y = .ref b ∧ KX.isT (.t k b) = true ∧ ∀ e ∈ es, e.1.isT = true := by
  unfold dkOk at hd
  rcases (Bool.or_eq_true _ _).mp hd with hd | hd
  · have hd := (Bool.and_eq_true _ _).mp hd
    obtain ⟨k, k1, k2⟩ := key_of_rep hd.1 ry
    exact .inl ⟨k, k1, k2, allV h hd.2⟩
  · have hd := (Bool.and_eq_true _ _).mp hd
    obtain ⟨k, b, k1, k2, k3⟩ := tup_of_rep hd.1 ry
    exact .inr ⟨k, b, k1, k2, k3, allT h hd.2⟩
theorem g_set {Q : Unit → Shared → Prop} (hu : A.units + 9 < cLine) (I : Inv X pins σ H s) (hK : X.K = T.K) (hw : X.w = T.w) (e : Ex B H) (c : DctAt T B H a ks xs) (hd : dkOk ks d = true) (ry : Rep T B d y) (ru : RelV y u) (rv : RelV v r) (hl : xs.length < sizeLine)
    (h : ∀ o s', (∀ zs, o ≠ .tup zs) → DctAt T B (upd H a o) a (dputK ks d) (dputV ks xs d v) → Inv X pins σ (upd H a o) s' → Q () s') : wpAny (model X.prog X.w) A (setItem (.ref a) u r) Q E s := by
  obtain ⟨ep, es, h1, h2, h3, rfl⟩ := c
  have hl' : es.length < sizeLine := by simpa using hl
  have h1' := h1
  rw [← hw] at h1'
  rcases kreps_key hd h3 ry with ⟨k, k1, rfl, k3⟩ | ⟨k, b, k1, rfl, k2, k3⟩
  · obtain ⟨kvs, vs, rfl, rr, dd⟩ := dgV I.hok h1' h2 k3
    have hz : vs.length ≤ sizeLine := by rw [← rr.length]; exact Nat.le_of_lt (by simpa [ofK] using hl')
    refine wpAny_setItem_pairs (hsz := hz) (kV_is ru) dd fun h' dd' hs => ?_
    obtain ⟨ep', ob⟩ := dgK_obj (H' := upd H a (dG X.w a ep (ofK kvs))) (rr.put k rv) dd'
    obtain ⟨z1, z2, z3⟩ := dput_at (v := v) h2 h3 (x := .v k) k1 (.inl ⟨rfl, k3⟩) hl'
    rw [← ofK_put h2.nd] at z1 z2 z3
    have he : ∃ q, h'.get? a = some q := let ⟨q, _, _, hq, _⟩ := dd'; ⟨q, hq⟩
    refine h (dG X.w a ep' (ofK (putK kvs k v))) _ dg_notTup ⟨ep', _, by rw [upd_same, hw], z1, z2, z3⟩ (d_write I (by rw [h1]; exact mut_dg) hs he ?_)
    obtain ⟨ob1, ob2⟩ := ob
    exact ⟨ob1, ob2⟩
  · obtain ⟨es, ys, rfl, rr, dd⟩ := dgT I.hok (by rw [← hK]; exact I.kIn) h1' h2 (KReps.mono e _ h3) k3
    cases (show u = Value.ref b from ru)
    have hz : ys.length ≤ sizeLine := by rw [← XV.length rr]; exact Nat.le_of_lt (by simpa [ofX] using hl')
    have hi : (nestedKind X.prog X.w).is s.heap k b := by
      refine ⟨nested_of I.hok (by rw [← hK]; exact I.kIn) d (Rep.mono e d ry) rfl k1, ?_⟩
      cases k <;> first | exact of_decide_eq_true k2 | cases k2
    refine wpAny_setItem_heap (hsz := hz) (show A.units + 1 + 8 < cLine by omega) hi dd fun h' dd' hs => ?_
    obtain ⟨es', x1, x2⟩ := ofX_put (k := k) (b := b) rr h2.nd rv
    obtain ⟨ep', ob⟩ := dgX_obj (H' := upd H a (dG X.w a ep (ofX es))) x1 dd'
    obtain ⟨z1, z2, z3⟩ := dput_at (v := v) h2 h3 (x := .t k b) ⟨k1, ry⟩ (.inr ⟨k2, k3⟩) hl'
    rw [← x2] at z1 z2 z3
    have he : ∃ q, h'.get? a = some q := let ⟨q, _, _, hq, _⟩ := dd'; ⟨q, hq⟩
    refine h (dG X.w a ep' (ofX es')) _ dg_notTup ⟨ep', _, by rw [upd_same, hw], z1, z2, z3⟩ (d_write I (by rw [h1]; exact mut_dg) hs he ?_)
    obtain ⟨ob1, ob2⟩ := ob
    exact ⟨ob1, ob2⟩
theorem g_setd {Q : Value → Shared → Prop} (hu : A.units + 9 < cLine) (I : Inv X pins σ H s) (hK : X.K = T.K) (hw : X.w = T.w) (e : Ex B H) (c : DctAt T B H a ks xs) (hd : dkOk ks d = true) (ry : Rep T B d y) (ru : RelV y u) (rv : RelV v r) (hl : xs.length < sizeLine)
    (h1 : ∀ j w w' s', kpos ks d = some j → xs[j]? = some w → RelV w w' → Inv X pins σ H s' → Q w' s')
    (h2 : kpos ks d = none → ∀ o s', (∀ zs, o ≠ .tup zs) → DctAt T B (upd H a o) a (dputK ks d) (dputV ks xs d v) → Inv X pins σ (upd H a o) s' → Q r s') : wpAny (model X.prog X.w) A (call (.builtin "dict.setdefault") [.ref a, u, r]) Q E s := by
  have hlen : ks.length = xs.length := by obtain ⟨_, es, _, _, h3, rfl⟩ := c; rw [h3.length]; simp
  obtain ⟨ep, es, g1, g2, h3, rfl⟩ := c
  have hl' : es.length < sizeLine := by simpa using hl
  have h1' := g1
  rw [← hw] at h1'
  rcases kreps_key hd h3 ry with ⟨k, k1, rfl, k3⟩ | ⟨k, b, k1, rfl, k2, k3⟩
  · obtain ⟨kvs, vs, rfl, rr, dd⟩ := dgV I.hok h1' g2 k3
    have hz : vs.length ≤ sizeLine := by rw [← rr.length]; exact Nat.le_of_lt (by simpa [ofK] using hl')
    have sn : (ofK kvs).map (·.2) = kvs.map (·.2) := by unfold ofK; rw [List.map_map]; rfl
    have l := valV_kpos h3 k1
    have rl := rr.val k
    have hk : kvs.length = ((ofK kvs).map (·.2)).length := by simp [ofK]
    refine call_meetsIn F.slot_dict_setdefault dd.typeIs F.entry_dict_setdefault (F.args_dict_setdefault_3 _ _ _) (kt_meets_setdefault (mixKind X.prog X.w) a (kV_is ru) g2.sm r) ⟨vs, dd, hz, fun w hw' => ?_, fun hn h' dd' hs => ?_⟩
    · rw [hw'] at rl
      cases q : kpos ks d with
      | none => rw [l, q] at rl; exact (show False from rl).elim
      | some j =>
        rw [l, q, Option.bind_some] at rl
        cases q1 : (kvs.map (·.2))[j]? with
        | none => rw [q1] at rl; exact (show False from rl).elim
        | some v0 => rw [q1] at rl; exact h1 j v0 w _ q (by rw [sn]; exact q1) rl (I.tok _)
    · rw [hn] at rl
      cases q : kpos ks d with
      | some j =>
        have := kpos_lt q
        rw [l, q, Option.bind_some, List.getElem?_eq_getElem (by simp; omega)] at rl
        exact (show False from rl).elim
      | none =>
        obtain ⟨ep', ob⟩ := dgK_obj (H' := upd H a (dG X.w a ep (ofK kvs))) (rr.put k rv) dd'
        obtain ⟨z1, z2, z3⟩ := dput_at (v := v) g2 h3 (x := .v k) k1 (.inl ⟨rfl, k3⟩) hl'
        rw [← ofK_put g2.nd] at z1 z2 z3
        have he : ∃ q, h'.get? a = some q := let ⟨q, _, _, hq, _⟩ := dd'; ⟨q, hq⟩
        refine h2 q (dG X.w a ep' (ofK (putK kvs k v))) _ dg_notTup ⟨ep', _, by rw [upd_same, hw], z1, z2, z3⟩ (d_write I (by rw [g1]; exact mut_dg) hs he ?_)
        obtain ⟨ob1, ob2⟩ := ob
        exact ⟨ob1, ob2⟩
  · obtain ⟨es, ys, rfl, rr, dd⟩ := dgT I.hok (by rw [← hK]; exact I.kIn) h1' g2 (KReps.mono e _ h3) k3
    cases (show u = Value.ref b from ru)
    have hz : ys.length ≤ sizeLine := by rw [← XV.length rr]; exact Nat.le_of_lt (by simpa [ofX] using hl')
    have sn : (ofX es).map (·.2) = es.map (·.2.2) := by unfold ofX; rw [List.map_map]; rfl
    have hk : ys.length = ((ofX es).map (·.2)).length := by simp [ofX, XV.length rr]
    have hi : (nestedKind X.prog X.w).is s.heap k b := by
      refine ⟨nested_of I.hok (by rw [← hK]; exact I.kIn) d (Rep.mono e d ry) rfl k1, ?_⟩
      cases k <;> first | exact of_decide_eq_true k2 | cases k2
    have l := atKey_kpos h3 rr k1
    refine call_setdefault_heap (hsz := hz) (show A.units + 1 + 8 < cLine by omega) hi g2.sm dd (fun p hp => ?_) fun hn h' dd' hs => ?_
    · cases q : kpos ks d with
      | none => rw [l, q] at hp; cases hp
      | some j =>
        have hj := kpos_lt q
        rw [l, q, Option.bind_some] at hp
        have hj' : j < (es.map (·.2.2)).length := by rw [← sn]; omega
        obtain ⟨p', e1, e2⟩ := XV.at rr (List.getElem?_eq_getElem hj')
        rw [hp] at e1; cases e1
        exact h1 j _ _ _ q (by rw [sn]; exact List.getElem?_eq_getElem hj') e2 (I.tok _)
    · cases q : kpos ks d with
      | some j =>
        have := kpos_lt q
        rw [l, q, Option.bind_some, List.getElem?_eq_getElem (by simp; omega)] at hn
        cases hn
      | none =>
        obtain ⟨es', x1, x2⟩ := ofX_put (k := k) (b := b) rr g2.nd rv
        obtain ⟨ep', ob⟩ := dgX_obj (H' := upd H a (dG X.w a ep (ofX es))) x1 dd'
        obtain ⟨z1, z2, z3⟩ := dput_at (v := v) g2 h3 (x := .t k b) ⟨k1, ry⟩ (.inr ⟨k2, k3⟩) hl'
        rw [← x2] at z1 z2 z3
        have he : ∃ q, h'.get? a = some q := let ⟨q, _, _, hq, _⟩ := dd'; ⟨q, hq⟩
        refine h2 q (dG X.w a ep' (ofX es')) _ dg_notTup ⟨ep', _, by rw [upd_same, hw], z1, z2, z3⟩ (d_write I (by rw [g1]; exact mut_dg) hs he ?_)
        obtain ⟨ob1, ob2⟩ := ob
        exact ⟨ob1, ob2⟩
end
end Fz
set_option Elab.async false
set_option linter.all false
set_option maxRecDepth 100000
set_option maxHeartbeats 2000000
namespace Fz
open PySem L2 PySem.Spec PyProof.Rows
def KX.vv : KX → V
  | .v k => kV k
  | .t _ a => .ref a
theorem KX.rel : ∀ {k : KX} {u : Value}, k.is u → RelV k.vv u
  | .v k, u, h => relV_key h
  | .t _ a, u, h => h
section
variable {P : Program} {w : World} {K : PySem.W.Frag} {tg : Expr} {d : Addr} {ep : Nat} {es : List (KX × V)}
def ItgI (w : World) (d : Addr) (ep : Nat) (es : List (KX × V)) : It :=
  ⟨fun i H => H d = some (dG w d ep es) ∧ i < es.length, fun i H x H' => ∃ T e, es[i]? = some e ∧ x = .ref T ∧ H T = none ∧ H' = upd H T (.tup [e.1.vv, e.2]), fun i H => H d = some (dG w d ep es) ∧ es.length ≤ i⟩
theorem ent_len {en : Array DictEntry} (h : Paired (entOk w) es en.toList) : es.length = en.size := by rw [Paired.length h]; simp
theorem ent_get {en : Array DictEntry} (h : Paired (entOk w) es en.toList) {i : Nat} (hi : i < es.length) : ∃ (hl : i < en.size), entOk w (es[i]) en[i] := by
  have l := ent_len h
  refine ⟨by omega, ?_⟩
  obtain ⟨b, hb, e⟩ := paired_get h (List.getElem?_eq_getElem hi)
  rw [Array.getElem?_toList, Array.getElem?_eq_getElem (by omega)] at hb
  cases hb
  exact e
theorem turn_gitems {elts : List Expr} {kk : Nat} {tpos : Pos} (it : Addr) : Turn P w K (.Tuple elts kk tpos) (ItgI w d ep es) [it] it (fun i h => ∃ ok ov, IsItemIter h it d i es.length ep ok ov) where
  mem := by simp
  obj := fun i h st b hb => by
    have e : b = it := by simpa using hb
    subst e
    obtain ⟨ok, ov, e⟩ := st
    exact ⟨_, e, fun v z => nomatch z⟩
  keep := fun i h h' st k => let ⟨ok, ov, e⟩ := st; ⟨ok, ov, k it (by simp) _ e⟩
  item := by
    intro X hP hw hK hc i pins s σ H E I hf st hg
    subst hP hw hK
    obtain ⟨hd, hi⟩ := hg
    obtain ⟨en, raw, pr⟩ := dg_raw I.hok hd
    obtain ⟨hl, eo⟩ := ent_get pr hi
    have l := ent_len pr
    obtain ⟨ok, ov, he⟩ := st
    rw [l] at he
    have hlt : it < s.heap.objs.size := Heap.lt_size he
    refine wpAny_pyNext_items_item_raw he raw hl fun h' ho hT hz hk => ?_
    refine ⟨_, rfl, wpAny_letOwnedTupleGo_items (s := { s with heap := h' }) ho fun h'' he' sb => ?_⟩
    have hT2 : h''.get? s.heap.objs.size = some { cls := .type "tuple", data := .seq #[en[i].key, en[i].val] } := (sb.2 _ (Nat.ne_of_gt hlt)).trans hT
    have new : ObjOk X.prog X.w (upd H s.heap.objs.size (.tup [es[i].1.vv, es[i].2])) h'' s.heap.objs.size (.tup [es[i].1.vv, es[i].2]) :=
      ⟨by show 2 ≤ sizeLine; decide, [en[i].key, en[i].val], .cons (KX.rel eo.2.1) (.cons eo.2.2 .nil), ⟨_, hT2, rfl, _, rfl⟩⟩
    have I1 : Inv X pins σ (upd H s.heap.objs.size (.tup [es[i].1.vv, es[i].2])) { s with heap := h'' } :=
      I.turnedNew (t' := s.toks) (ch := [it]) (fun b ob hb e => (sb.2 b (by simpa using hb)).trans (hk b ob (by simpa using hb) e)) hf (Nat.le_refl _) new
    refine ⟨.ref s.heap.objs.size, _, I1, rfl, ⟨_, es[i], List.getElem?_eq_getElem hi, rfl, I.hok.fresh (Nat.le_refl _), rfl⟩, ⟨en[i].key, en[i].val, ?_⟩, fun b hb => ?_⟩
    · rw [l]; exact he'
    · have e : b = it := by simpa using hb
      rw [e, upd_ne (Nat.ne_of_lt hlt)]
      exact (hf it (by simp)).1
  done := by
    intro X hP hw hK hc i pins s σ H E I hf st hg
    subst hP hw hK
    obtain ⟨hd, hi⟩ := hg
    obtain ⟨f0, f1, f2, f3, f4, f5⟩ := hf it (by simp)
    obtain ⟨en, raw, pr⟩ := dg_raw I.hok hd
    have l := ent_len pr
    obtain ⟨ok, ov, he⟩ := st
    rw [l] at he
    exact wpAny_pyNext_items_end_raw (I.ok.hd hc) he raw (by omega) fun h' eb => ⟨rfl, I.turned (t' := s.toks) (fun b ob hb e => eb b ob hb e) f0 f1 f3 f4 f5⟩
  self := fun A i s Q E st h => let ⟨_, _, e⟩ := st; PySem.W.kcp_self e h
end
def iGItems (w : World) (td : TE) : TI := fun σ H R => td σ H fun x H1 => ∃ d ep es, x = .ref d ∧ H1 d = some (dG w d ep es) ∧ (d == sysModules) = false ∧ R (ItgI w d ep es) H1
section
variable {X : Cx} {tg e : Expr} {td : TE} {apos cpos : Pos}
theorem pi_gitems {elts : List Expr} {kk : Nat} {tpos : Pos} (he : PE X e td) (hbase : attributeBase e "items" X.env (eval e X.env) = eval e X.env := by rfl) (hline : (apos.endLine == cpos.line) = true := by rfl) :
    PI X (.Tuple elts kk tpos) (.Call (.Attribute e "items" apos) [] [] cpos) (iGItems X.w td) := by
  refine ⟨fun pins s σ H R I h => ?_⟩
  refine wpAny_Call_method (T := "dict") (id := "dict.items") hbase rfl hline F.plainAttrs_dict F.slot_dict_items F.type_dict_items (thn (he.run pins s σ H _ I h) fun u s1 ⟨x, H1, I1, rx, d, ep, es, ex, hd, hs, q⟩ => ?_)
  subst ex
  obtain rfl : u = Value.ref d := rx
  obtain ⟨en, raw, pr⟩ := dg_raw I1.hok hd
  have l := ent_len pr
  refine ⟨raw.typeIs, fun b q => ?_, ?_⟩
  · cases q
    obtain ⟨ob, h1, h2, _⟩ := raw
    exact ⟨ob, h1, h2.2.1⟩
  have I2 : Inv X pins σ H1 { s1 with heap := s1.heap.push { cls := .type "dict_items", data := .fields #[.ref d] } } := I1.kept (t' := s1.toks) fun b ob q => Heap.get?_push_of_some _ q
  have fin : wpAny (model X.prog X.w) X.A (pyIter (.ref s1.heap.objs.size)) (PIE X pins σ (.Tuple elts kk tpos) R) X.xe { s1 with heap := s1.heap.push { cls := .type "dict_items", data := .fields #[.ref d] } } := by
    refine wpAny_pyIter_items_raw (d := d) ⟨_, Heap.get?_push_size _ rfl, rfl, rfl⟩ (raw.push _) (pi_one (tk := s1.toks) I2 _ (turn_gitems _) ⟨.none, .none, ?_⟩ q)
    rw [l]
    exact Heap.get?_push_size _ rfl
  show wpAny _ _ (callWith cpos (.builtin "dict.items") [.ref d] [] []) _ X.xe s1
  exact method_meetsIn F.slot_dict_items F.entry_dict_items rfl (PySem.evalArgs_none ⟨rfl, raw.typeIs, F.args_dict_items_1 _, _, meets_dict_items_raw d hs, ⟨_, _, raw⟩, fin⟩)
theorem Inv.toG {pins : List (Addr × Obj)} {σ : L2.St} {H : Hp} {s : Shared} {a : Addr} {kvs : List (Key × V)} (I : Inv X pins σ H s) (h : H a = some (.dK kvs)) : ∃ ep, DGOk a (ofK kvs) ∧ Inv X pins σ (upd H a (dG X.w a ep (ofK kvs))) s := by
  obtain ⟨z, hs, vs, r, dd⟩ := dk_of I.hok h
  obtain ⟨ep, ob⟩ := dgK_obj (H' := upd H a (.dK kvs)) r dd
  have he : ∃ q, s.heap.get? a = some q := let ⟨q, _, _, hq, _⟩ := dd; ⟨q, hq⟩
  have nd : (kvs.map (·.1)).Nodup := by obtain ⟨_, _, _, _, _, _, _, _, n⟩ := dd; rw [r.keys]; exact n
  refine ⟨ep, ⟨by simpa [ofK] using z, hs, ?_, .inl fun e he => ?_⟩, I.write (x := a) (e := a) (t' := s.toks) (h' := s.heap) (by rw [h]; exact True.intro) (.inl rfl) (fun b v _ q => q) he ?_⟩
  · unfold ofK
    rw [List.map_map]
    rw [List.nodup_iff_pairwise_ne, List.pairwise_map] at nd ⊢
    exact nd.imp fun {a b} n e => n (nkK_inj e)
  · unfold ofK at he
    obtain ⟨kv, _, rfl⟩ := List.mem_map.mp he
    rfl
  · obtain ⟨ob1, ob2⟩ := ob
    exact ⟨ob1, ob2⟩
def tToG (w : World) (t : TE) : TE := fun σ H Q => t σ H fun v H' => ∃ a kvs, v = .ref a ∧ H' a = some (.dK kvs) ∧ ∀ ep, DGOk a (ofK kvs) → Q v (upd H' a (dG w a ep (ofK kvs)))
theorem pe_toG (he : PE X e td) : PE X e (tToG X.w td) := by
  refine ⟨fun pins s σ H Q I h => ?_⟩
  refine thn (he.run pins s σ H _ I h) fun u s1 ⟨x, H1, I1, rx, a, kvs, ex, hd, q⟩ => ?_
  obtain ⟨ep, ok, I2⟩ := Inv.toG I1 hd
  exact ⟨x, _, I2, rx, q ep ok⟩
end
end Fz
set_option Elab.async false
set_option linter.all false
set_option maxRecDepth 100000
set_option maxHeartbeats 2000000
namespace Fz
open PySem L2
theorem bnd_some {α β : Type} {m : M α} {k : α → M β} {st : Sl} {o : Oc β} {s : Sl} (h : bnd m k st = some (o, s)) :
    (∃ c, m st = some (.x c, s) ∧ o = .x c) ∨ ∃ a s1, m st = some (.v a, s1) ∧ k a s1 = some (o, s) := by
  unfold bnd at h
  split at h
  · cases h
  · rename_i c s' e; cases h; exact .inl ⟨c, e, rfl⟩
  · rename_i a s' e; exact .inr ⟨a, s', e, h⟩
theorem opt_some {α : Type} {q : Option α} {st : Sl} {o : Oc α} {s : Sl} (h : opt q st = some (o, s)) : ∃ a, q = some a ∧ o = .v a ∧ s = st := by
  unfold opt at h
  split at h
  · cases h
  · cases h; exact ⟨_, rfl, rfl, rfl⟩
section
variable {T : Tab} {E : XK} {st : Sl} {σ : St} {B F H B' H' : Hp}
theorem Okx.weak {α : Type} {o : Oc α} {s : Sl} {Q Q' : α → Hp → Hp → Prop} (h : Okx T E o s σ B F Q) (e : Ex B B') (k : ∀ a B1 H1, Ex B' B1 → Sim T s σ B1 F H1 → Q a B1 H1 → Q' a B1 H1) : Okx T E o s σ B' F Q' := by
  cases o with
  | v a => exact fun B1 H1 e1 S => k a B1 H1 e1 S (h B1 H1 (e.trans e1) S)
  | x c => exact fun d B1 H1 e1 S => h d B1 H1 (e.trans e1) S
theorem okx_bnd {α β : Type} {m : M α} {k : α → M β} {o : Oc β} {s : Sl} (h : bnd m k st = some (o, s)) {Q : β → Hp → Hp → Prop} (hQ : Okx T E o s σ B F Q) {R : α → Hp → Hp → Prop} {P : Prop}
    (run : ∀ o1 s1, m st = some (o1, s1) → Okx T E o1 s1 σ B F R → P)
    (next : ∀ a s1 B1 H1, m st = some (.v a, s1) → k a s1 = some (o, s) → Ex B B1 → Sim T s1 σ B1 F H1 → Okx T E o s σ B1 F Q → R a B1 H1) : P := by
  rcases bnd_some h with ⟨c, e1, rfl⟩ | ⟨a, s1, e1, e2⟩
  · exact run _ _ e1 fun d B1 H1 e S => hQ d B1 H1 e S
  · exact run _ _ e1 fun B1 H1 e S => next a s1 B1 H1 e1 e2 e S (hQ.weak e fun _ _ _ _ _ q => q)
end
def Prim2 (T : Tab) (r : R2) (g : D → D → Option D) : Prop := ∀ x y z vx vy B H (Q : VK), Ex B H → Rep T B x vx → Rep T B y vy → g x y = some z → (∀ v B' H', Ext B H B' H' → Rep T B' z v → Q v H') → r vx vy H Q
def PrimN (T : Tab) (r : List V → Hp → VK → Prop) (g : List D → Option D) : Prop := ∀ xs z vs B H (Q : VK), Ex B H → Reps T B xs vs → g xs = some z → (∀ v B' H', Ext B H B' H' → Rep T B' z v → Q v H') → r vs H Q
def PrimL (T : Tab) (r : List V → Hp → VK → Prop) (g : List D → Option (List D)) : Prop := ∀ xs zs vs B H (Q : VK), Ex B H → Reps T B xs vs → g xs = some zs →
  (∀ p ys B1 H1, Ext B H B1 H1 → H1 p = none → Reps T B1 zs ys → Q (.ref p) (upd H1 p (.lst ys))) → r vs H Q
def eUn (g : D → Option D) (fa : M D) : M D := bnd fa fun x => opt (g x)
def eBin (g : D → D → Option D) (fa fb : M D) : M D := bnd fa fun x => bnd fb fun y => opt (g x y)
def eCons (fa : M D) (fr : M (List D)) : M (List D) := bnd fa fun x => bnd fr fun xs => ret (x :: xs)
def eNil : M (List D) := ret []
def eOp (g : List D → Option D) (fa : M (List D)) : M D := bnd fa fun xs => opt (g xs)
def eTup (fa : M (List D)) : M D := bnd fa fun xs => opt (if xs.length ≤ sizeLine then some (.tup xs) else none)
def rD (fa : M D) : M R := bnd fa fun x => ret (.d x)
def rOp (g : List D → Option (List D)) (fa : M (List D)) : M R := bnd fa fun xs => opt ((g xs).map .ol)
def rLst (fa : M (List D)) : M R := bnd fa fun xs => opt (if xs.length ≤ sizeLine then some (.ol xs) else none)
mutual
def wholeB (n : Nat → Nat) : R → Bool
  | .oi c fs => fs.length == n c
  | .nl cs => wholeBL n cs
  | .nt cs => wholeBL n cs
  | .ni c cs => cs.length == n c && wholeBL n cs
  | .nd _ cs => wholeBL n cs
  | _ => true
def wholeBL (n : Nat → Nat) : List R → Bool
  | [] => true
  | r :: rs => wholeB n r && wholeBL n rs
end
def eFz (n : Nat → Nat) (fr : M R) : M D := bnd fr fun r => opt (if wholeB n r then some (vw r) else none)
section
variable {T : Tab} {E : L2.St → XK} {ta tb te : TE} {fa fb : M D}
theorem semE_op {r : R2} {g : D → D → Option D} (hr : Prim2 T r g) (ha : SemE T E ta fa) (hb : SemE T E tb fb) : SemE T E (tOp r ta tb) (eBin g fa fb) := by
  intro st σ B F H S o s h Q hQ
  refine okx_bnd h hQ (fun o1 s1 e1 q => ha st σ B F H S o1 s1 e1 _ q) fun a s1 B1 H1 _ h2 e1 S1 hQ1 v hv => ?_
  refine okx_bnd h2 hQ1 (fun o1 s2 e2 q => hb s1 σ B1 F H1 S1 o1 s2 e2 _ q) fun b s2 B2 H2 _ h3 e2 S2 hQ2 u hu => ?_
  obtain ⟨z, hz, rfl, rfl⟩ := opt_some h3
  exact hr a b z v u B2 H2 Q S2.exB (Rep.mono e2 a hv) hu hz fun u B3 H3 e3 hu => hQ2 B3 H3 e3.b (S2.ext e3) u hu
theorem semA_nil : SemA T E tNil eNil := by
  intro st σ B F H S o s h Q hQ
  have e : eNil st = some (.v [], st) := rfl
  rw [e] at h; cases h
  exact hQ B H (.refl B) S [] reps_nil
theorem semA_cons {t : TA} {fr : M (List D)} (ha : SemE T E ta fa) (hr : SemA T E t fr) : SemA T E (tCons ta t) (eCons fa fr) := by
  intro st σ B F H S o s h Q hQ
  refine okx_bnd h hQ (fun o1 s1 e1 q => ha st σ B F H S o1 s1 e1 _ q) fun a s1 B1 H1 _ h2 e1 S1 hQ1 v hv => ?_
  refine okx_bnd h2 hQ1 (fun o1 s2 e2 q => hr s1 σ B1 F H1 S1 o1 s2 e2 _ q) fun b s2 B2 H2 _ h3 e2 S2 hQ2 us hus => ?_
  cases h3
  exact hQ2 B2 H2 (.refl _) S2 (v :: us) (reps_cons (Rep.mono e2 a hv) hus)
theorem semE_callN {r : List V → Hp → VK → Prop} {g : List D → Option D} {t : TA} {f : M (List D)} (hr : PrimN T r g) (ha : SemA T E t f) : SemE T E (tCB r t) (eOp g f) := by
  intro st σ B F H S o s h Q hQ
  refine okx_bnd h hQ (fun o1 s1 e1 q => ha st σ B F H S o1 s1 e1 _ q) fun a s1 B1 H1 _ h2 e1 S1 hQ1 v hv => ?_
  obtain ⟨z, hz, rfl, rfl⟩ := opt_some h2
  exact hr a z v B1 H1 Q S1.exB hv hz fun u B2 H2 e2 hu => hQ1 B2 H2 e2.b (S1.ext e2) u hu
theorem relR_ol {B H : Hp} {p : Addr} {ys : List V} {xs : List D} (h : H p = some (.lst ys)) (r : Reps T B xs ys) : RelR T B H (.ol xs) (.ref p) := ⟨p, ys, rfl, h, r⟩
theorem semR_callL {r : List V → Hp → VK → Prop} {g : List D → Option (List D)} {t : TA} {f : M (List D)} (hr : PrimL T r g) (ha : SemA T E t f) : SemR T E (tCB r t) (rOp g f) := by
  intro st σ B F H S o s h Q hQ
  rcases bnd_some h with ⟨c, e1, rfl⟩ | ⟨a, s1, e1, e2⟩
  · exact ha st σ B F H S _ _ e1 _ hQ
  · obtain ⟨z, hz, rfl, rfl⟩ := opt_some e2
    cases hg : g a with
    | none => rw [hg] at hz; cases hz
    | some zs =>
      rw [hg] at hz; cases hz
      refine ha st σ B F H S _ _ e1 _ fun B1 H1 x1 S1 vs hvs => ?_
      refine hr a zs vs B1 H1 Q S1.exB hvs hg fun p ys B2 H2 x2 hp hy => ?_
      have S2 := S1.ext x2
      exact hQ _ B2 _ (x1.trans x2.b) (S2.alloc hp (fun _ z => nomatch z) (relR_ol upd_same hy))
theorem rep_tup {B : Hp} {p : Addr} {xs : List D} {vs : List V} (h : B p = some (.tup vs)) (r : Reps T B xs vs) : Rep T B (.tup xs) (.ref p) := by
  unfold Rep; exact ⟨p, vs, rfl, .inl h, r⟩
theorem semE_tup {t : TA} {f : M (List D)} (ha : SemA T E t f) : SemE T E (tTup t) (eTup f) := by
  intro st σ B F H S o s h Q hQ
  refine okx_bnd h hQ (fun o1 s1 e1 q => ha st σ B F H S o1 s1 e1 _ q) fun a s1 B1 H1 _ h2 e1 S1 hQ1 v hv => ?_
  obtain ⟨z, hz, rfl, rfl⟩ := opt_some h2
  split at hz
  · rename_i hl
    cases hz
    refine ⟨by rw [← hv.length]; exact hl, fun p hp => ?_⟩
    have x := Ext.newT (o := .tup v) S1.exB hp
    exact hQ1 _ _ x.b (S1.ext x) _ (rep_tup upd_same (Reps.mono x.b _ hv))
  · cases hz
theorem semR_lst {t : TA} {f : M (List D)} (ha : SemA T E t f) : SemR T E (tLst t) (rLst f) := by
  intro st σ B F H S o s h Q hQ
  rcases bnd_some h with ⟨c, e1, rfl⟩ | ⟨a, s1, e1, e2⟩
  · exact ha st σ B F H S _ _ e1 _ hQ
  · obtain ⟨z, hz, rfl, rfl⟩ := opt_some e2
    split at hz
    · rename_i hl
      cases hz
      refine ha st σ B F H S _ _ e1 _ fun B1 H1 x1 S1 vs hvs => ?_
      exact ⟨by rw [← hvs.length]; exact hl, fun p hp => hQ _ B1 _ x1 (S1.alloc hp (fun _ z => nomatch z) (relR_ol upd_same hvs))⟩
    · cases hz
theorem semR_d (ha : SemE T E ta fa) : SemR T E ta (rD fa) := by
  intro st σ B F H S o s h Q hQ
  rcases bnd_some h with ⟨c, e1, rfl⟩ | ⟨a, s1, e1, e2⟩
  · exact ha st σ B F H S _ _ e1 _ hQ
  · cases e2
    exact ha st σ B F H S _ _ e1 _ fun B1 H1 x1 S1 v hv => hQ v B1 H1 x1 (S1.push hv)
mutual
theorem whole_of : ∀ {r : R}, wholeB (fun c => (T.flds c).length) r = true → whole T r
  | .d _, _ => by unfold whole; trivial
  | .ol _, _ => by unfold whole; trivial
  | .od _ _, _ => by unfold whole; trivial
  | .oi c fs, h => by unfold whole; unfold wholeB at h; exact beq_iff_eq.mp h
  | .nl cs, h => by unfold whole; unfold wholeB at h; exact wholeL_of h
  | .nt cs, h => by unfold whole; unfold wholeB at h; exact wholeL_of h
  | .nd _ cs, h => by unfold whole; unfold wholeB at h; exact wholeL_of h
  | .ni c cs, h => by
    unfold whole; unfold wholeB at h
    have h := (Bool.and_eq_true _ _).mp h
    exact ⟨beq_iff_eq.mp h.1, wholeL_of h.2⟩
theorem wholeL_of : ∀ {rs : List R}, wholeBL (fun c => (T.flds c).length) rs = true → wholeL T rs
  | [], _ => by unfold wholeL; trivial
  | r :: rs, h => by
    unfold wholeL; unfold wholeBL at h
    have h := (Bool.and_eq_true _ _).mp h
    exact ⟨whole_of h.1, wholeL_of h.2⟩
end
theorem semE_fz {fr : M R} (ha : SemR T E ta fr) : SemE T E ta (eFz (fun c => (T.flds c).length) fr) := by
  intro st σ B F H S o s h Q hQ
  rcases bnd_some h with ⟨c, e1, rfl⟩ | ⟨a, s1, e1, e2⟩
  · exact ha st σ B F H S _ _ e1 _ hQ
  · obtain ⟨z, hz, rfl, rfl⟩ := opt_some e2
    split at hz
    · rename_i hw
      cases hz
      refine ha st σ B F H S _ _ e1 _ fun v B1 H1 x1 S1 => ?_
      obtain ⟨B2, x2, S2, hv⟩ := S1.freezeTop (whole_of hw)
      exact hQ B2 H1 (x1.trans x2) S2 v hv
    · cases hz
def eVar (i : Nat) : M D := fun st => match st[i]? with
  | some (some (.d x)) => some (.v x, st)
  | some (some (.ol xs)) => some (.v (.lst xs), st.set i (some (.d (.lst xs))))
  | some (some (.od ks vs)) => some (.v (.dct ks vs), st.set i (some (.d (.dct ks vs))))
  | _ => none
theorem semE_var {i : Nat} : SemE T E (tVar i) (eVar i) := by
  intro st σ B F H S o s h Q hQ
  unfold eVar at h
  split at h
  · rename_i x hi
    cases h
    obtain ⟨v, hv, r⟩ := S.rel i _ hi
    exact ⟨v, hv, hQ B H (.refl B) S v r⟩
  · rename_i x hi
    cases h
    obtain ⟨v, hv, r⟩ := S.rel i _ hi
    obtain ⟨B1, e1, S1, hr⟩ := S.freeze hi trivial
    exact ⟨v, hv, hQ B1 H e1 S1 v (hr v hv)⟩
  · rename_i ks vs hi
    cases h
    obtain ⟨v, hv, r⟩ := S.rel i _ hi
    obtain ⟨B1, e1, S1, hr⟩ := S.freeze hi trivial
    exact ⟨v, hv, hQ B1 H e1 S1 v (hr v hv)⟩
  · cases h
theorem semE_c {x : D} {v : V} (hr : ∀ B, Rep T B x v) : SemE T E (tC v) (ret x) := by
  intro st σ B F H S o s h Q hQ
  cases h
  exact hQ B H (.refl B) S v (hr B)
end
def vwN (n : Nat → Nat) (st : Sl) : Sl := st.map fun s => match s with
  | some r => if wholeB n r then some (.d (vw r)) else none
  | none => none
section
variable {T : Tab} {E : L2.St → XK} {st : Sl} {σ : St} {B F H B' H' : Hp}
def inTT (T : Tab) (a : Addr) : Prop := ∃ p ∈ T.tt, p.1 = a
open Classical in
noncomputable def noT (T : Tab) (H : Hp) : Hp := fun a => if inTT T a then none else H a
theorem noT_ex : Ex (noT T H) H := fun a o h => by
  unfold noT at h
  split at h
  · cases h
  · exact h
theorem noT_out {a : Addr} (n : ¬ inTT T a) : noT T H a = H a := if_neg n
theorem TbOk.nin (x : TbOk T B F H) {a : Addr} {o : HO} (h : H a = some o) (n : ∀ ps, o ≠ .tbl ps) : ¬ inTT T a := by
  rintro ⟨p, hp, e⟩
  obtain ⟨_, ps, h3, _⟩ := x.tab p hp
  rw [e, h] at h3
  exact n ps (Option.some.inj h3)
theorem ntb_tbl {o : HO} (h : ¬ isTb o) : ∀ ps, o ≠ .tbl ps := fun ps e => h (.inl ⟨ps, e⟩)
theorem addS_noT (S : Sim T st σ B F H) : addS B H (fun a => ¬ inTT T a) = noT T H := by
  funext b
  by_cases h : inTT T b
  · rw [addS_out (fun z => z h)]
    obtain ⟨p, hp, e⟩ := h
    rw [show noT T H b = none from if_pos ⟨p, hp, e⟩, ← e]
    exact (S.tbs.tab p hp).1
  · rw [addS_in h, noT_out h]
theorem code_ne_tbl {c : Addr} {q : Str} : ∀ ps, CodeO c q ≠ .tbl ps := fun ps z => by unfold CodeO at z; cases z
theorem Sim.exN (S : Sim T st σ B F H) : Ex B (noT T H) := fun a o h => by
  rw [noT_out]
  · exact S.exB a o h
  · rintro ⟨p, hp, e⟩
    have := (S.tbs.tab p hp).1
    rw [e, h] at this; cases this
theorem relR_full (S : Sim T st σ B F H) {r : R} {v : V} (h : RelR T B H r v) (w : whole T r) : Rep T (noT T H) (vw r) v := by
  have := repR (S := fun a => ¬ inTT T a) (by rw [addS_noT S]; exact S.exN) h (fun b z => by
    obtain ⟨⟨o, ho⟩, _⟩ := h.ow z
    exact S.tbs.nin ho (ntb_tbl (h.ntb z o ho))) w
  rwa [addS_noT S] at this
theorem Sim.full (S : Sim T st σ B F H) : Sim T (vwN (fun c => (T.flds c).length) st) σ (noT T H) (fun _ => none) H := by
  have inv : ∀ {i : Nat} {r : R}, (vwN (fun c => (T.flds c).length) st)[i]? = some (some r) → ∃ q, st[i]? = some (some q) ∧ whole T q ∧ r = .d (vw q) := fun {i r} h => by
    unfold vwN at h
    rw [List.getElem?_map] at h
    cases e : st[i]? with
    | none => rw [e] at h; cases h
    | some s =>
      rw [e] at h
      cases s with
      | none => cases h
      | some q =>
        by_cases hw : wholeB (fun c => (T.flds c).length) q = true
        · simp only [Option.map_some, hw, if_true] at h
          cases h
          exact ⟨q, rfl, whole_of hw, rfl⟩
        · simp only [Option.map_some, hw, if_false] at h
          cases h
  refine ⟨noT_ex, fun _ _ h => (nomatch h), fun _ _ h => (nomatch h), fun a xs h => by rw [noT_out (S.tbs.nin h (fun ps z => nomatch z))]; exact h, by unfold vwN; rw [List.length_map]; exact S.len, fun i r h => ?_, fun i r v a h1 h2 h3 => ?_, fun i j r q v u a n h1 h2 h3 h4 h5 h6 => ?_, ⟨fun _ _ h => (nomatch h), fun p hp => ?_⟩⟩
  · obtain ⟨q, h1, w, rfl⟩ := inv h
    obtain ⟨v, hv, rel⟩ := S.rel i q h1
    exact ⟨v, hv, relR_full S rel w⟩
  · obtain ⟨q, _, _, rfl⟩ := inv h1
    exact h3.elim
  · obtain ⟨q', _, _, rfl⟩ := inv h1
    exact h5.elim
  · obtain ⟨h1, ps, h3, h4, h5⟩ := S.tbs.tab p hp
    refine ⟨if_pos ⟨p, hp, rfl⟩, ps, h3, h4, fun pos cv hc => ?_⟩
    obtain ⟨c, a, b⟩ := h5 pos cv hc
    exact ⟨c, a, S.exN _ _ b⟩
def isCd (T : Tab) (H : Hp) (a : Addr) : Prop := ∃ p ∈ T.tt, ∃ (ps : Array Value) (pos : Pos), H p.1 = some (.tbl ps) ∧ codeAmong pos ps.toList = some (.ref a)
open Classical in
noncomputable def tups (T : Tab) (B H : Hp) : Hp := fun a => if (∃ xs, H a = some (.tup xs)) ∨ isCd T H a then H a else B a
theorem isCd_at {B1 F1 : Hp} (t : TbOk T B1 F1 H) (b : Ex B1 H) {a : Addr} (h : isCd T H a) : ∃ q, H a = some (CodeO a q) := by
  obtain ⟨p, hp, ps, pos, h1, h2⟩ := h
  obtain ⟨_, ps', h3, _, h5⟩ := t.tab p hp
  rw [h1] at h3; cases h3
  obtain ⟨c, e, z⟩ := h5 pos _ h2
  cases e
  exact ⟨_, b _ _ z⟩
theorem code_isTb {c : Addr} {q : Str} : isTb (CodeO c q) := .inr ⟨c, q, rfl⟩
theorem Sim.atB (S : Sim T st σ B F H) (e : Ex (noT T H) H') {a : Addr} {o : HO} (h : H a = some o) (n : ¬ isTb o) : H' a = some o := e a o (by rw [noT_out (S.tbs.nin h (ntb_tbl n))]; exact h)
theorem Sim.tkB (S : Sim T st σ B F H) (e : Ex (noT T H) H') : Tk H H' := fun a xs h => S.atB e h tup_ntb
theorem Sim.bkOw (S : Sim T st σ B F H) (e : Ex (noT T H) H') {i : Nat} {r : R} {v : V} {a : Addr} (h1 : st[i]? = some (some r)) (h2 : σ[i]? = some (some v)) (o : Ow H' r v a) : Ow H r v a := by
  obtain ⟨v', h4, h5⟩ := S.rel i r h1
  rw [h2] at h4; cases h4
  exact Ow.back (S.tkB e) h5 (fun p o z q => S.atB e q (S.ntb h1 h2 z o q)) o
theorem free_noT {B1 F1 : Hp} (x : Ex (noT T H) B1) {p : Addr} (n : B1 p = none) (t : TbOk T B1 F1 H') {o : HO} (h : H' p = some o) (k : ∀ ps, o ≠ .tbl ps) : H p = none := by
  have := x.free n
  rwa [noT_out (t.nin h k)] at this
theorem Sim.back {B1 F1 : Hp} (S : Sim T st σ B F H) (e : Ex (noT T H) H') (t : TbOk T B1 F1 H') (b : Ex B1 H') : Ex B (tups T B H') ∧ Sim T st σ (tups T B H') F H' ∧ ∀ a xs, H' a = some (.tup xs) → tups T B H' a = some (.tup xs) := by
  have at_ : ∀ {a : Addr} {o : HO}, H a = some o → ¬ isTb o → H' a = some o := fun {a o} h n => e a o (by rw [noT_out (S.tbs.nin h (ntb_tbl n))]; exact h)
  have tk : Tk H H' := fun a xs h => at_ h tup_ntb
  have ko : ∀ (i : Nat) r v, st[i]? = some (some r) → σ[i]? = some (some v) → ∀ p o, Ow H r v p → H p = some o → H' p = some o := fun i r v h1 h2 p o z q => at_ q (S.ntb h1 h2 z o q)
  have bk : ∀ (i : Nat) r v a, st[i]? = some (some r) → σ[i]? = some (some v) → Ow H' r v a → Ow H r v a := fun i r v a h1 h2 o => by
    obtain ⟨v', h4, h5⟩ := S.rel i r h1
    rw [h2] at h4; cases h4
    exact Ow.back tk h5 (ko i r v h1 h2) o
  have eB : Ex B H' := fun a o h => e a o (S.exN a o h)
  have e1 : Ex B (tups T B H') := fun a o h => by
    unfold tups
    split
    · exact eB a o h
    · exact h
  have tp : ∀ a xs, H' a = some (.tup xs) → tups T B H' a = some (.tup xs) := fun a xs h => by
    unfold tups
    rw [if_pos (.inl ⟨xs, h⟩)]; exact h
  have eF : Ex F H' := fun a o h => at_ (S.exF a o h) (S.tbs.noF a o h)
  refine ⟨e1, ⟨fun a o h => ?_, eF, fun a o h => ?_, tp, S.len, fun i r h => ?_, fun i r v a h1 h2 h3 => ?_, fun i j r q v u a n h1 h2 h3 h4 h5 h6 => S.sep i j r q v u a n h1 h2 h3 h4 (bk i r v a h1 h2 h5) (bk j q u a h3 h4 h6), ⟨S.tbs.noF, fun p hp => ?_⟩⟩, tp⟩
  · unfold tups at h
    split at h
    · exact h
    · exact eB a o h
  · unfold tups
    split
    · rename_i z
      have q := eF a o h
      rcases z with ⟨xs, z⟩ | z
      · rw [z] at q
        cases q
        have := S.tup a xs (S.exF a _ h)
        rw [S.dis a _ h] at this; cases this
      · obtain ⟨n, z⟩ := isCd_at t b z
        rw [z] at q
        cases q
        exact (S.tbs.noF a _ h code_isTb).elim
    · exact S.dis a o h
  · obtain ⟨v, h1, h2⟩ := S.rel i r h
    exact ⟨v, h1, h2.keep e1 tk (ko i r v h h1)⟩
  · have h3 := bk i r v a h1 h2 h3
    obtain ⟨z1, z2⟩ := S.own i r v a h1 h2 h3
    refine ⟨?_, z2⟩
    obtain ⟨v', h4, h5⟩ := S.rel i r h1
    rw [h2] at h4; cases h4
    obtain ⟨⟨o, h6⟩, nt⟩ := h5.ow h3
    have ob := h5.ntb h3 o h6
    unfold tups
    split
    · rename_i z
      have q := at_ h6 ob
      rcases z with ⟨xs, z⟩ | z
      · rw [q] at z
        cases z
        exact (nt xs h6).elim
      · obtain ⟨n, z⟩ := isCd_at t b z
        rw [q] at z
        cases z
        exact (ob code_isTb).elim
    · exact z1
  · obtain ⟨h1, ps, h3, h4, h5⟩ := t.tab p hp
    refine ⟨?_, ps, h3, h4, fun pos cv hc => ?_⟩
    · unfold tups
      rw [if_neg]
      · exact (S.tbs.tab p hp).1
      · rintro (⟨xs, z⟩ | z)
        · rw [h3] at z; cases z
        · obtain ⟨n, z⟩ := isCd_at t b z
          rw [h3] at z
          exact code_ne_tbl _ (Option.some.inj z).symm
    · obtain ⟨c, a1, b1⟩ := h5 pos cv hc
      refine ⟨c, a1, ?_⟩
      subst a1
      unfold tups
      rw [if_pos (.inr ⟨p, hp, ps, pos, h3, hc⟩)]
      exact b _ _ b1
def eFull (n : Nat → Nat) (f : M D) : M D := fun st => match f (vwN n st) with
  | some (.v x, _) => if imm x then some (.v x, st) else none
  | some (.x c, _) => some (.x c, st)
  | none => none
theorem imms_rep {T : Tab} {B B' : Hp} (e : ∀ a xs, B a = some (.tup xs) → B' a = some (.tup xs)) : ∀ (ds : List D) {xs : List V}, imms ds = true → Reps T B ds xs → Reps T B' ds xs
  | [], _, _, h => h
  | d :: ds, xs, i, h => by
    unfold Reps at h
    unfold imms at i
    obtain ⟨v, r, e1, e2, e3⟩ := h
    have i' := (Bool.and_eq_true _ _).mp i
    unfold Reps
    exact ⟨v, r, e1, imm_rep e d i'.1 e2, imms_rep e ds i'.2 e3⟩
def rFull (n : Nat → Nat) (f : M R) : M R := fun st => match f (vwN n st) with
  | some (.v (.ol xs), _) => if imms xs then some (.v (.ol xs), st) else none
  | some (.v (.d x), _) => if imm x then some (.v (.d x), st) else none
  | some (.x c, _) => some (.x c, st)
  | _ => none
theorem semR_all {te : TE} {f : M R} (h : SemR T E te f) : SemR T E te (rFull (fun c => (T.flds c).length) f) := by
  intro st σ B F H S o s hf Q hQ
  unfold rFull at hf
  split at hf
  · rename_i xs s1 e1
    split at hf
    · rename_i hi
      cases hf
      refine h _ σ (noT T H) _ H S.full _ _ e1 Q fun v B1 H1 x1 S1 => ?_
      obtain ⟨b1, b2, b3⟩ := S.back (x1.trans S1.exB) S1.tbs S1.exB
      obtain ⟨p, ys, ev, hp, hr⟩ := S1.top
      subst ev
      have hn : B1 p = none := (S1.own 0 _ _ p rfl rfl rfl).1
      have hH : H p = none := free_noT x1 hn S1.tbs hp (fun _ z => nomatch z)
      refine hQ _ _ H1 b1 ⟨b2.exB, b2.exF, b2.dis, b2.tup, by simp [b2.len], fun i r q => ?_, fun i r v a h1 h2 h3 => ?_, fun i j r q v u a n h1 h2 h3 h4 h5 h6 => ?_, b2.tbs⟩
      · cases i with
        | zero => simp at q; subst q; exact ⟨_, rfl, p, ys, rfl, hp, imms_rep (fun a xs z => b3 a xs (S1.exB a _ z)) _ hi hr⟩
        | succ i => obtain ⟨u, a, b⟩ := b2.rel i r (by simpa using q); exact ⟨u, by simpa using a, b⟩
      · cases i with
        | zero =>
          simp at h1 h2; subst h1; subst h2
          have e : p = a := by cases h3; rfl
          subst e
          refine ⟨?_, S.exF.free hH⟩
          unfold tups
          rw [if_neg (by
            rintro (⟨xs, z⟩ | z)
            · rw [hp] at z; cases z
            · obtain ⟨n, z⟩ := isCd_at S1.tbs S1.exB z
              rw [hp] at z
              exact lst_ntb (.inr ⟨_, _, Option.some.inj z⟩))]
          exact S.exB.free hH
        | succ i => exact b2.own i r v a (by simpa using h1) (by simpa using h2) h3
      · have no : ∀ (k : Nat) y x, st[k]? = some (some y) → σ[k]? = some (some x) → Ow H1 y x p → False := fun k y x g1 g2 g3 => by
          obtain ⟨u', a', b'⟩ := S.rel k y g1
          rw [g2] at a'; cases a'
          obtain ⟨⟨o', h'⟩, _⟩ := b'.ow (S.bkOw (x1.trans S1.exB) g1 g2 g3)
          rw [hH] at h'; cases h'
        cases i with
        | zero =>
          simp at h1 h2; subst h1; subst h2
          have e : p = a := by cases h5; rfl
          subst e
          cases j with
          | zero => exact n rfl
          | succ j => exact no j q u (by simpa using h3) (by simpa using h4) h6
        | succ i =>
          cases j with
          | zero =>
            simp at h3 h4; subst h3; subst h4
            have e : p = a := by cases h6; rfl
            subst e
            exact no i r v (by simpa using h1) (by simpa using h2) h5
          | succ j => exact b2.sep i j r q v u a (by omega) (by simpa using h1) (by simpa using h2) (by simpa using h3) (by simpa using h4) h5 h6
    · cases hf
  · rename_i x s1 e1
    split at hf
    · rename_i hi
      cases hf
      refine h _ σ (noT T H) _ H S.full _ _ e1 Q fun v B1 H1 x1 S1 => ?_
      obtain ⟨b1, b2, b3⟩ := S.back (x1.trans S1.exB) S1.tbs S1.exB
      exact hQ _ _ H1 b1 (b2.push (imm_rep (fun a xs z => b3 a xs (S1.exB a _ z)) x hi S1.top))
    · cases hf
  · rename_i c s1 e1
    cases hf
    refine h _ σ (noT T H) _ H S.full _ _ e1 Q fun d B1 H1 x1 S1 => ?_
    obtain ⟨b1, b2, b3⟩ := S.back (x1.trans S1.exB) S1.tbs S1.exB
    exact hQ d _ H1 b1 b2
  · cases hf
end
end Fz
set_option Elab.async false
set_option linter.all false
set_option maxRecDepth 100000
set_option maxHeartbeats 2000000
namespace Fz
open PySem L2
inductive Fl where
  | nx | rt (r : R) | bk | ct | x (c : Nat)
abbrev MS := Sl → Option (Fl × Sl)
def Kp (kp : Nat → Bool) (σ σ' : St) : Prop := ∀ i, kp i = true → σ'[i]? = σ[i]?
theorem Kp.refl (kp : Nat → Bool) (σ : St) : Kp kp σ σ := fun _ _ => rfl
theorem Kp.trans {kp : Nat → Bool} {a b c : St} (h : Kp kp a b) (g : Kp kp b c) : Kp kp a c := fun i e => (g i e).trans (h i e)
theorem Kp.set {kp : Nat → Bool} {σ : St} {i : Nat} {v : Option V} (h : kp i = false) : Kp kp σ (σ.set i v) := fun j e => by
  rw [List.getElem?_set_ne]
  rintro rfl
  rw [h] at e; cases e
def OkS (T : Tab) (E : L2.St → XK) (kp : Nat → Bool) (fl : Fl) (st : Sl) (σ : St) (B F : Hp) (D : Ends) : Prop := match fl with
  | .nx => ∀ σ' B' H', Ex B B' → Kp kp σ σ' → Sim T st σ' B' F H' → D.nx σ' H'
  | .bk => ∀ σ' B' H', Ex B B' → Kp kp σ σ' → Sim T st σ' B' F H' → D.bk σ' H'
  | .ct => ∀ σ' B' H', Ex B B' → Kp kp σ σ' → Sim T st σ' B' F H' → D.ct σ' H'
  | .rt r => ∀ v σ' B' H', Ex B B' → Kp kp σ σ' → Sim T (some r :: st) (some v :: σ') B' F H' → D.rt v H'
  | .x c => ∀ (d : DN) σ' B' H', Ex B B' → Kp kp σ σ' → Sim T st σ' B' F H' → E σ' (.ref (T.cls c)) d.1 H'
def SemS (T : Tab) (E : L2.St → XK) (kp : Nat → Bool) (ts : TS) (f : MS) : Prop := ∀ st σ B F H, Sim T st σ B F H → ∀ fl s, f st = some (fl, s) → ∀ D : Ends, OkS T E kp fl s σ B F D → ts D σ H
def SemG (T : Tab) (kp : Nat → Bool) (g : TG) (gf : D → Sl → Option Sl) : Prop := ∀ st σ B F H, Sim T st σ B F H → ∀ d v s, Rep T B d v → gf d st = some s → ∀ Q : St → Hp → Prop, (∀ σ', Kp kp σ σ' → Sim T s σ' B F H → Q σ' H) → g v σ H Q
def SemGs (T : Tab) (kp : Nat → Bool) (g : TGs) (gf : List D → Sl → Option Sl) : Prop := ∀ st σ B F H, Sim T st σ B F H → ∀ ds vs s, Reps T B ds vs → gf ds st = some s → ∀ Q : St → Hp → Prop, (∀ σ', Kp kp σ σ' → Sim T s σ' B F H → Q σ' H) → g vs σ H Q
structure Steps (T : Tab) (J : It) (ds : List D) (B : Hp) : Prop where
  go : ∀ i H, i < ds.length → Ex B H → J.go i H
  stop : ∀ H, Ex B H → J.stop ds.length H
  yld : ∀ i d H x H' B1, ds[i]? = some d → Ex B B1 → Ex B1 H → J.yld i H x H' → ∃ B2, Ext B1 H B2 H' ∧ Rep T B2 d x
def SemI (T : Tab) (E : L2.St → XK) (wi : TI) (f : M (List D)) : Prop := ∀ st σ B F H, Sim T st σ B F H → ∀ o s, f st = some (o, s) → ∀ R : It → Hp → Prop, Okx T (E σ) o s σ B F (fun ds B' H' => ∀ J, Steps T J ds B' → R J H') → wi σ H R
def gN (i : Nat) : D → Sl → Option Sl := fun d st => some (st.set i (some (.d d)))
def gsN : List D → Sl → Option Sl := fun ds st => match ds with
  | [] => some st
  | _ => none
def gsC (f : D → Sl → Option Sl) (g : List D → Sl → Option Sl) : List D → Sl → Option Sl := fun ds st => match ds with
  | d :: r => (f d st).bind (g r)
  | [] => none
def gT (n : Nat) (g : List D → Sl → Option Sl) : D → Sl → Option Sl := fun d st => match d with
  | .tup ds => if ds.length = n then g ds st else none
  | _ => none
section
variable {T : Tab} {E : L2.St → XK} {kp : Nat → Bool} {st : Sl} {σ σ' : St} {B F H B' H' : Hp}
theorem OkS.weak {fl : Fl} {s : Sl} {D D' : Ends} (h : OkS T E kp fl s σ B F D) (e : Ex B B') (k : Kp kp σ σ') (hn : fl = .nx → ∀ a b, D.nx a b → D'.nx a b) (hb : fl = .bk → ∀ a b, D.bk a b → D'.bk a b) (hc : fl = .ct → ∀ a b, D.ct a b → D'.ct a b) (hr : ∀ a b, D.rt a b → D'.rt a b) : OkS T E kp fl s σ' B' F D' := by
  cases fl with
  | nx => exact fun σ1 B1 H1 e1 k1 S => hn rfl _ _ (h σ1 B1 H1 (e.trans e1) (k.trans k1) S)
  | bk => exact fun σ1 B1 H1 e1 k1 S => hb rfl _ _ (h σ1 B1 H1 (e.trans e1) (k.trans k1) S)
  | ct => exact fun σ1 B1 H1 e1 k1 S => hc rfl _ _ (h σ1 B1 H1 (e.trans e1) (k.trans k1) S)
  | rt r => exact fun v σ1 B1 H1 e1 k1 S => hr _ _ (h v σ1 B1 H1 (e.trans e1) (k.trans k1) S)
  | x c => exact fun d σ1 B1 H1 e1 k1 S => h d σ1 B1 H1 (e.trans e1) (k.trans k1) S
theorem OkS.same {fl : Fl} {s : Sl} {D : Ends} (h : OkS T E kp fl s σ B F D) (e : Ex B B') (k : Kp kp σ σ') : OkS T E kp fl s σ' B' F D :=
  h.weak e k (fun _ _ _ z => z) (fun _ _ _ z => z) (fun _ _ _ z => z) fun _ _ z => z
theorem semG_name {i : Nat} (hk : kp i = false) : SemG T kp (gName i) (gN i) := by
  intro st σ B F H S d v s r h Q q
  cases h
  exact q _ (Kp.set hk) (Sim.store (S.push r) i)
theorem semGs_nil : SemGs T kp gNil gsN := by
  intro st σ B F H S ds vs s r h Q q
  cases ds with
  | nil =>
    unfold Reps at r
    cases h
    exact ⟨r, q _ (Kp.refl _ _) S⟩
  | cons d ds => cases h
theorem semGs_cons {g : TG} {gs : TGs} {f : D → Sl → Option Sl} {fs : List D → Sl → Option Sl} (h1 : SemG T kp g f) (h2 : SemGs T kp gs fs) : SemGs T kp (gCons g gs) (gsC f fs) := by
  intro st σ B F H S ds vs s r h Q q
  cases ds with
  | nil => cases h
  | cons d ds =>
    unfold Reps at r
    obtain ⟨v, r', rfl, rd, rr⟩ := r
    have h : (f d st).bind (fs ds) = some s := h
    cases e : f d st with
    | none => rw [e] at h; cases h
    | some s1 =>
      rw [e] at h
      exact ⟨v, r', rfl, h1 st σ B F H S d v s1 rd e _ fun σ1 k1 S1 => h2 s1 σ1 B F H S1 ds r' s rr h _ fun σ2 k2 S2 => q σ2 (k1.trans k2) S2⟩
theorem semG_tup {n : Nat} {gs : TGs} {fs : List D → Sl → Option Sl} (h1 : SemGs T kp gs fs) : SemG T kp (gTup T.K n gs) (gT n fs) := by
  intro st σ B F H S d v s r h Q q
  unfold gT at h
  split at h
  · rename_i ds
    split at h
    · rename_i hl
      unfold Rep at r
      obtain ⟨a, xs, rfl, ht, hr⟩ := r
      exact ⟨a, xs, rfl, (S.exB.tu ht).sq, by rw [← hr.length]; exact hl, h1 st σ B F H S ds xs s hr h Q q⟩
    · cases h
  · cases h
def sNext : MS := fun st => some (.nx, st)
def sSeq (f g : MS) : MS := fun st => match f st with
  | some (.nx, s) => g s
  | r => r
theorem semS_next : SemS T E kp tNext sNext := by
  intro st σ B F H S fl s h D hD
  cases h
  exact hD σ B H (Ex.refl _) (Kp.refl _ _) S
theorem semS_seq {t u : TS} {f g : MS} (h1 : SemS T E kp t f) (h2 : SemS T E kp u g) : SemS T E kp (tSeq t u) (sSeq f g) := by
  intro st σ B F H S fl s h D hD
  unfold sSeq at h
  split at h
  · rename_i s1 e
    exact h1 st σ B F H S _ _ e _ fun σ1 B1 H1 e1 k1 S1 => h2 s1 σ1 B1 F H1 S1 fl s h D (hD.same e1 k1)
  · rename_i r hn
    refine h1 st σ B F H S fl s h _ (hD.weak (Ex.refl _) (Kp.refl _ _) (fun e => ?_) (fun _ _ _ z => z) (fun _ _ _ z => z) fun _ _ z => z)
    subst e
    exact (hn s h).elim
def sSet (i : Nat) (m : M R) : MS := fun st => match m st with
  | some (.v r, s) => some (.nx, s.set i (some r))
  | some (.x c, s) => some (.x c, s)
  | none => none
theorem semS_set {te : TE} {m : M R} {i : Nat} (hk : kp i = false) (h : SemR T E te m) : SemS T E kp (tAsg te (gName i)) (sSet i m) := by
  intro st σ B F H S fl s hf D hD
  unfold sSet at hf
  split at hf
  · rename_i r s1 e
    cases hf
    exact h st σ B F H S _ _ e _ fun v B1 H1 e1 S1 => hD _ B1 H1 e1 (Kp.set hk) (S1.store i)
  · rename_i c s1 e
    cases hf
    exact h st σ B F H S _ _ e _ fun d B1 H1 e1 S1 => hD d σ B1 H1 e1 (Kp.refl _ _) S1
  · cases hf
def sAsg (m : M D) (g : D → Sl → Option Sl) : MS := fun st => match m st with
  | some (.v r, s) => (g r s).map fun s => (.nx, s)
  | some (.x c, s) => some (.x c, s)
  | none => none
def sIf (c : M Bool) (f g : MS) : MS := fun st => match c st with
  | some (.v b, s) => if b = true then f s else g s
  | some (.x c, s) => some (.x c, s)
  | none => none
theorem semS_if {tc : TT} {c : M Bool} {t u : TS} {f g : MS} (hc : SemT T E tc c) (h1 : SemS T E kp t f) (h2 : SemS T E kp u g) : SemS T E kp (tIfS tc t u) (sIf c f g) := by
  intro st σ B F H S fl s hf D hD
  unfold sIf at hf
  split at hf
  · rename_i b s1 e
    refine hc st σ B F H S _ _ e _ fun B1 H1 e1 S1 => ?_
    cases b with
    | true => exact h1 s1 σ B1 F H1 S1 fl s hf D (hD.same e1 (Kp.refl _ _))
    | false => exact h2 s1 σ B1 F H1 S1 fl s hf D (hD.same e1 (Kp.refl _ _))
  · rename_i c s1 e
    cases hf
    exact hc st σ B F H S _ _ e _ fun d B1 H1 e1 S1 => hD d σ B1 H1 e1 (Kp.refl _ _) S1
  · cases hf
def sRet (m : M R) : MS := fun st => match m st with
  | some (.v r, s) => some (.rt r, s)
  | some (.x c, s) => some (.x c, s)
  | none => none
theorem semS_ret {te : TE} {m : M R} (h : SemR T E te m) : SemS T E kp (tRet te) (sRet m) := by
  intro st σ B F H S fl s hf D hD
  unfold sRet at hf
  split at hf
  · rename_i r s1 e
    cases hf
    exact h st σ B F H S _ _ e _ fun v B1 H1 e1 S1 => hD v σ B1 H1 e1 (Kp.refl _ _) S1
  · rename_i c s1 e
    cases hf
    exact h st σ B F H S _ _ e _ fun d B1 H1 e1 S1 => hD d σ B1 H1 e1 (Kp.refl _ _) S1
  · cases hf
def sRetN : MS := fun st => some (.rt (.d .non), st)
def sBrk : MS := fun st => some (.bk, st)
def sCt : MS := fun st => some (.ct, st)
def sDrop (m : M R) : MS := fun st => match m st with
  | some (.v _, s) => some (.nx, s)
  | some (.x c, s) => some (.x c, s)
  | none => none
theorem semS_drop {te : TE} {m : M R} (h : SemR T E te m) : SemS T E kp (tDrop te) (sDrop m) := by
  intro st σ B F H S fl s hf D hD
  unfold sDrop at hf
  split at hf
  · rename_i r s1 e
    cases hf
    exact h st σ B F H S _ _ e _ fun v B1 H1 e1 S1 => hD σ B1 H1 e1 (Kp.refl _ _) S1.pop
  · rename_i c s1 e
    cases hf
    exact h st σ B F H S _ _ e _ fun d B1 H1 e1 S1 => hD d σ B1 H1 e1 (Kp.refl _ _) S1
  · cases hf
def rMv (i : Nat) : M R := fun st => match st[i]? with
  | some (some r) => some (.v r, st.set i none)
  | _ => none
theorem semR_mv {i : Nat} : SemR T E (tVar i) (rMv i) := by
  intro st σ B F H S o s h Q hQ
  unfold rMv at h
  split at h
  · rename_i r hi
    cases h
    obtain ⟨v, hv, rel⟩ := S.rel i r hi
    refine ⟨v, hv, hQ v B H (Ex.refl _) ?_⟩
    have Sf := S.forget i
    refine ⟨S.exB, S.exF, S.dis, S.tup, by simp [S.len], fun j q e => ?_, fun j q u a h1 h2 h3 => ?_, fun j k q p u w a n h1 h2 h3 h4 h5 h6 => ?_, S.tbs⟩
    · cases j with
      | zero => simp at e; subst e; exact ⟨v, rfl, rel⟩
      | succ j => obtain ⟨u, a, b⟩ := Sf.rel j q (by simpa using e); exact ⟨u, by simpa using a, b⟩
    · cases j with
      | zero => simp at h1 h2; subst h1; subst h2; exact S.own i r v a hi hv h3
      | succ j => exact Sf.own j q u a (by simpa using h1) (by simpa using h2) h3
    · have ne : ∀ {j : Nat} {q : R}, (st.set i none)[j]? = some (some q) → i ≠ j ∧ st[j]? = some (some q) := fun {j q} e => by
        rw [List.getElem?_set] at e
        split at e
        · split at e <;> cases e
        · rename_i z; exact ⟨z, e⟩
      cases j with
      | zero =>
        simp at h1 h2; subst h1; subst h2
        cases k with
        | zero => exact n rfl
        | succ k =>
          obtain ⟨z, h3⟩ := ne (j := k) (by simpa using h3)
          exact S.sep i k r p v w a z hi hv h3 (by simpa using h4) h5 h6
      | succ j =>
        obtain ⟨z, h1⟩ := ne (j := j) (by simpa using h1)
        cases k with
        | zero => simp at h3 h4; subst h3; subst h4; exact S.sep i j r q v u a z hi hv h1 (by simpa using h2) h6 h5
        | succ k =>
          obtain ⟨z', h3⟩ := ne (j := k) (by simpa using h3)
          exact S.sep j k q p u w a (by omega) h1 (by simpa using h2) h3 (by simpa using h4) h5 h6
  · cases h
def forL (g : D → Sl → Option Sl) (body : MS) : List D → MS
  | [], s => some (.nx, s)
  | d :: ds, s => match g d s with
    | none => none
    | some s1 => match body s1 with
      | some (.nx, s2) => forL g body ds s2
      | some (.ct, s2) => forL g body ds s2
      | some (.bk, s2) => some (.nx, s2)
      | r => r
def sFor (it : M (List D)) (g : D → Sl → Option Sl) (body : MS) : MS := fun st => match it st with
  | some (.v ds, s) => forL g body ds s
  | some (.x c, s) => some (.x c, s)
  | none => none
theorem semS_for {wi : TI} {g : TG} {tb : TS} {it : M (List D)} {gf : D → Sl → Option Sl} {body : MS} (hi : SemI T E wi it) (hg : SemG T kp g gf) (hb : SemS T E kp tb body) : SemS T E kp (tFor wi g tb) (sFor it gf body) := by
  intro st σ B F H S fl s hf D hD
  unfold sFor at hf
  split at hf
  · rename_i ds s1 e
    refine hi st σ B F H S _ _ e _ fun B1 H1 e1 S1 J hJ => ?_
    refine ⟨fun i m σ2 H2 => i ≤ ds.length ∧ m = ds.length - i ∧ ∃ s2 B2, Ex B1 B2 ∧ Kp kp σ σ2 ∧ Sim T s2 σ2 B2 F H2 ∧ forL gf body (ds.drop i) s2 = some (fl, s), ⟨ds.length, Nat.zero_le _, by omega, s1, B1, Ex.refl _, Kp.refl _ _, S1, hf⟩, ?_⟩
    rintro i m σ2 H2 ⟨hle, rfl, s2, B2, e2, k2, S2, h2⟩
    by_cases hlt : i < ds.length
    · refine .inr ⟨hJ.go i H2 hlt (e2.trans S2.exB), ?_⟩
      rw [List.drop_eq_getElem_cons hlt] at h2
      have hget : ds[i]? = some ds[i] := List.getElem?_eq_getElem hlt
      generalize ds[i] = d at h2 hget
      unfold forL at h2
      split at h2
      · cases h2
      · rename_i s3 eg
        refine ⟨fun σ' H' => ∃ m', m' < ds.length - i ∧ (i + 1 ≤ ds.length ∧ m' = ds.length - (i + 1) ∧ ∃ s2 B2, Ex B1 B2 ∧ Kp kp σ σ' ∧ Sim T s2 σ' B2 F H' ∧ forL gf body (ds.drop (i + 1)) s2 = some (fl, s)), fun σ' H' z => z, fun x H3 hy => ?_⟩
        obtain ⟨B3, x3, hx⟩ := hJ.yld i d H2 x H3 B2 hget e2 S2.exB hy
        have S3 := S2.ext x3
        refine hg s2 σ2 B3 F H3 S3 d x s3 hx eg _ fun σ4 k4 S4 => ?_
        have k24 := k2.trans k4
        have e23 := e2.trans x3.b
        split at h2
        · rename_i s5 eb
          refine hb s3 σ4 B3 F H3 S4 _ _ eb _ fun σ5 B5 H5 e5 k5 S5 => ?_
          exact ⟨_, by omega, hlt, rfl, s5, B5, e23.trans e5, k24.trans k5, S5, h2⟩
        · rename_i s5 eb
          refine hb s3 σ4 B3 F H3 S4 _ _ eb _ fun σ5 B5 H5 e5 k5 S5 => ?_
          exact ⟨_, by omega, hlt, rfl, s5, B5, e23.trans e5, k24.trans k5, S5, h2⟩
        · rename_i s5 eb
          cases h2
          refine hb s3 σ4 B3 F H3 S4 _ _ eb _ fun σ5 B5 H5 e5 k5 S5 => ?_
          exact hD σ5 B5 H5 (e1.trans (e23.trans e5)) (k24.trans k5) S5
        · rename_i q n1 n2 n3
          refine hb s3 σ4 B3 F H3 S4 fl s h2 _ ?_
          cases fl with
          | nx => exact (n1 _ h2).elim
          | ct => exact (n2 _ h2).elim
          | bk => exact (n3 _ h2).elim
          | rt r => exact fun v σ5 B5 H5 e5 k5 S5 => hD v σ5 B5 H5 (e1.trans (e23.trans e5)) (k24.trans k5) S5
          | x c => exact fun v σ5 B5 H5 e5 k5 S5 => hD v σ5 B5 H5 (e1.trans (e23.trans e5)) (k24.trans k5) S5
    · have ei : i = ds.length := by omega
      subst ei
      refine .inl ⟨hJ.stop H2 (e2.trans S2.exB), ?_⟩
      rw [List.drop_length] at h2
      cases h2
      exact hD σ2 B2 H2 (e1.trans e2) k2 S2
  · rename_i c s1 e
    cases hf
    exact hi st σ B F H S _ _ e _ fun d B1 H1 e1 S1 => hD d σ B1 H1 e1 (Kp.refl _ _) S1
  · cases hf
def whileL (c : M Bool) (body : MS) : Nat → MS
  | 0, _ => none
  | n + 1, s => match c s with
    | some (.v true, s1) => (match body s1 with
      | some (.nx, s2) => whileL c body n s2
      | some (.ct, s2) => whileL c body n s2
      | some (.bk, s2) => some (.nx, s2)
      | r => r)
    | some (.v false, s1) => some (.nx, s1)
    | some (.x k, s1) => some (.x k, s1)
    | none => none
theorem semS_while {tc : TT} {tb : TS} {c : M Bool} {body : MS} (hc : SemT T E tc c) (hb : SemS T E kp tb body) (n : Nat) : SemS T E kp (tWhile tc tb) (whileL c body n) := by
  intro st σ B F H S fl s hf D hD
  refine ⟨fun m σ2 H2 => ∃ s2 B2, Ex B B2 ∧ Kp kp σ σ2 ∧ Sim T s2 σ2 B2 F H2 ∧ whileL c body m s2 = some (fl, s), ⟨n, st, B, Ex.refl _, Kp.refl _ _, S, hf⟩, ?_⟩
  rintro m σ2 H2 ⟨s2, B2, e2, k2, S2, h2⟩
  cases m with
  | zero => cases h2
  | succ m =>
    unfold whileL at h2
    split at h2
    · rename_i s3 e
      refine hc s2 σ2 B2 F H2 S2 _ _ e _ fun B3 H3 e3 S3 => ?_
      show if true = true then _ else _
      rw [if_pos rfl]
      refine ⟨fun σ' H' => ∃ m', m' < m + 1 ∧ ∃ s2 B2, Ex B B2 ∧ Kp kp σ σ' ∧ Sim T s2 σ' B2 F H' ∧ whileL c body m' s2 = some (fl, s), fun σ' H' z => z, ?_⟩
      split at h2
      · rename_i s5 eb
        refine hb s3 σ2 B3 F H3 S3 _ _ eb _ fun σ5 B5 H5 e5 k5 S5 => ?_
        exact ⟨m, by omega, s5, B5, e2.trans (e3.trans e5), k2.trans k5, S5, h2⟩
      · rename_i s5 eb
        refine hb s3 σ2 B3 F H3 S3 _ _ eb _ fun σ5 B5 H5 e5 k5 S5 => ?_
        exact ⟨m, by omega, s5, B5, e2.trans (e3.trans e5), k2.trans k5, S5, h2⟩
      · rename_i s5 eb
        cases h2
        refine hb s3 σ2 B3 F H3 S3 _ _ eb _ fun σ5 B5 H5 e5 k5 S5 => ?_
        exact hD σ5 B5 H5 (e2.trans (e3.trans e5)) (k2.trans k5) S5
      · rename_i q n1 n2 n3
        refine hb s3 σ2 B3 F H3 S3 fl s h2 _ ?_
        cases fl with
        | nx => exact (n1 _ h2).elim
        | ct => exact (n2 _ h2).elim
        | bk => exact (n3 _ h2).elim
        | rt r => exact fun v σ5 B5 H5 e5 k5 S5 => hD v σ5 B5 H5 (e2.trans (e3.trans e5)) (k2.trans k5) S5
        | x c => exact fun v σ5 B5 H5 e5 k5 S5 => hD v σ5 B5 H5 (e2.trans (e3.trans e5)) (k2.trans k5) S5
    · rename_i s3 e
      cases h2
      refine hc s2 σ2 B2 F H2 S2 _ _ e _ fun B3 H3 e3 S3 => ?_
      show if false = true then _ else _
      rw [if_neg Bool.false_ne_true]
      exact hD σ2 B3 H3 (e2.trans e3) k2 S3
    · rename_i k s3 e
      cases h2
      exact hc s2 σ2 B2 F H2 S2 _ _ e _ fun d B3 H3 e3 S3 => hD d σ2 B3 H3 (e2.trans e3) k2 S3
    · cases h2
end
end Fz
set_option Elab.async false
set_option linter.all false
set_option maxRecDepth 100000
set_option maxHeartbeats 2000000
namespace Fz
open PySem L2 PySem.Spec PyProof.Rows
structure Room (k : Nat) (A : Around) : Prop where
  hd : A.handled = none
  dp : A.depth + 3 * k + 5 < recursionLimit
  un : A.units + 16 * k + 200 < cLine
  gd : A.guards = some []
theorem Room.l2 {k : Nat} {A : Around} (r : Room k A) : L2.Room k A := ⟨r.hd, r.dp, r.un⟩
theorem Room.mono {j k : Nat} {A : Around} (r : Room k A) (h : j ≤ k) : Room j A := ⟨r.hd, (r.l2.mono h).dp, (r.l2.mono h).un, r.gd⟩
theorem Room.deeper {k : Nat} {A : Around} (r : Room (k + 1) A) (env : Env) : Room k (A.deeper env) := ⟨r.hd, (r.l2.deeper env).dp, (r.l2.deeper env).un, r.gd⟩
theorem Room.in1 {k : Nat} {A : Around} (r : Room (k + 1) A) : Room k A.in1 := ⟨r.hd, r.l2.in1.dp, r.l2.in1.un, r.gd⟩
theorem Room.make {k : Nat} {A : Around} (r : Room (k + 1) A) (C : Addr) (us : List Value) (kw : List (Str × Value)) : Room k (A.under (.builtin "type.__call__" ⟨.ref C :: us, kw⟩)) :=
  let q := r.l2.make C us kw
  ⟨q.hd, q.dp, q.un, by
    show pushGuards (Code.guards (.builtin "type.__call__" ⟨.ref C :: us, kw⟩)) A.guards = some []
    rw [show Code.guards (.builtin "type.__call__" ⟨.ref C :: us, kw⟩) = [] from if_neg (show ¬ (guardIds.contains "type.__call__" = true) by decide +kernel), r.gd]
    rfl⟩
theorem Room.depth {k : Nat} {A : Around} (r : Room k A) : A.depth < recursionLimit := r.l2.depth
theorem Room.units {k : Nat} {A : Around} (r : Room k A) : A.units + 64 < cLine := r.l2.units
structure FnOk (P : Program) (w : World) (K : PySem.W.Frag) (mg : Str → Option Value) (base : Heap) (CX : CXT) (k : Nat) (f : Addr) (fd : FuncData) (ps : List Str) (sp : Sp) : Prop where
  len : ∀ vs H Q E, sp vs H Q E → vs.length = ps.length
  run : ∀ (A : Around) (outer : List Env) (s : Shared) (H : Hp) (args : Args) (us : List Value) (vs : List V) (Q : VK) (E : XK), Room k A → Env0 P w K mg base A outer s H → BindsTo s fd args (ps.zip us) → Vals vs us → sp vs H Q E →
    codeAny (model P w) A (.call (.ref f) args) (CR CX outer P w H s Q E) s
section
variable {P : Program} {w : World} {K : PySem.W.Frag} {mg : Str → Option Value} {base : Heap} {CX : CXT} {k : Nat} {f : Addr} {fd : FuncData} {ps : List Str} {sp sp' : Sp}
theorem FnOk.mono {j : Nat} (F : FnOk P w K mg base CX j f fd ps sp) (h : j ≤ k) : FnOk P w K mg base CX k f fd ps sp :=
  ⟨F.len, fun A outer s H args us vs Q E hr => F.run A outer s H args us vs Q E (hr.mono h)⟩
theorem FnOk.imp (F : FnOk P w K mg base CX k f fd ps sp) (h : ∀ vs H Q E, sp' vs H Q E → sp vs H Q E) : FnOk P w K mg base CX k f fd ps sp' :=
  ⟨fun vs H Q E q => F.len vs H Q E (h _ _ _ _ q), fun A outer s H args us vs Q E hr he hb hv hs => F.run A outer s H args us vs Q E hr he hb hv (h _ _ _ _ hs)⟩
theorem fnr_of {name qual : Str} {params : Arguments} {body : List Stmt} {scope : Scope} {dV kV doc pm cdv ct oc : Value} {an od : Option Addr}
    {osl : Array (Option Value)} {N : List Str} (lk : K.lookup f = some ⟨oc, od, .func (PySem.W.fnOf name qual params body scope dV kV doc pm an cdv ct), osl⟩) (hcd : PySem.W.codeIn K cdv qual = true) (S : FnScope N ps scope)
    (len : ∀ vs H Q E, sp vs H Q E → vs.length = ps.length)
    (hbody : ∀ (A : Around) (outer : List Env) (s : Shared) (H : Hp) (vs : List V) (Q : VK) (E : XK), Room k (A.deeper (envOfC qual scope s.heap.objs.size f cdv)) → sp vs H Q E →
      ∃ t, PSs (cxOf CX P w K mg base N qual scope f cdv A outer s H E) body t ∧ t { nx := fun _ H' => Q .non H', rt := Q } (L2.start N vs) H) :
    FnOk P w K mg base CX (k + 1) f (PySem.W.fnOf name qual params body scope dV kV doc pm an cdv ct) ps sp := by
  refine ⟨len, fun A outer s H args us vs Q E hr e0 hb r hsp => ?_⟩
  have hl := len _ _ _ _ hsp
  have KX : K.In s.heap := e0.mod.kin.keeps fun b o e => (e0.bs b o e).1
  have lim : s.heap.NoLimit := e0.mod.nolimit.keeps fun b o e => (e0.bs b o e).1
  refine codeAny_call_function hr.depth (KX _ _ lk) rfl S.co S.gen rfl (PySem.W.codeRec_of KX hcd) (hb _ _ _ _ ?_)
  refine wpAny_newFunctionEnv_cells S.kind (fun ⟨n, v⟩ hy => (S.par n (List.of_mem_zip hy).1).imp id fun q => ⟨q, PySem.W.cellsFrom_some _ _ _ (.inl q)⟩) fun env he s1 x => ?_
  subst he
  refine ⟨lim.keeps x.toInCall.keep, codeAny_func ?_⟩
  obtain ⟨t, ht, hq⟩ := hbody A outer s H vs Q E (hr.deeper _) hsp
  have I : Inv (cxOf CX P w K mg base N qual scope f cdv A outer s H E) [] (L2.start N vs) H s1 := inv_start S hr.hd e0 hl r x
  refine wpAny_mono (ht.run [] s1 (L2.start N vs) H _ I hq) (fun fl s' hs => ?_) fun e s' hs => hs
  have fin : ∀ {σ' : L2.St} {H' : Hp} {v : V} {u : Value}, Inv (cxOf CX P w K mg base N qual scope f cdv A outer s H E) [] σ' H' s' → RelV v u → Q v H' → CE outer P w H s Q u s' :=
    fun {σ' H' v u} J rv q => ⟨v, H', J.os, J.bare, J.base, J.hok, rv, q⟩
  cases fl with
  | ret u => obtain ⟨v, σ', H', J, rv, q⟩ := hs; exact fin J rv q
  | next => obtain ⟨σ', H', J, q⟩ := hs; exact fin (v := V.non) (u := Value.none) J rfl q
  | brk => obtain ⟨_, _, _, q⟩ := hs; exact False.elim q
  | cont => obtain ⟨_, _, _, q⟩ := hs; exact False.elim q
theorem okR {x qual : Str} {st : Stmt} {N : List Str} (F : Fun K x qual st f fd) (S : FnScope N ps (defScope st)) (len : ∀ vs H Q E, sp vs H Q E → vs.length = ps.length)
    (hbody : ∀ (cdv : Value) (A : Around) (outer : List Env) (s : Shared) (H : Hp) (vs : List V) (Q : VK) (E : XK), Room k (A.deeper (envOfC qual (defScope st) s.heap.objs.size f cdv)) → sp vs H Q E →
      ∃ t, PSs (cxOf CX P w K mg base N qual (defScope st) f cdv A outer s H E) (defBody st) t ∧ t { nx := fun _ H' => Q .non H', rt := Q } (L2.start N vs) H) : FnOk P w K mg base CX (k + 1) f fd ps sp := by
  obtain ⟨oc, od, kV, doc, pm, an, cdv, ct, osl, rfl, lk, hcd⟩ := F.ex
  exact fnr_of lk hcd S len fun A outer s H vs Q E hr hsp => hbody cdv A outer s H vs Q E hr hsp
end
section
variable {X : Cx} {CX : CXT} {k : Nat} {f : Addr} {fd : FuncData} {ps : List Str} {sp : Sp} {dvs : List V} {ds : List Value} {E : L2.St → XK} {x : Str} {p pos : Pos} {e : Expr} {es : List Expr} {t : TA}
theorem run_fnSD {pins : List (Addr × Obj)} {σ : L2.St} {H : Hp} {s : Shared} {Q : VK} {us : List Value} {vs : List V} (F : FnOk X.prog X.w X.K X.mg X.base CX k f fd ps sp) (hr : Room k X.A) (hb : Binds X.K fd ps ds) (hd : Vals dvs ds) (hx : PassesAt CX X σ (E σ))
    (I : Inv X pins σ H s) (r : Vals vs us) (h : sp (vs ++ dvs) H Q (E σ)) : wpAny (model X.prog X.w) X.A (call (.ref f) us) (EP X pins σ Q) X.xe s := by
  have r2 : Vals (vs ++ dvs) (us ++ ds) := r.append hd
  refine wpAny_call (codeAny_mono (F.run X.A X.stack s H ⟨us, []⟩ (us ++ ds) (vs ++ dvs) Q (E σ) hr I.env0 (hb s us I.kIn (by rw [← r2.length]; exact F.len _ _ _ _ h)) r2 h) fun r s' hq => ?_)
  cases r with
  | error e => exact hx pins H s e s' I hq
  | ok fl =>
    cases fl with
    | ret u => exact I.after hq
    | next => exact False.elim hq
    | brk => exact False.elim hq
    | cont => exact False.elim hq
theorem pe_callSD (F : FnOk X.prog X.w X.K X.mg X.base CX k f fd ps sp) (hr : Room k X.A) (hg : Gl X x) (hm : X.mg x = some (.ref f)) (hk : PySem.W.keepIn X.K (.ref f) = true) (hb : Binds X.K fd ps ds) (hd : Vals dvs ds) (hx : ∀ σ, PassesAt CX X σ (E σ))
    (ha : PA X (e :: es) t) (hdb : (x == ("__debug__" : Str)) = false := by decide) (he : starEach (e :: es) X.env = (false, eval e X.env) :: starEach es X.env := by rfl) (hpl : (backTo pos (starEach es X.env)).any (·.1) = false := by rfl) :
    PE X (.Call (.Name x p) (e :: es) [] pos) (tCallSD sp dvs E t) := by
  refine ⟨fun pins s σ H Q I h => ?_⟩
  refine wpAny_Call_Name_kw (ld_glob I hg hm ?_ hdb)
  exact PySem.W.callWith_K (h₀ := X.base) I.ok.mod.kin hk (thn (ha.run pos pins s σ H _ I h) fun us s1 ⟨vs, H1, I1, r, q⟩ => ⟨I1.kIn, run_fnSD F hr hb hd (hx σ) I1 r q⟩) he hpl
end
end Fz
namespace Fz
open PySem L2
abbrev Fn := List R → Option (Oc R × List R)
def Okf (T : Tab) (o : Oc R) (rs : List R) (vs : List V) (B F : Hp) (Q : VK) (E : XK) : Prop := match o with
  | .v r => ∀ v B' H', Ex B B' → Sim T (some r :: rs.map some) (some v :: vs.map some) B' F H' → Q v H'
  | .x c => ∀ (d : DN) B' H', Ex B B' → Sim T (rs.map some) (vs.map some) B' F H' → E (.ref (T.cls c)) d.1 H'
def sp (T : Tab) (n : Nat) (f : Fn) : Sp := fun vs H Q E => vs.length = n ∧ ∃ rs B F o rs', Sim T (rs.map some) (vs.map some) B F H ∧ f rs = some (o, rs') ∧ Okf T o rs' vs B F Q E
theorem sp_sub {T : Tab} {n : Nat} {f g : Fn} (h : ∀ rs o, g rs = some o → f rs = some o) : ∀ vs H Q E, sp T n g vs H Q E → sp T n f vs H Q E :=
  fun vs H Q E ⟨hl, rs, B, F, o, rs', S, e, k⟩ => ⟨hl, rs, B, F, o, rs', S, h _ _ e, k⟩
theorem fn_sub {T : Tab} {n : Nat} {f g : Fn} {P : Program} {w : World} {mg : Str → Option Value} {base : Heap} {CX : CXT} {k : Nat} {a : Addr} {fd : FuncData} {ps : List Str} (h : FnOk P w T.K mg base CX k a fd ps (sp T n f)) (hg : ∀ rs o, g rs = some o → f rs = some o) : FnOk P w T.K mg base CX k a fd ps (sp T n g) :=
  h.imp (sp_sub hg)
def isD : R → Bool
  | .d _ => true
  | _ => false
def outs (kp : Nat → Bool) : Nat → List R → Sl → Option (List R)
  | _, [], _ => some []
  | i, r :: rs, s :: st => match (if kp i = true then s else if isD r = true then some r else none), outs kp (i + 1) rs st with
    | some q, some qs => some (q :: qs)
    | _, _ => none
  | _, _ :: _, [] => none
def fnEnd (kp : Nat → Bool) (rs : List R) (r : Oc R) (s : Sl) : Option (Oc R × List R) := (outs kp 0 rs s).map fun qs => (r, qs)
def fnOf (n N : Nat) (kp : Nat → Bool) (body : MS) : Fn := fun rs => if rs.length = n then
  match body (rs.map some ++ List.replicate (N - n) none) with
  | some (.rt r, s) => fnEnd kp rs (.v r) s
  | some (.nx, s) => fnEnd kp rs (.v (.d .non)) s
  | some (.x c, s) => fnEnd kp rs (.x c) s
  | _ => none
  else none
section
variable {T : Tab} {E : L2.St → XK} {kp : Nat → Bool} {st : Sl} {σ σ' : St} {B F H B' H' : Hp}
theorem sim_pad (S : Sim T st σ B F H) (k : Nat) : Sim T (st ++ List.replicate k none) (σ ++ List.replicate k none) B F H := by
  have ln := S.len
  have inv : ∀ {i : Nat} {r : R}, (st ++ List.replicate k none)[i]? = some (some r) → i < st.length ∧ st[i]? = some (some r) := fun {i r} h => by
    by_cases hi : i < st.length
    · rw [List.getElem?_append_left hi] at h; exact ⟨hi, h⟩
    · rw [List.getElem?_append_right (by omega), List.getElem?_replicate] at h
      split at h <;> cases h
  refine ⟨S.exB, S.exF, S.dis, S.tup, by simp [ln], fun i r h => ?_, fun i r v a h1 h2 h3 => ?_, fun i j r q v u a n h1 h2 h3 h4 h5 h6 => ?_, S.tbs⟩
  · obtain ⟨hi, h⟩ := inv h
    obtain ⟨v, a, b⟩ := S.rel i r h
    exact ⟨v, by rw [List.getElem?_append_left (by omega)]; exact a, b⟩
  · obtain ⟨hi, h1⟩ := inv h1
    rw [List.getElem?_append_left (by omega)] at h2
    exact S.own i r v a h1 h2 h3
  · obtain ⟨hi, h1⟩ := inv h1
    obtain ⟨hj, h3⟩ := inv h3
    rw [List.getElem?_append_left (by omega)] at h2 h4
    exact S.sep i j r q v u a n h1 h2 h3 h4 h5 h6
theorem outs_get : ∀ {rs qs : List R} {s : Sl} {i : Nat}, outs kp i rs s = some qs → qs.length = rs.length ∧ ∀ (j : Nat) q, qs[j]? = some q → (kp (i + j) = true ∧ s[j]? = some (some q)) ∨ (rs[j]? = some q ∧ isD q = true)
  | [], qs, s, i, h => by
    unfold outs at h
    cases h
    exact ⟨rfl, fun j q h => by simp at h⟩
  | r :: rs, qs, [], i, h => by unfold outs at h; cases h
  | r :: rs, qs, s :: st, i, h => by
    unfold outs at h
    split at h
    · rename_i q qs' e1 e2
      cases h
      obtain ⟨l, k⟩ := outs_get e2
      refine ⟨by simp [l], fun j q' hj => ?_⟩
      cases j with
      | zero =>
        simp at hj
        subst hj
        split at e1
        · rename_i hk; exact .inl ⟨hk, by simp [e1]⟩
        · split at e1
          · rename_i hd; cases e1; exact .inr ⟨rfl, hd⟩
          · cases e1
      | succ j =>
        have := k j q' (by simpa using hj)
        rw [show i + 1 + j = i + (j + 1) by omega] at this
        simpa using this
    · cases h
theorem sim_outs {rs qs : List R} {vs : List V} {s : Sl} {B0 H0 : Hp} {σ1 : St} {k : Nat} (S0 : Sim T (rs.map some) (vs.map some) B0 F H0) (e : Ex B0 B) (S : Sim T s σ B F H) (K : Kp kp (vs.map some ++ List.replicate k none) σ) (h : outs kp 0 rs s = some qs)
    (w : ∀ top : Option (R × V), True) : Sim T (qs.map some) (vs.map some) B F H := by
  obtain ⟨l, g⟩ := outs_get h
  have l0 : rs.length = vs.length := by have := S0.len; simpa using this
  have at_ : ∀ {j : Nat} {q : R}, (qs.map some)[j]? = some (some q) → j < vs.length ∧ ((kp j = true ∧ s[j]? = some (some q)) ∨ (rs[j]? = some q ∧ isD q = true)) := fun {j q} hj => by
    rw [List.getElem?_map] at hj
    cases e : qs[j]? with
    | none => rw [e] at hj; cases hj
    | some q' =>
      rw [e] at hj; cases hj
      have hl := (List.getElem?_eq_some_iff.mp e).1
      have := g j q e
      rw [Nat.zero_add] at this
      exact ⟨by omega, this⟩
  have val : ∀ {j : Nat}, j < vs.length → kp j = true → σ[j]? = (vs.map some)[j]? := fun {j} hj hk => by
    rw [K j hk, List.getElem?_append_left (by simpa using hj)]
  have dd : ∀ {q : R} {v : V} {a : Addr}, isD q = true → Ow H q v a → False := fun {q v a} h o => by cases q <;> first | exact o.elim | cases h
  refine ⟨S.exB, S.exF, S.dis, S.tup, by simp [l, l0], fun j q hj => ?_, fun j q v a h1 h2 h3 => ?_, fun i j r q v u a n h1 h2 h3 h4 h5 h6 => ?_, S.tbs⟩
  · obtain ⟨hl, hj | ⟨hj, hd⟩⟩ := at_ hj
    · obtain ⟨v, a, b⟩ := S.rel j q hj.2
      exact ⟨v, by rw [← val hl hj.1]; exact a, b⟩
    · obtain ⟨v, a, b⟩ := S0.rel j q (by rw [List.getElem?_map, hj]; rfl)
      refine ⟨v, a, ?_⟩
      cases q with
      | d x => exact Rep.mono e x b
      | _ => cases hd
  · obtain ⟨hl, hj | ⟨hj, hd⟩⟩ := at_ h1
    · exact S.own j q v a hj.2 (by rw [val hl hj.1]; exact h2) h3
    · exact (dd hd h3).elim
  · obtain ⟨hl, hi | ⟨hi, hd⟩⟩ := at_ h1
    · obtain ⟨hl', hj | ⟨hj, hd⟩⟩ := at_ h3
      · exact S.sep i j r q v u a n hi.2 (by rw [val hl hi.1]; exact h2) hj.2 (by rw [val hl' hj.1]; exact h4) h5 h6
      · exact (dd hd h6).elim
    · exact (dd hd h5).elim
theorem sim_outsT {rs qs : List R} {vs : List V} {s : Sl} {B0 H0 : Hp} {k : Nat} {r : R} {v : V} (S0 : Sim T (rs.map some) (vs.map some) B0 F H0) (e : Ex B0 B) (S : Sim T (some r :: s) (some v :: σ) B F H) (K : Kp kp (vs.map some ++ List.replicate k none) σ) (h : outs kp 0 rs s = some qs) :
    Sim T (some r :: qs.map some) (some v :: vs.map some) B F H := by
  have P := sim_outs (σ1 := []) S0 e S.pop K h fun _ => trivial
  obtain ⟨l, g⟩ := outs_get h
  have l0 : rs.length = vs.length := by have := S0.len; simpa using this
  have at_ : ∀ {j : Nat} {q : R}, (qs.map some)[j]? = some (some q) → j < vs.length ∧ ((kp j = true ∧ s[j]? = some (some q)) ∨ isD q = true) := fun {j q} hj => by
    rw [List.getElem?_map] at hj
    cases e : qs[j]? with
    | none => rw [e] at hj; cases hj
    | some q' =>
      rw [e] at hj; cases hj
      have hl := (List.getElem?_eq_some_iff.mp e).1
      have := g j q e
      rw [Nat.zero_add] at this
      exact ⟨by omega, this.elim .inl fun z => .inr z.2⟩
  have val : ∀ {j : Nat}, j < vs.length → kp j = true → σ[j]? = (vs.map some)[j]? := fun {j} hj hk => by
    rw [K j hk, List.getElem?_append_left (by simpa using hj)]
  have dd : ∀ {q : R} {v : V} {a : Addr}, isD q = true → Ow H q v a → False := fun {q v a} h o => by cases q <;> first | exact o.elim | cases h
  have cross : ∀ {j : Nat} {q : R} {u : V} {a : Addr}, (qs.map some)[j]? = some (some q) → (vs.map some)[j]? = some (some u) → Ow H r v a → Ow H q u a → False := fun {j q u a} h1 h2 h3 h4 => by
    obtain ⟨hl, hj | hd⟩ := at_ h1
    · exact S.sep 0 (j + 1) r q v u a (by omega) rfl rfl (by simpa using hj.2) (by rw [List.getElem?_cons_succ, val hl hj.1]; exact h2) h3 h4
    · exact dd hd h4
  refine ⟨P.exB, P.exF, P.dis, P.tup, by have := P.len; simpa using this, fun j q hj => ?_, fun j q u a h1 h2 h3 => ?_, fun i j p q u u' a n h1 h2 h3 h4 h5 h6 => ?_, P.tbs⟩
  · cases j with
    | zero => cases hj; exact ⟨v, rfl, S.top⟩
    | succ j => obtain ⟨u, a, b⟩ := P.rel j q (by simpa using hj); exact ⟨u, by simpa using a, b⟩
  · cases j with
    | zero => cases h1; cases h2; exact S.own 0 r v a rfl rfl h3
    | succ j => exact P.own j q u a (by simpa using h1) (by simpa using h2) h3
  · cases i with
    | zero =>
      cases h1; cases h2
      cases j with
      | zero => exact n rfl
      | succ j => exact cross (by simpa using h3) (by simpa using h4) h5 h6
    | succ i =>
      cases j with
      | zero => cases h3; cases h4; exact cross (by simpa using h1) (by simpa using h2) h6 h5
      | succ j => exact P.sep i j p q u u' a (by omega) (by simpa using h1) (by simpa using h2) (by simpa using h3) (by simpa using h4) h5 h6
theorem read_fn {E : XK} {n : Nat} {N : List Str} {t : TS} {f : MS} {vs : List V} {H : Hp} {Q : VK} (hp : sp T n (fnOf n N.length kp f) vs H Q E) (h : SemS T (fun _ => E) kp t f) : t { nx := fun _ H' => Q .non H', rt := Q } (L2.start N vs) H := by
  obtain ⟨hl, rs, B, F, o, rs', S, e, k⟩ := hp
  unfold fnOf at e
  split at e
  · rename_i hn
    have S1 := sim_pad S (N.length - n)
    have es : L2.start N vs = vs.map some ++ List.replicate (N.length - n) none := by unfold L2.start; rw [hl]
    rw [es]
    split at e
    · rename_i r s eb
      unfold fnEnd at e
      cases eo : outs kp 0 rs s with
      | none => rw [eo] at e; cases e
      | some qs =>
        rw [eo] at e; cases e
        exact h _ _ B F H S1 _ _ eb _ fun v σ' B' H' e1 k1 S' => k v B' H' e1 (sim_outsT S e1 S' k1 eo)
    · rename_i s eb
      unfold fnEnd at e
      cases eo : outs kp 0 rs s with
      | none => rw [eo] at e; cases e
      | some qs =>
        rw [eo] at e; cases e
        exact h _ _ B F H S1 _ _ eb _ fun σ' B' H' e1 k1 S' => k .non B' H' e1 (sim_outsT S e1 (S'.push rfl) k1 eo)
    · rename_i c s eb
      unfold fnEnd at e
      cases eo : outs kp 0 rs s with
      | none => rw [eo] at e; cases e
      | some qs =>
        rw [eo] at e; cases e
        exact h _ _ B F H S1 _ _ eb _ fun d σ' B' H' e1 k1 S' => k d B' H' e1 (sim_outs (σ1 := []) S e1 S' k1 eo fun _ => trivial)
    · cases e
  · cases e
inductive Arg where
  | v (x : D) | o (i : Nat)
def ArgIs (T : Tab) (B : Hp) (σ : St) : Arg → V → Prop
  | .v x, v => Rep T B x v
  | .o i, v => σ[i]? = some (some v)
def ArgsAre (T : Tab) (B : Hp) (σ : St) : List Arg → List V → Prop := Paired (ArgIs T B σ)
theorem ArgsAre.mono (e : Ex B B') : ∀ {as : List Arg} {vs : List V}, ArgsAre T B σ as vs → ArgsAre T B' σ as vs
  | _, _, .nil => .nil
  | a :: _, _, .cons h t => .cons (by cases a with | v x => exact Rep.mono e x h | o i => exact h) (ArgsAre.mono e t)
def SemAA (T : Tab) (E : L2.St → XK) (ta : TA) (f : M (List Arg)) : Prop := ∀ st σ B F H, Sim T st σ B F H → ∀ o s, f st = some (o, s) → ∀ Q : List V → Hp → Prop, Okx T (E σ) o s σ B F (fun as B' H' => ∀ vs, ArgsAre T B' σ as vs → Q vs H') → ta σ H Q
def aNil : M (List Arg) := ret []
def aV (fa : M D) (fr : M (List Arg)) : M (List Arg) := bnd fa fun x => bnd fr fun xs => ret (.v x :: xs)
def aO (i : Nat) (fr : M (List Arg)) : M (List Arg) := fun st => match st[i]? with
  | some (some _) => bnd fr (fun xs => ret (.o i :: xs)) st
  | _ => none
theorem semAA_nil : SemAA T E tNil aNil := by
  intro st σ B F H S o s h Q hQ
  cases h
  exact hQ B H (Ex.refl B) S [] .nil
theorem semAA_v {te : TE} {ta : TA} {fa : M D} {fr : M (List Arg)} (ha : SemE T E te fa) (hr : SemAA T E ta fr) : SemAA T E (tCons te ta) (aV fa fr) := by
  intro st σ B F H S o s h Q hQ
  refine okx_bnd h hQ (fun o1 s1 e1 q => ha st σ B F H S o1 s1 e1 _ q) fun a s1 B1 H1 _ h2 e1 S1 hQ1 v hv => ?_
  refine okx_bnd h2 hQ1 (fun o1 s2 e2 q => hr s1 σ B1 F H1 S1 o1 s2 e2 _ q) fun b s2 B2 H2 _ h3 e2 S2 hQ2 us hus => ?_
  cases h3
  exact hQ2 B2 H2 (Ex.refl _) S2 (v :: us) (.cons (Rep.mono e2 a hv) hus)
theorem semAA_o {ta : TA} {i : Nat} {fr : M (List Arg)} (hr : SemAA T E ta fr) : SemAA T E (tCons (tVar i) ta) (aO i fr) := by
  intro st σ B F H S o s h Q hQ
  unfold aO at h
  split at h
  · rename_i r hi
    obtain ⟨v, hv, _⟩ := S.rel i r hi
    refine ⟨v, hv, ?_⟩
    refine okx_bnd h hQ (fun o1 s1 e1 q => hr st σ B F H S o1 s1 e1 _ q) fun a s1 B1 H1 _ h2 e1 S1 hQ1 us hus => ?_
    cases h2
    exact hQ1 B1 H1 (Ex.refl _) S1 (v :: us) (.cons hv hus)
  · cases h
def getA : List Arg → Sl → Option (List R)
  | [], _ => some []
  | .v x :: as, st => (getA as st).map (.d x :: ·)
  | .o i :: as, st => match st[i]?, getA as st with
    | some (some r), some rs => some (r :: rs)
    | _, _ => none
def putA : List Arg → List R → Sl → Sl
  | .o i :: as, r :: rs, st => putA as rs (st.set i (some r))
  | .v _ :: as, _ :: rs, st => putA as rs st
  | _, _, st => st
def owns : List Arg → List Nat
  | [] => []
  | .o i :: as => i :: owns as
  | .v _ :: as => owns as
theorem getA_get : ∀ {as : List Arg} {st : Sl} {rs : List R}, getA as st = some rs → rs.length = as.length ∧ ∀ (k : Nat) a, as[k]? = some a → match a with
    | .v x => rs[k]? = some (.d x)
    | .o i => ∃ r, rs[k]? = some r ∧ st[i]? = some (some r)
  | [], st, rs, h => by cases h; exact ⟨rfl, fun k a h => by simp at h⟩
  | .v x :: as, st, rs, h => by
    unfold getA at h
    cases e : getA as st with
    | none => rw [e] at h; cases h
    | some r =>
      rw [e] at h; cases h
      obtain ⟨l, g⟩ := getA_get e
      refine ⟨by simp [l], fun k a hk => ?_⟩
      cases k with
      | zero => simp at hk; subst hk; rfl
      | succ k => have := g k a (by simpa using hk); simpa using this
  | .o i :: as, st, rs, h => by
    unfold getA at h
    split at h
    · rename_i r rs' e1 e2
      cases h
      obtain ⟨l, g⟩ := getA_get e2
      refine ⟨by simp [l], fun k a hk => ?_⟩
      cases k with
      | zero => simp at hk; subst hk; exact ⟨r, rfl, e1⟩
      | succ k => have := g k a (by simpa using hk); simpa using this
    · cases h
theorem mem_owns : ∀ {as : List Arg} {i : Nat}, i ∈ owns as → ∃ k : Nat, as[k]? = some (Arg.o i)
  | [], i, h => by simp [owns] at h
  | .o j :: as, i, h => by
    rcases List.mem_cons.mp h with rfl | h
    · exact ⟨0, rfl⟩
    · obtain ⟨k, e⟩ := mem_owns h; exact ⟨k + 1, e⟩
  | .v x :: as, i, h => by obtain ⟨k, e⟩ := mem_owns (as := as) h; exact ⟨k + 1, e⟩
theorem owns_mem : ∀ {as : List Arg} {i k : Nat}, as[k]? = some (Arg.o i) → i ∈ owns as
  | [], i, k, h => by simp at h
  | .o j :: as, i, 0, h => by simp at h; subst h; exact List.mem_cons_self
  | .o j :: as, i, k + 1, h => List.mem_cons_of_mem _ (owns_mem (as := as) (k := k) (by simpa using h))
  | .v x :: as, i, 0, h => by simp at h
  | .v x :: as, i, k + 1, h => owns_mem (as := as) (k := k) (by simpa using h)
theorem putA_other : ∀ {as : List Arg} {rs : List R} {st : Sl} {i : Nat}, i ∉ owns as → (putA as rs st)[i]? = st[i]?
  | [], rs, st, i, h => by cases rs <;> rfl
  | .o j :: as, [], st, i, h => rfl
  | .v x :: as, [], st, i, h => rfl
  | .o j :: as, r :: rs, st, i, h => by
    simp only [owns, List.mem_cons, not_or] at h
    show (putA as rs (st.set j (some r)))[i]? = _
    rw [putA_other h.2, List.getElem?_set_ne (fun e => h.1 e.symm)]
  | .v x :: as, r :: rs, st, i, h => putA_other (as := as) h
theorem putA_length : ∀ {as : List Arg} {rs : List R} {st : Sl}, (putA as rs st).length = st.length
  | [], rs, st => by cases rs <;> rfl
  | .o j :: as, [], st => rfl
  | .v x :: as, [], st => rfl
  | .o j :: as, r :: rs, st => by show (putA as rs (st.set j (some r))).length = _; rw [putA_length, List.length_set]
  | .v x :: as, r :: rs, st => putA_length (as := as)
theorem putA_own : ∀ {as : List Arg} {rs : List R} {st : Sl} {i k : Nat} {q : R}, (owns as).Nodup → as[k]? = some (Arg.o i) → i < st.length → rs[k]? = some q → (putA as rs st)[i]? = some (some q)
  | [], rs, st, i, k, q, _, h, _, _ => by simp at h
  | _ :: as, [], st, i, k, q, _, _, _, h => by simp at h
  | .o j :: as, r :: rs, st, i, 0, q, n, h, l, g => by
    simp at h g; subst h; subst g
    show (putA as rs (st.set j (some r)))[j]? = _
    rw [putA_other (List.nodup_cons.mp n).1, List.getElem?_set_self l]
  | .o j :: as, r :: rs, st, i, k + 1, q, n, h, l, g => by
    show (putA as rs (st.set j (some r)))[i]? = _
    exact putA_own (k := k) (List.nodup_cons.mp n).2 (by simpa using h) (by simpa using l) (by simpa using g)
  | .v x :: as, r :: rs, st, i, 0, q, n, h, l, g => by simp at h
  | .v x :: as, r :: rs, st, i, k + 1, q, n, h, l, g => putA_own (as := as) (k := k) n (by simpa using h) l (by simpa using g)
def callF (f : Fn) (as : List Arg) : M R := fun st => match getA as st with
  | some rs => if (owns as).Nodup then (match f rs with
    | some (o, rs') => if rs'.length = rs.length then some (o, putA as rs' st) else none
    | none => none) else none
  | none => none
def rCall (n : Nat) (f : Fn) (ds : List D) (fa : M (List Arg)) : M R := bnd fa fun as => if as.length + ds.length = n then callF f (as ++ ds.map Arg.v) else fun _ => none
open Classical in
noncomputable def rest (st : Sl) (σ : St) (as : List Arg) (F H : Hp) : Hp := fun a => if (∃ (j : Nat) (r : R) (v : V), st[j]? = some (some r) ∧ σ[j]? = some (some v) ∧ Ow H r v a ∧ j ∉ owns as) then H a else F a
theorem paired_get {α β : Type} {R : α → β → Prop} : ∀ {xs : List α} {ys : List β} {k : Nat}, Paired R xs ys → ∀ {a : α}, xs[k]? = some a → ∃ b, ys[k]? = some b ∧ R a b
  | _, _, _, .nil, _, h => by simp at h
  | _, _, 0, .cons r t, _, h => by simp at h; subst h; exact ⟨_, rfl, r⟩
  | _, _, k + 1, .cons r t, _, h => by obtain ⟨b, e, q⟩ := paired_get (k := k) t (by simpa using h); exact ⟨b, by simpa using e, q⟩
section
variable {as : List Arg} {vs : List V} {rs : List R}
theorem rest_hit (S : Sim T st σ B F H) {j : Nat} {r : R} {v : V} {a : Addr} (h1 : st[j]? = some (some r)) (h2 : σ[j]? = some (some v)) (h3 : Ow H r v a) (h4 : j ∉ owns as) : rest st σ as F H a = H a := by
  unfold rest; rw [if_pos ⟨j, r, v, h1, h2, h3, h4⟩]
theorem noF_rest (S : Sim T st σ B F H) {a : Addr} {o : HO} (h : rest st σ as F H a = some o) : ¬ isTb o := by
  unfold rest at h
  split at h
  · rename_i z
    obtain ⟨j, r, v, h1, h2, h3, _⟩ := z
    exact S.ntb h1 h2 h3 o h
  · exact S.tbs.noF a o h
theorem rest_old (S : Sim T st σ B F H) {a : Addr} {o : HO} (h : F a = some o) : rest st σ as F H a = some o := by
  unfold rest
  rw [if_neg]
  · exact h
  · rintro ⟨j, r, v, h1, h2, h3, _⟩
    have := (S.own j r v a h1 h2 h3).2
    rw [h] at this; cases this
theorem sim_args (S : Sim T st σ B F H) (hv : ArgsAre T B σ as vs) (hg : getA as st = some rs) (nd : (owns as).Nodup) : Sim T (rs.map some) (vs.map some) B (rest st σ as F H) H := by
  obtain ⟨lr, gr⟩ := getA_get hg
  have lv := Paired.length hv
  have at_ : ∀ {k : Nat} {r : R}, (rs.map some)[k]? = some (some r) → ∃ a v, as[k]? = some a ∧ vs[k]? = some v ∧ ArgIs T B σ a v ∧ ((∃ x, a = .v x ∧ r = .d x) ∨ ∃ i, a = .o i ∧ st[i]? = some (some r)) := fun {k r} h => by
    rw [List.getElem?_map] at h
    cases e : rs[k]? with
    | none => rw [e] at h; cases h
    | some r' =>
      rw [e] at h; cases h
      have hk : k < as.length := by have := (List.getElem?_eq_some_iff.mp e).1; omega
      have ea : as[k]? = some as[k] := List.getElem?_eq_getElem hk
      generalize as[k] = a at ea
      obtain ⟨v, ev, iv⟩ := paired_get hv ea
      refine ⟨a, v, ea, ev, iv, ?_⟩
      have g := gr k a ea
      cases a with
      | v x => have g : rs[k]? = some (.d x) := g; rw [e] at g; cases g; exact .inl ⟨x, rfl, rfl⟩
      | o i => obtain ⟨r2, g1, g2⟩ := g; rw [e] at g1; cases g1; exact .inr ⟨i, rfl, g2⟩
  refine ⟨S.exB, fun a o h => ?_, fun a o h => ?_, S.tup, by simp [lr, lv], fun k r h => ?_, fun k r v a h1 h2 h3 => ?_, fun k l r q v u a n h1 h2 h3 h4 h5 h6 => ?_, ⟨fun a o h => noF_rest S h, S.tbs.tab⟩⟩
  · unfold rest at h
    split at h
    · exact h
    · exact S.exF a o h
  · unfold rest at h
    split at h
    · rename_i z
      obtain ⟨j, r, v, h1, h2, h3, _⟩ := z
      exact (S.own j r v a h1 h2 h3).1
    · exact S.dis a o h
  · obtain ⟨a, v, ea, ev, iv, hc⟩ := at_ h
    refine ⟨v, by rw [List.getElem?_map, ev]; rfl, ?_⟩
    rcases hc with ⟨x, rfl, rfl⟩ | ⟨i, rfl, hi⟩
    · exact iv
    · obtain ⟨v', h1, h2⟩ := S.rel i r hi
      have iv' : σ[i]? = some (some v) := iv
      rw [h1] at iv'; cases iv'
      exact h2
  · obtain ⟨a', v', ea, ev, iv, hc⟩ := at_ h1
    rw [List.getElem?_map, ev] at h2; cases h2
    rcases hc with ⟨x, rfl, rfl⟩ | ⟨i, rfl, hi⟩
    · exact h3.elim
    · have iv : σ[i]? = some (some v) := iv
      obtain ⟨z1, z2⟩ := S.own i r v a hi iv h3
      refine ⟨z1, ?_⟩
      unfold rest
      rw [if_neg]
      · exact z2
      · rintro ⟨j, q, u, g1, g2, g3, g4⟩
        have hne : i ≠ j := by rintro rfl; exact g4 (owns_mem ea)
        exact S.sep i j r q v u a hne hi iv g1 g2 h3 g3
  · obtain ⟨a1, v1, ea, ev, iv, hc⟩ := at_ h1
    obtain ⟨a2, v2, eb, ew, iw, hd⟩ := at_ h3
    rw [List.getElem?_map, ev] at h2; cases h2
    rw [List.getElem?_map, ew] at h4; cases h4
    rcases hc with ⟨x, rfl, rfl⟩ | ⟨i, rfl, hi⟩
    · exact h5.elim
    · rcases hd with ⟨x, rfl, rfl⟩ | ⟨j, rfl, hj⟩
      · exact h6.elim
      · have hne : i ≠ j := by
          rintro rfl
          have aux : ∀ {as : List Arg} {k l : Nat}, (owns as).Nodup → as[k]? = some (Arg.o i) → as[l]? = some (Arg.o i) → k = l := by
            intro as
            induction as with
            | nil => intro k l _ h; simp at h
            | cons b as ih =>
              intro k l nd h1 h2
              cases b with
              | v x =>
                cases k with
                | zero => simp at h1
                | succ k => cases l with
                  | zero => simp at h2
                  | succ l => exact congrArg Nat.succ (ih nd (by simpa using h1) (by simpa using h2))
              | o m =>
                have nd' := List.nodup_cons.mp (show (m :: owns as).Nodup from nd)
                cases k with
                | zero =>
                  simp at h1; subst h1
                  cases l with
                  | zero => rfl
                  | succ l => exact (nd'.1 (owns_mem (k := l) (by simpa using h2))).elim
                | succ k =>
                  cases l with
                  | zero => simp at h2; subst h2; exact (nd'.1 (owns_mem (k := k) (by simpa using h1))).elim
                  | succ l => exact congrArg Nat.succ (ih nd'.2 (by simpa using h1) (by simpa using h2))
          exact n (aux nd ea eb)
        exact S.sep i j r q v u a hne hi iv hj iw h5 h6
theorem sim_ret (S : Sim T st σ B F H) (hv : ArgsAre T B σ as vs) (hg : getA as st = some rs) (nd : (owns as).Nodup) {rs' : List R} (hl : rs'.length = rs.length) (e : Ex B B') (S' : Sim T (rs'.map some) (vs.map some) B' (rest st σ as F H) H') :
    Sim T (putA as rs' st) σ B' F H' ∧ (∀ a, rest st σ as F H a = none → F a = none) ∧
      ∀ {i : Nat} {r : R} {v : V} {a : Addr}, (putA as rs' st)[i]? = some (some r) → σ[i]? = some (some v) → Ow H' r v a → (∃ k : Nat, (rs'.map some)[k]? = some (some r) ∧ (vs.map some)[k]? = some (some v) ∧ as[k]? = some (Arg.o i)) ∨ (∃ o, rest st σ as F H a = some o) := by
  obtain ⟨lr, gr⟩ := getA_get hg
  have lv := Paired.length hv
  have at_ : ∀ {i : Nat} {r : R}, (putA as rs' st)[i]? = some (some r) → (∃ (k : Nat) (v : V), as[k]? = some (Arg.o i) ∧ rs'[k]? = some r ∧ vs[k]? = some v ∧ σ[i]? = some (some v)) ∨ (i ∉ owns as ∧ st[i]? = some (some r)) := fun {i r} h => by
    by_cases hm : i ∈ owns as
    · obtain ⟨k, ek⟩ := mem_owns hm
      obtain ⟨v, ev, iv⟩ := paired_get hv ek
      have hk : k < rs'.length := by have := (List.getElem?_eq_some_iff.mp ek).1; omega
      have er : rs'[k]? = some rs'[k] := List.getElem?_eq_getElem hk
      have hi : i < st.length := by have := (List.getElem?_eq_some_iff.mp h).1; rw [putA_length] at this; exact this
      rw [putA_own nd ek hi er] at h
      cases h
      exact .inl ⟨k, v, ek, er, ev, iv⟩
    · rw [putA_other hm] at h
      exact .inr ⟨hm, h⟩
  have rn : ∀ a, rest st σ as F H a = none → F a = none := fun a h => by
    cases q : F a with
    | none => rfl
    | some o => rw [rest_old S q] at h; cases h
  have hit : ∀ {i : Nat} {r : R} {v : V} {a : Addr}, i ∉ owns as → st[i]? = some (some r) → σ[i]? = some (some v) → Ow H r v a → ∃ o, rest st σ as F H a = some o := fun {i r v a} h1 h2 h3 h4 => by
    rw [rest_hit S h2 h3 h4 h1]
    obtain ⟨v', h5, h6⟩ := S.rel i r h2
    rw [h3] at h5; cases h5
    exact (h6.ow h4).1
  have tk : Tk H H' := fun a xs h => S'.exB a _ (e a _ (S.tup a xs h))
  have bk : ∀ {i : Nat} {r : R} {v : V} {a : Addr}, i ∉ owns as → st[i]? = some (some r) → σ[i]? = some (some v) → Ow H' r v a → Ow H r v a := fun {i r v a} h1 h2 h3 h4 => by
    obtain ⟨v', h5, h6⟩ := S.rel i r h2
    rw [h3] at h5; cases h5
    exact Ow.back tk h6 (fun p o g1 g2 => S'.exF p o (by rw [rest_hit S h2 h3 g1 h1]; exact g2)) h4
  refine ⟨⟨S'.exB, fun a o h => S'.exF a o (rest_old S h), fun a o h => S'.dis a o (rest_old S h), S'.tup, by rw [putA_length]; exact S.len, fun i r h => ?_, fun i r v a h1 h2 h3 => ?_, fun i j r q v u a n h1 h2 h3 h4 h5 h6 => ?_, ⟨S.tbs.noF, S'.tbs.tab⟩⟩, rn, fun {i r v a} h1 h2 h3 => ?_⟩
  · rcases at_ h with ⟨k, v, ek, er, ev, es⟩ | ⟨hm, hs⟩
    · obtain ⟨v', h1, h2⟩ := S'.rel k r (by rw [List.getElem?_map, er]; rfl)
      rw [List.getElem?_map, ev] at h1; cases h1
      exact ⟨v, es, h2⟩
    · obtain ⟨v, h1, h2⟩ := S.rel i r hs
      refine ⟨v, h1, h2.keep e tk fun a o ho hh => ?_⟩
      exact S'.exF a o (by rw [rest_hit S hs h1 ho hm]; exact hh)
  · rcases at_ h1 with ⟨k, v', ek, er, ev, es⟩ | ⟨hm, hs⟩
    · rw [h2] at es; cases es
      obtain ⟨z1, z2⟩ := S'.own k r v a (by rw [List.getElem?_map, er]; rfl) (by rw [List.getElem?_map, ev]; rfl) h3
      exact ⟨z1, rn a z2⟩
    · have h3 := bk hm hs h2 h3
      obtain ⟨o, ho⟩ := hit hm hs h2 h3
      exact ⟨S'.dis a o ho, (S.own i r v a hs h2 h3).2⟩
  · rcases at_ h1 with ⟨k, v', ek, er, ev, es⟩ | ⟨hm, hs⟩
    · rw [h2] at es; cases es
      rcases at_ h3 with ⟨l, u', el, eq, eu, et⟩ | ⟨hm', hs'⟩
      · rw [h4] at et; cases et
        have hkl : k ≠ l := by rintro rfl; rw [ek] at el; cases el; exact n rfl
        exact S'.sep k l r q v u a hkl (by rw [List.getElem?_map, er]; rfl) (by rw [List.getElem?_map, ev]; rfl) (by rw [List.getElem?_map, eq]; rfl) (by rw [List.getElem?_map, eu]; rfl) h5 h6
      · obtain ⟨o, ho⟩ := hit hm' hs' h4 (bk hm' hs' h4 h6)
        have := (S'.own k r v a (by rw [List.getElem?_map, er]; rfl) (by rw [List.getElem?_map, ev]; rfl) h5).2
        rw [ho] at this; cases this
    · rcases at_ h3 with ⟨l, u', el, eq, eu, et⟩ | ⟨hm', hs'⟩
      · rw [h4] at et; cases et
        obtain ⟨o, ho⟩ := hit hm hs h2 (bk hm hs h2 h5)
        have := (S'.own l q u a (by rw [List.getElem?_map, eq]; rfl) (by rw [List.getElem?_map, eu]; rfl) h6).2
        rw [ho] at this; cases this
      · exact S.sep i j r q v u a n hs h2 hs' h4 (bk hm hs h2 h5) (bk hm' hs' h4 h6)
  · rcases at_ h1 with ⟨k, v', ek, er, ev, es⟩ | ⟨hm, hs⟩
    · rw [h2] at es; cases es
      exact .inl ⟨k, by rw [List.getElem?_map, er]; rfl, by rw [List.getElem?_map, ev]; rfl, ek⟩
    · exact .inr (hit hm hs h2 (bk hm hs h2 h3))
theorem okx_call {E : XK} (S : Sim T st σ B F H) (hv : ArgsAre T B σ as vs) {f : Fn} {o : Oc R} {s : Sl} (h : callF f as st = some (o, s)) {Q : VK} (hQ : Okr T E o s σ B F (fun v _ H' => Q v H')) : sp T vs.length f vs H Q E := by
  unfold callF at h
  split at h
  · rename_i rs hg
    split at h
    · rename_i nd
      split at h
      · rename_i o' rs' hf
        split at h
        · rename_i hl
          cases h
          refine ⟨rfl, rs, B, _, _, rs', sim_args S hv hg nd, hf, ?_⟩
          cases o with
          | v r =>
            intro v B' H' e S'
            obtain ⟨P, rn, who⟩ := sim_ret S hv hg nd hl e S'.pop
            refine hQ v B' H' e ⟨P.exB, P.exF, P.dis, P.tup, by have := P.len; simpa using this, fun i q hi => ?_, fun i q u a h1 h2 h3 => ?_, fun i j q p u w a n h1 h2 h3 h4 h5 h6 => ?_, P.tbs⟩
            · cases i with
              | zero => cases hi; exact ⟨v, rfl, S'.top⟩
              | succ i => obtain ⟨u, a, b⟩ := P.rel i q (by simpa using hi); exact ⟨u, by simpa using a, b⟩
            · cases i with
              | zero => cases h1; cases h2; obtain ⟨z1, z2⟩ := S'.own 0 r v a rfl rfl h3; exact ⟨z1, rn a z2⟩
              | succ i => exact P.own i q u a (by simpa using h1) (by simpa using h2) h3
            · have cross : ∀ {j : Nat} {q : R} {u : V}, (putA as rs' st)[j]? = some (some q) → σ[j]? = some (some u) → Ow H' r v a → Ow H' q u a → False := fun {j q u} g1 g2 g3 g4 => by
                rcases who g1 g2 g4 with ⟨k, y1, y2, _⟩ | ⟨o, ho⟩
                · exact S'.sep 0 (k + 1) r q v u a (by omega) rfl rfl (by simpa using y1) (by simpa using y2) g3 g4
                · have := (S'.own 0 r v a rfl rfl g3).2
                  rw [ho] at this; cases this
              cases i with
              | zero =>
                cases h1; cases h2
                cases j with
                | zero => exact n rfl
                | succ j => exact cross (by simpa using h3) (by simpa using h4) h5 h6
              | succ i =>
                cases j with
                | zero => cases h3; cases h4; exact cross (by simpa using h1) (by simpa using h2) h6 h5
                | succ j => exact P.sep i j q p u w a (by omega) (by simpa using h1) (by simpa using h2) (by simpa using h3) (by simpa using h4) h5 h6
          | x c =>
            intro d B' H' e S'
            exact hQ d B' H' e (sim_ret S hv hg nd hl e S').1
        · cases h
      · cases h
    · cases h
  · cases h
end
theorem args_app {as bs : List Arg} {vs ws : List V} (h : ArgsAre T B σ as vs) (g : ArgsAre T B σ bs ws) : ArgsAre T B σ (as ++ bs) (vs ++ ws) := by
  induction h with
  | nil => exact g
  | cons r _ ih => exact .cons r ih
theorem args_ds : ∀ {ds : List D} {ws : List V}, Reps T B ds ws → ArgsAre T B σ (ds.map Arg.v) ws
  | [], ws, h => by unfold Reps at h; subst h; exact .nil
  | d :: ds, ws, h => by
    unfold Reps at h
    obtain ⟨v, r, rfl, h1, h2⟩ := h
    exact .cons h1 (args_ds h2)
theorem semR_call {n : Nat} {f : Fn} {fa : M (List Arg)} {ta : TA} {ds : List D} {dvs : List V} (hd : ∀ B, Reps T B ds dvs) (ha : SemAA T E ta fa) : SemR T E (tCallSD (sp T n f) dvs E ta) (rCall n f ds fa) := by
  intro st σ B F H S o s h Q hQ
  rcases bnd_some h with ⟨c, e1, rfl⟩ | ⟨as, s1, e1, e2⟩
  · exact ha st σ B F H S _ _ e1 _ hQ
  · refine ha st σ B F H S _ _ e1 _ fun B1 H1 x1 S1 vs hvs => ?_
    have hQ1 : Okr T (E σ) o s σ B1 F (fun v _ H' => Q v H') := by
      cases o with
      | v r => exact fun v B2 H2 x2 S2 => hQ v B2 H2 (x1.trans x2) S2
      | x c => exact fun d B2 H2 x2 S2 => hQ d B2 H2 (x1.trans x2) S2
    split at e2
    · rename_i hn
      have hA := args_app hvs (args_ds (σ := σ) (hd B1))
      have h2 := okx_call S1 hA e2 hQ1
      have l := Paired.length hA
      rw [List.length_append, List.length_map, hn] at l
      rw [← l] at h2
      exact h2
    · cases e2
end
end Fz
set_option Elab.async false
set_option linter.all false
set_option maxRecDepth 100000
set_option maxHeartbeats 2000000
namespace Fz
open PySem L2
mutual
def py : D → PyData
  | .non => .none
  | .bl b => .bool b
  | .int i => .int i
  | .str s => .str s
  | .tup ds => .tuple (pys ds)
  | .lst ds => .list (pys ds)
  | .obj _ _ => .none
  | .dct _ _ => .none
  | .ext _ _ => .none
def pys : List D → List PyData
  | [] => []
  | d :: ds => py d :: pys ds
end
mutual
def plain : D → Bool
  | .tup ds => plains ds
  | .lst ds => plains ds
  | .obj _ _ => false
  | .dct _ _ => false
  | .ext _ _ => false
  | _ => true
def plains : List D → Bool
  | [] => true
  | d :: ds => plain d && plains ds
end
theorem pys_map : ∀ ds : List D, pys ds = ds.map py
  | [] => rfl
  | d :: ds => by unfold pys; rw [pys_map ds]; rfl
section
variable {T : Tab} {B H : Hp}
mutual
theorem dp_of (e : Ex B H) : ∀ (d : D) {v : V}, plain d = true → Rep T B d v → Dp T.K H v (py d)
  | .non, v, _, h => by cases (show v = .non from h); exact .non
  | .bl b, v, _, h => by cases (show v = .bl b from h); exact .bl b
  | .int i, v, _, h => by cases (show v = .int i from h); exact .int i
  | .str s, v, _, h => by obtain ⟨rfl, _⟩ := (show v = .str s ∧ _ from h); exact .str s
  | .tup ds, v, p, h => by
    unfold Rep at h
    unfold plain at p
    obtain ⟨a, xs, rfl, h2, h3⟩ := h
    exact .tup (e.tu h2).sq (dps_of e ds p h3)
  | .lst ds, v, p, h => by
    unfold Rep at h
    unfold plain at p
    obtain ⟨a, xs, rfl, h2, h3⟩ := h
    exact .lst (e.sqL h2) (dps_of e ds p h3)
  | .obj _ _, v, p, h => by simp [plain] at p
  | .dct _ _, v, p, h => by simp [plain] at p
  | .ext _ _, v, p, h => by simp [plain] at p
theorem dps_of (e : Ex B H) : ∀ (ds : List D) {vs : List V}, plains ds = true → Reps T B ds vs → DpAll T.K H vs (pys ds)
  | [], vs, _, h => by unfold Reps at h; subst h; exact .nil
  | d :: ds, vs, p, h => by
    unfold Reps at h
    unfold plains at p
    obtain ⟨v, r, rfl, h2, h3⟩ := h
    have p' := (Bool.and_eq_true _ _).mp p
    exact .cons (dp_of e d p'.1 h2) (dps_of e ds p'.2 h3)
end
mutual
theorem lay_of : ∀ (d : D) {v : V}, plain d = true → Rep T B d v → (py d).canLay0 = true
  | .non, v, _, h => rfl
  | .bl b, v, _, h => rfl
  | .int i, v, _, h => rfl
  | .str s, v, _, h => by obtain ⟨_, h⟩ := (show v = .str s ∧ _ from h); simpa [py, PyData.canLay0] using h
  | .tup ds, v, p, h => by
    unfold Rep at h
    unfold plain at p
    obtain ⟨a, xs, rfl, h2, h3⟩ := h
    simp only [py, PyData.canLay0]
    exact lays_of ds p h3
  | .lst ds, v, p, h => by
    unfold Rep at h
    unfold plain at p
    obtain ⟨a, xs, rfl, h2, h3⟩ := h
    simp only [py, PyData.canLay0]
    exact lays_of ds p h3
  | .obj _ _, v, p, h => by simp [plain] at p
  | .dct _ _, v, p, h => by simp [plain] at p
  | .ext _ _, v, p, h => by simp [plain] at p
theorem lays_of : ∀ (ds : List D) {vs : List V}, plains ds = true → Reps T B ds vs → PyData.canLayAll0 (pys ds) = true
  | [], vs, _, h => rfl
  | d :: ds, vs, p, h => by
    unfold Reps at h
    unfold plains at p
    obtain ⟨v, r, rfl, h2, h3⟩ := h
    have p' := (Bool.and_eq_true _ _).mp p
    simp only [pys, PyData.canLayAll0, Bool.and_eq_true]
    exact ⟨lay_of d p'.1 h2, lays_of ds p'.2 h3⟩
end
end
mutual
def dep : D → Nat
  | .tup ds => deps ds + 1
  | .lst ds => deps ds + 1
  | _ => 0
def deps : List D → Nat
  | [] => 0
  | d :: ds => max (dep d) (deps ds)
end
mutual
theorem dep_eq : ∀ d : D, (py d).depth = dep d
  | .non => by simp [py, dep, PyData.depth]
  | .bl _ => by simp [py, dep, PyData.depth]
  | .int _ => by simp [py, dep, PyData.depth]
  | .str _ => by simp [py, dep, PyData.depth]
  | .tup ds => by simp only [py, dep, PyData.depth]; rw [deps_eq ds]
  | .lst ds => by simp only [py, dep, PyData.depth]; rw [deps_eq ds]
  | .obj _ _ => by simp [py, dep, PyData.depth]
  | .dct _ _ => by simp [py, dep, PyData.depth]
  | .ext _ _ => by simp [py, dep, PyData.depth]
theorem deps_eq : ∀ ds : List D, PyData.depthAll (pys ds) = deps ds
  | [] => by simp [pys, deps, PyData.depthAll]
  | d :: ds => by simp only [pys, deps, PyData.depthAll]; rw [dep_eq d, deps_eq ds]
end
def cok (d : D) : Bool := plain d && decide (dep d ≤ 64)
theorem cok_shaped {T : Tab} {B : Hp} {d : D} {v : V} (h : cok d = true) (r : Rep T B d v) : SeqAt.shaped (py d) = true := by
  have h' := (Bool.and_eq_true _ _).mp h
  show ((py d).canLay0 && decide ((py d).depth ≤ 64)) = true
  rw [Bool.and_eq_true]
  exact ⟨lay_of d h'.1 r, by rw [dep_eq]; exact h'.2⟩
theorem cok_plain {d : D} (h : cok d = true) : plain d = true := ((Bool.and_eq_true _ _).mp h).1
def same (x y : D) : Bool := PyData.eqv (py x) (py y)
def CMulB (i j : Int) : Prop := i.natAbs < 18446744073709551616 ∨ j.natAbs < 18446744073709551616
theorem cmul_b {i j : Int} (h : CMulB i j) : (-(2 ^ 64) < i ∧ i < 2 ^ 64) ∨ (-(2 ^ 64) < j ∧ j < 2 ^ 64) := by
  rcases h with h | h
  · left; constructor <;> omega
  · right; constructor <;> omega
instance (i j : Int) : Decidable (CMulB i j) := by unfold CMulB; infer_instance
def dAdd : D → D → Option D
  | .int i, .int j => some (.int (i + j))
  | .str a, .str b => if a.length + b.length ≤ sizeLine then some (.str (a ++ b)) else none
  | .tup xs, .tup ys => if xs.length + ys.length ≤ sizeLine then some (.tup (xs ++ ys)) else none
  | _, _ => none
def dSub : D → D → Option D
  | .int i, .int j => some (.int (i - j))
  | _, _ => none
def dMul : D → D → Option D
  | .int i, .int j => if CMulB i j then some (.int (i * j)) else none
  | _, _ => none
def dMod : D → D → Option D
  | .int i, .int j => if 0 < j then some (.int (i % j)) else none
  | _, _ => none
def dDiv : D → D → Option D
  | .int i, .int j => if 0 < j ∧ j < 1073741824 then some (.int (i / j)) else none
  | _, _ => none
def dEq (x y : D) : Option D := if cok x && cok y then some (.bl (same x y)) else none
def dNe (x y : D) : Option D := if cok x && cok y then some (.bl (!same x y)) else none
def dLt : D → D → Option D
  | .int i, .int j => some (.bl (decide (i < j)))
  | .str a, .str b => some (.bl (decide (a.cps.toList < b.cps.toList)))
  | _, _ => none
def dGt : D → D → Option D
  | .int i, .int j => some (.bl (decide (j < i)))
  | .str a, .str b => some (.bl (decide (b.cps.toList < a.cps.toList)))
  | _, _ => none
def dLe : D → D → Option D
  | .int i, .int j => some (.bl (decide (i ≤ j)))
  | .str a, .str b => some (.bl (!decide (b.cps.toList < a.cps.toList)))
  | _, _ => none
def dGe : D → D → Option D
  | .int i, .int j => some (.bl (decide (j ≤ i)))
  | .str a, .str b => some (.bl (!decide (a.cps.toList < b.cps.toList)))
  | _, _ => none
def flat : D → Bool
  | .non => true | .bl _ => true | .int _ => true | .str _ => true
  | _ => false
def dInB : D → D → Option Bool
  | .str a, .str b => match a.cps.toList with
    | [c] => some (decide (c ∈ b.cps.toList))
    | _ => none
  | x, .lst ys => if cok x && cok (.lst ys) then some (ys.any fun z => same z x) else none
  | x, .tup ys => if flat x && ys.all flat then some (ys.any fun z => same z x) else none
  | _, _ => none
def dIn (x y : D) : Option D := (dInB x y).map .bl
def dNotIn (x y : D) : Option D := (dInB x y).map fun b => .bl !b
theorem strOk_app {a b : Str} (h : PyData.strOk a = true) (g : PyData.strOk b = true) : PyData.strOk (a ++ b) = true := by
  unfold PyData.strOk at *
  have e : (a ++ b).cps = a.cps ++ b.cps := rfl
  rw [e, Array.all_append, h, g]; rfl
theorem strOk_mem {a : Str} : PyData.strOk a = true ↔ ∀ c ∈ a.cps.toList, c < 0x110000 := by
  unfold PyData.strOk
  rw [← Array.all_toList, List.all_eq_true]
  simp
section
variable {T : Tab} {X : Cx}
def sc : D → Option V
  | .non => some .non
  | .bl b => some (.bl b)
  | .int i => some (.int i)
  | _ => none
theorem rep_int {B : Hp} {i : Int} {v : V} (h : Rep T B (.int i) v) : v = .int i := h
theorem rep_bl {B : Hp} {i : Bool} {v : V} (h : Rep T B (.bl i) v) : v = .bl i := h
theorem rep_non {B : Hp} {v : V} (h : Rep T B .non v) : v = .non := h
theorem rep_str {B : Hp} {i : Str} {v : V} (h : Rep T B (.str i) v) : v = .str i ∧ PyData.strOk i = true := h
def rAddA (K : PySem.W.Frag) : R2 := fun x y H Q => (∃ i j, x = .int i ∧ y = .int j ∧ Q (.int (i + j)) H) ∨ ((∃ i j, x = .str i ∧ y = .str j ∧ i.length + j.length ≤ sizeLine ∧ Q (.str (i ++ j)) H) ∨ rCatA K x y H Q)
theorem op_addA : OpR X (binaryOp .Add) (rAddA X.K) := op_add.or (op_add_str.or op_catA)
theorem p_add : Prim2 T (rAddA T.K) dAdd := by
  intro x y z vx vy B H Q e hx hy hz k
  unfold dAdd at hz
  split at hz
  · cases hz; cases rep_int hx; cases rep_int hy
    exact .inl ⟨_, _, rfl, rfl, k _ B H (.refl e) rfl⟩
  · split at hz
    · rename_i hl
      cases hz
      obtain ⟨rfl, s1⟩ := rep_str hx
      obtain ⟨rfl, s2⟩ := rep_str hy
      exact .inr (.inl ⟨_, _, rfl, rfl, hl, k _ B H (.refl e) ⟨rfl, strOk_app s1 s2⟩⟩)
    · cases hz
  · rename_i xs ys
    split at hz
    · rename_i hl
      cases hz
      unfold Rep at hx hy
      obtain ⟨a, us, rfl, t1, r1⟩ := hx
      obtain ⟨b, ws, rfl, t2, r2⟩ := hy
      refine .inr (.inr ⟨a, b, us, ws, rfl, rfl, (e.tu t1).sq, (e.tu t2).sq, by rw [← r1.length, ← r2.length]; exact hl, ?_⟩)
      have whole1 : ws = [] → Rep T B (.tup (xs ++ ys)) (.ref a) := fun h => by
        subst h
        have : ys = [] := List.eq_nil_of_length_eq_zero (by rw [r2.length]; rfl)
        subst this
        rw [List.append_nil]; unfold Rep; exact ⟨a, us, rfl, t1, r1⟩
      have whole2 : us = [] → Rep T B (.tup (xs ++ ys)) (.ref b) := fun h => by
        subst h
        have : xs = [] := List.eq_nil_of_length_eq_zero (by rw [r1.length]; rfl)
        subst this
        rw [List.nil_append]; unfold Rep; exact ⟨b, ws, rfl, t2, r2⟩
      refine ⟨fun h => ?_, fun _ h => ?_, fun _ _ p hp => ?_⟩
      · exact k _ B H (.refl e) (whole2 h)
      · exact k _ B H (.refl e) (whole1 h)
      · have w := Ext.newT (o := .tup (us ++ ws)) e hp
        exact k _ _ _ w (rep_tup upd_same (Reps.mono w.b _ (r1.append r2)))
    · cases hz
  · cases hz
end
end Fz
set_option Elab.async false
set_option linter.all false
set_option maxRecDepth 100000
set_option maxHeartbeats 2000000
namespace Fz
open PySem L2
section
variable {T : Tab} {X : Cx}
theorem p_mul : Prim2 T (rI CMul fun i j => .int (i * j)) dMul := by
  intro x y z vx vy B H Q e hx hy hz k
  unfold dMul at hz
  split at hz
  · split at hz
    · rename_i hc
      cases hz; cases rep_int hx; cases rep_int hy
      exact ⟨_, _, rfl, rfl, cmul_b hc, k _ B H (.refl e) rfl⟩
    · cases hz
  · cases hz
theorem p_mod : Prim2 T (rI (fun _ j => 0 < j) fun i j => .int (i % j)) dMod := by
  intro x y z vx vy B H Q e hx hy hz k
  unfold dMod at hz
  split at hz
  · split at hz
    · rename_i hc
      cases hz; cases rep_int hx; cases rep_int hy
      exact ⟨_, _, rfl, rfl, hc, k _ B H (.refl e) rfl⟩
    · cases hz
  · cases hz
theorem p_eq : Prim2 T (rEqD T.K) dEq := by
  intro x y z vx vy B H Q e hx hy hz k
  unfold dEq at hz
  split at hz
  · rename_i hc
    have hc' := (Bool.and_eq_true _ _).mp hc
    cases hz
    exact ⟨py x, py y, dp_of e x (cok_plain hc'.1) hx, dp_of e y (cok_plain hc'.2) hy, cok_shaped hc'.1 hx, cok_shaped hc'.2 hy, k _ B H (.refl e) rfl⟩
  · cases hz
theorem p_ne : Prim2 T (rNeD T.K) dNe := by
  intro x y z vx vy B H Q e hx hy hz k
  unfold dNe at hz
  split at hz
  · rename_i hc
    have hc' := (Bool.and_eq_true _ _).mp hc
    cases hz
    exact ⟨py x, py y, dp_of e x (cok_plain hc'.1) hx, dp_of e y (cok_plain hc'.2) hy, cok_shaped hc'.1 hx, cok_shaped hc'.2 hy, k _ B H (.refl e) rfl⟩
  · cases hz
def rCmp (p : Int → Int → Bool) (q : Str → Str → Bool) : R2 := fun x y H Q => (∃ i j, x = .int i ∧ y = .int j ∧ Q (.bl (p i j)) H) ∨ ∃ i j, x = .str i ∧ y = .str j ∧ Q (.bl (q i j)) H
theorem op_ltA : OpR X (compareOp .Lt) (rCmp (fun i j => decide (i < j)) fun a b => decide (a.cps.toList < b.cps.toList)) := op_lt.or op_lt_str
theorem op_gtA : OpR X (compareOp .Gt) (rCmp (fun i j => decide (j < i)) fun a b => decide (b.cps.toList < a.cps.toList)) := op_gt.or op_gt_str
theorem p_cmp {p : Int → Int → Bool} {q : Str → Str → Bool} {g : D → D → Option D} (h1 : ∀ i j, g (.int i) (.int j) = some (.bl (p i j))) (h2 : ∀ a b, g (.str a) (.str b) = some (.bl (q a b))) (h3 : ∀ x y z, g x y = some z → (∃ i j, x = .int i ∧ y = .int j) ∨ ∃ a b, x = .str a ∧ y = .str b) : Prim2 T (rCmp p q) g := by
  intro x y z vx vy B H Q e hx hy hz k
  rcases h3 x y z hz with ⟨i, j, rfl, rfl⟩ | ⟨a, b, rfl, rfl⟩
  · rw [h1] at hz; cases hz; cases rep_int hx; cases rep_int hy
    exact .inl ⟨_, _, rfl, rfl, k _ B H (.refl e) rfl⟩
  · rw [h2] at hz; cases hz
    obtain ⟨rfl, _⟩ := rep_str hx
    obtain ⟨rfl, _⟩ := rep_str hy
    exact .inr ⟨_, _, rfl, rfl, k _ B H (.refl e) rfl⟩
theorem p_lt : Prim2 T (rCmp (fun i j => decide (i < j)) fun a b => decide (a.cps.toList < b.cps.toList)) dLt := p_cmp (fun _ _ => rfl) (fun _ _ => rfl) fun x y z h => by
  unfold dLt at h
  split at h
  · exact .inl ⟨_, _, rfl, rfl⟩
  · exact .inr ⟨_, _, rfl, rfl⟩
  · cases h
theorem p_gt : Prim2 T (rCmp (fun i j => decide (j < i)) fun a b => decide (b.cps.toList < a.cps.toList)) dGt := p_cmp (fun _ _ => rfl) (fun _ _ => rfl) fun x y z h => by
  unfold dGt at h
  split at h
  · exact .inl ⟨_, _, rfl, rfl⟩
  · exact .inr ⟨_, _, rfl, rfl⟩
  · cases h
def fv : D → V
  | .non => .non
  | .bl b => .bl b
  | .int i => .int i
  | .str s => .str s
  | _ => .non
theorem flat_v {B : Hp} {d : D} {v : V} (h : flat d = true) (r : Rep T B d v) : v = fv d := by
  cases d with
  | non => exact r
  | bl b => exact r
  | int i => exact r
  | str s => exact (rep_str r).1
  | _ => cases h
theorem flatV_fv {d : D} (h : flat d = true) : flatV (fv d) = true := by cases d <;> first | rfl | cases h
theorem flats_v {B : Hp} : ∀ {ds : List D} {vs : List V}, ds.all flat = true → Reps T B ds vs → vs = ds.map fv
  | [], vs, _, r => by unfold Reps at r; exact r
  | d :: ds, vs, h, r => by
    unfold Reps at r
    obtain ⟨v, us, rfl, r1, r2⟩ := r
    simp only [List.all_cons, Bool.and_eq_true] at h
    rw [flat_v h.1 r1, flats_v h.2 r2]; rfl
theorem eqV_same {x y : D} (hx : flat x = true) (hy : flat y = true) : eqV (fv y) (fv x) = same y x := by
  cases x <;> first | (cases hx; done) | skip
  all_goals (cases y <;> first | (cases hy; done) | skip)
  all_goals first | rfl | (simp [fv, eqV, same, py, PyData.eqv]; done) | skip
  all_goals (simp only [fv, eqV, same, py, PyData.eqv]; try rfl)
end
end Fz
set_option Elab.async false
set_option linter.all false
set_option maxRecDepth 100000
set_option maxHeartbeats 2000000
namespace Fz
open PySem L2
section
variable {T : Tab} {X : Cx}
def rInA (K : PySem.W.Frag) (neg : Bool) : R2 := fun x y H Q =>
  (∃ (c : Nat) (z : Str), x = .str ⟨#[c]⟩ ∧ y = .str z ∧ Q (.bl (if neg then !decide (c ∈ z.cps.toList) else decide (c ∈ z.cps.toList))) H) ∨
  ((∃ d ds, Dp K H x d ∧ Dp K H y (.list ds) ∧ SeqAt.shaped d = true ∧ SeqAt.shaped (.list ds) = true ∧ Q (.bl (if neg then !(ds.any fun z => PyData.eqv z d) else ds.any fun z => PyData.eqv z d)) H) ∨ rIn K neg x y H Q)
theorem op_notInA (hu : X.A.units + 65 < cLine) : OpR X (compareOp .NotIn) (rInA X.K true) := by
  intro pins s σ H x y v u Q I rx ry h
  rcases h with h | h | h
  · exact op_notIn_sign pins s σ H x y v u Q I rx ry h
  · exact op_notInD hu pins s σ H x y v u Q I rx ry h
  · exact op_notIn_seq pins s σ H x y v u Q I rx ry h
theorem any_same {x : D} : ∀ ys : List D, (pys ys).any (fun z => PyData.eqv z (py x)) = ys.any fun z => same z x
  | [] => rfl
  | y :: ys => by unfold pys; rw [List.any_cons, List.any_cons, any_same ys]; rfl
theorem inV_same {x : D} (hx : flat x = true) : ∀ ys : List D, ys.all flat = true → inV (fv x) (ys.map fv) = ys.any fun z => same z x
  | [], _ => rfl
  | y :: ys, h => by
    simp only [List.all_cons, Bool.and_eq_true] at h
    have ih := inV_same hx ys h.2
    unfold inV at ih ⊢
    rw [List.map_cons, List.any_cons, List.any_cons, ih, eqV_same hx h.1]
theorem flats_fv {ys : List D} (h : ys.all flat = true) : (ys.map fv).all flatV = true := by
  rw [List.all_map]
  rw [List.all_eq_true] at h ⊢
  intro d hd
  exact flatV_fv (h d hd)
theorem p_inG (neg : Bool) : Prim2 T (rInA T.K neg) (fun x y => (dInB x y).map fun b => .bl (if neg then !b else b)) := by
  intro x y z vx vy B H Q e hx hy hz k
  dsimp only at hz
  cases hb : dInB x y with
  | none => rw [hb] at hz; cases hz
  | some b =>
    rw [hb] at hz; cases hz
    unfold dInB at hb
    split at hb
    · rename_i a b'
      split at hb
      · rename_i c hc
        cases hb
        obtain ⟨rfl, _⟩ := rep_str hx
        obtain ⟨rfl, _⟩ := rep_str hy
        refine .inl ⟨c, b', ?_, rfl, k _ B H (.refl e) rfl⟩
        congr 1
        exact Str.ext' (Array.toList_inj.mp (by rw [hc]))
      · cases hb
    · rename_i ys
      split at hb
      · rename_i hc
        cases hb
        have hc' := (Bool.and_eq_true _ _).mp hc
        refine .inr (.inl ⟨py x, pys ys, dp_of e x (cok_plain hc'.1) hx, ?_, cok_shaped hc'.1 hx, ?_, ?_⟩)
        · have := dp_of e (.lst ys) (cok_plain hc'.2) hy
          simpa only [py] using this
        · have := cok_shaped hc'.2 hy
          simpa only [py] using this
        · rw [any_same]; exact k _ B H (.refl e) rfl
      · cases hb
    · rename_i ys _
      split at hb
      · rename_i hc
        cases hb
        have hc' := (Bool.and_eq_true _ _).mp hc
        unfold Rep at hy
        obtain ⟨a, us, rfl, t1, r1⟩ := hy
        cases flats_v hc'.2 r1
        cases flat_v hc'.1 hx
        refine .inr (.inr ⟨a, _, rfl, .inr (e.tu t1).sq, flatV_fv hc'.1, flats_fv hc'.2, ?_⟩)
        rw [inV_same hc'.1 _ hc'.2]
        exact k _ B H (.refl e) rfl
      · cases hb
    · cases hb
theorem p_notIn : Prim2 T (rInA T.K true) dNotIn := p_inG true
def isNone : D → Bool
  | .non => true
  | _ => false
def dIsv : D → D → Option Bool
  | .bl a, .bl b => some (decide (a = b))
  | x, .non => some (isNone x)
  | _, _ => none
def dIs (x y : D) : Option D := (dIsv x y).map .bl
def dIx : D → D → Option D
  | .lst xs, .int i => atI xs i
  | .tup xs, .int i => atI xs i
  | .str z, .int i => if z.length ≤ sizeLine then (atI z.cps.toList i).map fun c => .str ⟨#[c]⟩ else none
  | _, _ => none
theorem atI_reps {B : Hp} {ds : List D} {vs : List V} {i : Int} {d : D} (r : Reps T B ds vs) (h : atI ds i = some d) : ∃ v, atI vs i = some v ∧ Rep T B d v := by
  unfold atI at h ⊢
  rw [r.length] at h
  cases e : ixN vs.length i with
  | none => rw [e] at h; cases h
  | some j =>
    rw [e] at h
    exact r.get (by simpa using h)
theorem p_ix : Prim2 T (rIx T.K) dIx := by
  intro x y z vx vy B H Q e hx hy hz k
  unfold dIx at hz
  split at hz
  · unfold Rep at hx
    obtain ⟨a, us, rfl, t1, r1⟩ := hx
    cases rep_int hy
    obtain ⟨v, h1, h2⟩ := atI_reps r1 hz
    exact .inl ⟨a, us, _, v, rfl, rfl, e.sqL t1, h1, k v B H (.refl e) h2⟩
  · unfold Rep at hx
    obtain ⟨a, us, rfl, t1, r1⟩ := hx
    cases rep_int hy
    obtain ⟨v, h1, h2⟩ := atI_reps r1 hz
    exact .inr (.inl ⟨a, us, _, v, rfl, rfl, (e.tu t1).sq, h1, k v B H (.refl e) h2⟩)
  · rename_i zs i
    split at hz
    · rename_i hl
      obtain ⟨rfl, ok⟩ := rep_str hx
      cases rep_int hy
      cases hc : atI zs.cps.toList i with
      | none => rw [hc] at hz; cases hz
      | some c =>
        rw [hc] at hz; cases hz
        refine .inr (.inr ⟨zs, i, c, rfl, rfl, hl, hc, k _ B H (.refl e) ⟨rfl, ?_⟩⟩)
        obtain ⟨j, _, hj, _⟩ := atI_get hc
        rw [strOk_mem]
        intro c' hc'
        have : c' = c := by simpa using hc'
        subst this
        exact strOk_mem.mp ok c' (List.mem_of_getElem? hj)
    · cases hz
  · cases hz
def cutD {α : Type} (xs : List α) (lo hi : Option Int) : List α := (xs.drop (HT.sIx xs.length 0 lo)).take (HT.sIx xs.length xs.length hi - HT.sIx xs.length 0 lo)
theorem reps_drop {B : Hp} : ∀ (n : Nat) {ds : List D} {vs : List V}, Reps T B ds vs → Reps T B (ds.drop n) (vs.drop n)
  | 0, _, _, r => r
  | n + 1, [], vs, r => by unfold Reps at r; subst r; exact reps_nil
  | n + 1, d :: ds, vs, r => by
    unfold Reps at r
    obtain ⟨v, us, rfl, _, r2⟩ := r
    exact reps_drop n r2
theorem reps_take {B : Hp} : ∀ (n : Nat) {ds : List D} {vs : List V}, Reps T B ds vs → Reps T B (ds.take n) (vs.take n)
  | 0, _, _, _ => reps_nil
  | n + 1, [], vs, r => by unfold Reps at r; subst r; exact reps_nil
  | n + 1, d :: ds, vs, r => by
    unfold Reps at r
    obtain ⟨v, us, rfl, r1, r2⟩ := r
    exact reps_cons r1 (reps_take n r2)
def dSl (x : D) (lo hi : Option Int) : Option D := match x with
  | .tup xs => some (.tup (cutD xs lo hi))
  | .str z => if z.length ≤ sizeLine then some (.str (cutS z lo hi)) else none
  | _ => none
def oNone : M (Option Int) := ret none
def oSome (f : M D) : M (Option Int) := bnd f fun x => opt (match x with | .int i => some (some i) | _ => none)
variable {E : L2.St → XK} {te : TE} {fa : M D}
def eSl (fa : M D) (lo hi : M (Option Int)) : M D := bnd fa fun x => bnd lo fun l => bnd hi fun h => opt (dSl x l h)
def rSlL' (fa : M D) (lo hi : M (Option Int)) : M R := bnd fa fun x => bnd lo fun l => bnd hi fun h => opt (match x with | .lst xs => some (.ol (cutD xs l h)) | _ => none)
def dLen : List D → Option D
  | [.str s] => if s.length ≤ sizeLine then some (.int (s.length : Nat)) else none
  | [.lst xs] => some (.int (xs.length : Nat))
  | [.tup xs] => some (.int (xs.length : Nat))
  | _ => none
theorem reps1 {B : Hp} {d : D} {vs : List V} (h : Reps T B [d] vs) : ∃ v, vs = [v] ∧ Rep T B d v := by
  unfold Reps at h
  obtain ⟨v, r, rfl, h1, h2⟩ := h
  unfold Reps at h2
  subst h2
  exact ⟨v, rfl, h1⟩
theorem reps2 {B : Hp} {d d' : D} {vs : List V} (h : Reps T B [d, d'] vs) : ∃ v u, vs = [v, u] ∧ Rep T B d v ∧ Rep T B d' u := by
  unfold Reps at h
  obtain ⟨v, r, rfl, h1, h2⟩ := h
  obtain ⟨u, rfl, h3⟩ := reps1 h2
  exact ⟨v, u, rfl, h1, h3⟩
theorem p_len : PrimN T (fun xs H Q => ∃ x n, xs = [x] ∧ LenV T.K x H n ∧ Q (.int (n : Nat)) H) dLen := by
  intro xs z vs B H Q e hx hz k
  unfold dLen at hz
  split at hz
  · split at hz
    · rename_i hl
      cases hz
      obtain ⟨v, rfl, r⟩ := reps1 hx
      obtain ⟨rfl, _⟩ := rep_str r
      exact ⟨_, _, rfl, ⟨hl, rfl⟩, k _ B H (.refl e) rfl⟩
    · cases hz
  · cases hz
    obtain ⟨v, rfl, r⟩ := reps1 hx
    unfold Rep at r
    obtain ⟨a, us, rfl, t1, r1⟩ := r
    exact ⟨_, _, rfl, .inl ⟨us, e.sqL t1, r1.length⟩, k _ B H (.refl e) rfl⟩
  · cases hz
    obtain ⟨v, rfl, r⟩ := reps1 hx
    unfold Rep at r
    obtain ⟨a, us, rfl, t1, r1⟩ := r
    exact ⟨_, _, rfl, .inr ⟨us, (e.tu t1).sq, r1.length⟩, k _ B H (.refl e) rfl⟩
  · cases hz
def dInt : List D → Option D
  | [.int i] => some (.int i)
  | [.bl b] => some (.int (if b = true then 1 else 0))
  | _ => none
def dTuple : List D → Option D
  | [.lst xs] => some (.tup xs)
  | [.tup xs] => some (.tup xs)
  | _ => none
theorem p_tuple : PrimN T (fun xs H Q => ∃ p ys, xs = [.ref p] ∧ ((SqL T.K H p ys ∧ ∀ l, H l = none → Q (.ref l) (upd H l (.tup ys))) ∨ (SqT T.K H p ys ∧ Q (.ref p) H))) dTuple := by
  intro xs z vs B H Q e hx hz k
  unfold dTuple at hz
  split at hz
  · cases hz
    obtain ⟨v, rfl, r⟩ := reps1 hx
    unfold Rep at r
    obtain ⟨a, us, rfl, t1, r1⟩ := r
    refine ⟨a, us, rfl, .inl ⟨e.sqL t1, fun p hp => ?_⟩⟩
    have w := Ext.newT (o := .tup us) e hp
    exact k _ _ _ w (rep_tup upd_same (Reps.mono w.b _ r1))
  · cases hz
    obtain ⟨v, rfl, r⟩ := reps1 hx
    have r' := r
    unfold Rep at r
    obtain ⟨a, us, rfl, t1, r1⟩ := r
    exact ⟨a, us, rfl, .inr ⟨(e.tu t1).sq, k _ B H (.refl e) r'⟩⟩
  · cases hz
def dList : List D → Option (List D)
  | [.lst xs] => some xs
  | [.tup xs] => some xs
  | _ => none
theorem p_list : PrimL T (fun xs H Q => ∃ p ys, xs = [.ref p] ∧ (SqL T.K H p ys ∨ SqT T.K H p ys) ∧ ∀ l, H l = none → Q (.ref l) (upd H l (.lst ys))) dList := by
  intro xs zs vs B H Q e hx hz k
  unfold dList at hz
  split at hz
  · cases hz
    obtain ⟨v, rfl, r⟩ := reps1 hx
    unfold Rep at r
    obtain ⟨a, us, rfl, t1, r1⟩ := r
    exact ⟨a, us, rfl, .inl (e.sqL t1), fun p hp => k p us B H (.refl e) hp r1⟩
  · cases hz
    obtain ⟨v, rfl, r⟩ := reps1 hx
    unfold Rep at r
    obtain ⟨a, us, rfl, t1, r1⟩ := r
    exact ⟨a, us, rfl, .inr (e.tu t1).sq, fun p hp => k p us B H (.refl e) hp r1⟩
  · cases hz
end
end Fz
set_option Elab.async false
set_option linter.all false
set_option maxRecDepth 100000
set_option maxHeartbeats 2000000
namespace Fz
open PySem L2
section
variable {T : Tab} {E : L2.St → XK} {st : Sl} {σ : St} {B F H B' H' : Hp}
theorem steps_list' {a : Addr} {ds : List D} {vs : List V} {B : Hp} (h : SqL T.K B a vs) (r : Reps T B ds vs) : Steps T (Itl T.K a) ds B where
  go := fun i H hi e => ⟨vs, vs[i]'(by rw [← r.length]; exact hi), e.sqL h, List.getElem?_eq_getElem _⟩
  stop := fun H e => ⟨vs, e.sqL h, Nat.le_of_eq r.length.symm⟩
  yld := fun i d H x H' B1 hd e1 e2 hy => by
    obtain ⟨rfl, hy⟩ := hy
    obtain ⟨v, hv, rv⟩ := r.get hd
    have := hy vs ((e1.trans e2).sqL h)
    rw [hv] at this; cases this
    exact ⟨B1, .refl e2, Rep.mono e1 d rv⟩
theorem steps_tup {a : Addr} {ds : List D} {vs : List V} {B : Hp} (h : Tu T B a vs) (r : Reps T B ds vs) : Steps T (Itt T.K a) ds B where
  go := fun i H hi e => ⟨vs, vs[i]'(by rw [← r.length]; exact hi), (e.tu h).sq, List.getElem?_eq_getElem _⟩
  stop := fun H e => ⟨vs, (e.tu h).sq, Nat.le_of_eq r.length.symm⟩
  yld := fun i d H x H' B1 hd e1 e2 hy => by
    obtain ⟨rfl, hy⟩ := hy
    obtain ⟨v, hv, rv⟩ := r.get hd
    have := hy vs ((e1.trans e2).tu h).sq
    rw [hv] at this; cases this
    exact ⟨B1, .refl e2, Rep.mono e1 d rv⟩
def rngD (lo : Int) (n : Nat) : List D := (List.range n).map fun (i : Nat) => D.int (lo + i)
theorem rngD_len (lo : Int) (n : Nat) : (rngD lo n).length = n := by unfold rngD; rw [List.length_map, List.length_range]
theorem rngD_get {lo : Int} {n i : Nat} {d : D} (h : (rngD lo n)[i]? = some d) : i < n ∧ d = .int (lo + i) := by
  unfold rngD at h
  rw [List.getElem?_map] at h
  by_cases hi : i < n
  · rw [List.getElem?_range hi] at h; cases h; exact ⟨hi, rfl⟩
  · rw [List.getElem?_eq_none (by rw [List.length_range]; omega)] at h; cases h
theorem steps_rng {lo : Int} {n : Nat} {B : Hp} : Steps T (Itr lo n) (rngD lo n) B where
  go := fun i H hi e => by rw [rngD_len] at hi; exact hi
  stop := fun H e => by rw [rngD_len]; exact Nat.le_refl _
  yld := fun i d H x H' B1 hd e1 e2 hy => by
    obtain ⟨rfl, rfl⟩ := hy
    obtain ⟨_, rfl⟩ := rngD_get hd
    exact ⟨B1, .refl e2, rfl⟩
def sgnD (x : Str) : List D := x.cps.toList.map fun c => D.str ⟨#[c]⟩
def enumD : Nat → List D → List D
  | _, [] => []
  | i, d :: ds => .tup [.int (i : Nat), d] :: enumD (i + 1) ds
def zipD : List D → List D → List D
  | x :: xs, y :: ys => .tup [x, y] :: zipD xs ys
  | _, _ => []
theorem zipD_len : ∀ xs ys : List D, (zipD xs ys).length = min xs.length ys.length
  | [], ys => by simp [zipD]
  | x :: xs, [] => by simp [zipD]
  | x :: xs, y :: ys => by show (zipD xs ys).length + 1 = _; rw [zipD_len xs ys]; simp only [List.length_cons]; omega
theorem zipD_get : ∀ {i : Nat} {xs ys : List D} {d : D}, (zipD xs ys)[i]? = some d → ∃ x y, xs[i]? = some x ∧ ys[i]? = some y ∧ d = .tup [x, y]
  | i, [], ys, d, h => by simp [zipD] at h
  | i, x :: xs, [], d, h => by simp [zipD] at h
  | 0, x :: xs, y :: ys, d, h => by have h : some (D.tup [x, y]) = some d := h; cases h; exact ⟨x, y, rfl, rfl, rfl⟩
  | i + 1, x :: xs, y :: ys, d, h => by
    obtain ⟨a, b, h1, h2, h3⟩ := zipD_get (i := i) (xs := xs) (ys := ys) (d := d) h
    exact ⟨a, b, h1, h2, h3⟩
def iLst (fa : M D) : M (List D) := bnd fa fun x => opt (match x with | .lst xs => some xs | _ => none)
def iTupl (fa : M D) : M (List D) := bnd fa fun x => opt (match x with | .tup xs => some xs | _ => none)
def iSeq (fa : M D) : M (List D) := bnd fa fun x => opt (match x with | .lst xs => some xs | .tup xs => some xs | _ => none)
def iText (fa : M D) : M (List D) := bnd fa fun x => opt (match x with | .str x => some (sgnD x) | _ => none)
def smallI (i : Int) : Bool := decide (i.natAbs < 4611686018427387904)
theorem small_b {i : Int} (h : smallI i = true) : -(2 ^ 62) ≤ i ∧ i < 2 ^ 62 := by
  have := of_decide_eq_true h
  constructor <;> omega
def iR1 (fa : M (List D)) : M (List D) := bnd fa fun xs => opt (match xs with | [.int j] => if smallI j then some (rngD 0 j.toNat) else none | _ => none)
def iR2 (fa : M (List D)) : M (List D) := bnd fa fun xs => opt (match xs with | [.int i, .int j] => if smallI i && smallI j then some (rngD i (j - i).toNat) else none | _ => none)
def iEn (fa : M (List D)) : M (List D) := bnd fa fun xs => opt (match xs with | [.lst xs] => some (enumD 0 xs) | _ => none)
def iZp (fa : M (List D)) : M (List D) := bnd fa fun xs => opt (match xs with | [.lst xs, .lst ys] => some (zipD xs ys) | _ => none)
variable {te : TE} {ta : TA} {fa : M D} {fs : M (List D)}
theorem semI_lst (h : SemE T E te fa) : SemI T E (iList T.K te) (iLst fa) := by
  intro st σ B F H S o s hf R hR
  refine okx_bnd hf hR (fun o1 s1 e1 q => h st σ B F H S o1 s1 e1 _ q) fun a s1 B1 H1 _ h2 e1 S1 hR1 v hv => ?_
  obtain ⟨z, hz, rfl, rfl⟩ := opt_some h2
  split at hz
  · cases hz
    unfold Rep at hv
    obtain ⟨p, us, rfl, t, r⟩ := hv
    exact ⟨p, rfl, ⟨us, S1.exB.sqL t⟩, hR1 B1 H1 (Ex.refl _) S1 _ (steps_list' t r)⟩
  · cases hz
theorem semI_tup (h : SemE T E te fa) : SemI T E (iTup T.K te) (iTupl fa) := by
  intro st σ B F H S o s hf R hR
  refine okx_bnd hf hR (fun o1 s1 e1 q => h st σ B F H S o1 s1 e1 _ q) fun a s1 B1 H1 _ h2 e1 S1 hR1 v hv => ?_
  obtain ⟨z, hz, rfl, rfl⟩ := opt_some h2
  split at hz
  · cases hz
    unfold Rep at hv
    obtain ⟨p, us, rfl, t, r⟩ := hv
    exact ⟨p, rfl, ⟨us, (S1.exB.tu t).sq⟩, hR1 B1 H1 (Ex.refl _) S1 _ (steps_tup t r)⟩
  · cases hz
theorem semI_seq (h : SemE T E te fa) : SemI T E (fun σ H R => iList T.K te σ H R ∨ iTup T.K te σ H R) (iSeq fa) := by
  intro st σ B F H S o s hf R hR
  have hf' := hf
  rcases bnd_some hf with ⟨c, e1, rfl⟩ | ⟨x, s1, e1, h2⟩
  · exact .inl (semI_lst h st σ B F H S (.x c) s (show bnd fa _ st = _ by unfold bnd; rw [e1]) R hR)
  · obtain ⟨z, hz, rfl, rfl⟩ := opt_some h2
    split at hz
    · rename_i xs
      cases hz
      exact .inl (semI_lst h st σ B F H S (.v _) s (show bnd fa _ st = _ by unfold bnd; rw [e1]; rfl) R hR)
    · rename_i xs
      cases hz
      exact .inr (semI_tup h st σ B F H S (.v _) s (show bnd fa _ st = _ by unfold bnd; rw [e1]; rfl) R hR)
    · cases hz
theorem semI_r1 (h : SemA T E ta fs) : SemI T E (iRng1 ta) (iR1 fs) := by
  intro st σ B F H S o s hf R hR
  refine okx_bnd hf hR (fun o1 s1 e1 q => h st σ B F H S o1 s1 e1 _ q) fun a s1 B1 H1 _ h2 e1 S1 hR1 v hv => ?_
  obtain ⟨z, hz, rfl, rfl⟩ := opt_some h2
  split at hz
  · split at hz
    · rename_i hl
      cases hz
      obtain ⟨u, rfl, r⟩ := reps1 hv
      cases rep_int r
      have hl' := small_b hl
      exact ⟨_, rfl, hl'.1, hl'.2, hR1 B1 H1 (Ex.refl _) S1 _ steps_rng⟩
    · cases hz
  · cases hz
def addF (F H : Hp) (a : Addr) : Hp := fun b => if b = a then H a else F b
theorem Sim.hide {r : R} {a : Addr} (S : Sim T (some r :: st) (some (.ref a) :: σ) B F H) (ho : Ow H r (.ref a) a) : Sim T st σ B (addF F H a) H := by
  have P := S.pop
  obtain ⟨ba, fa⟩ := S.own 0 r _ a rfl rfl ho
  refine ⟨P.exB, fun b o h => ?_, fun b o h => ?_, P.tup, P.len, P.rel, fun i q u b h1 h2 h3 => ?_, P.sep, ⟨fun b o h => ?_, P.tbs.tab⟩⟩
  · unfold addF at h
    split at h
    · rename_i e; subst e; exact h
    · exact S.exF b o h
  · unfold addF at h
    split at h
    · rename_i e; subst e; exact ba
    · exact S.dis b o h
  · obtain ⟨z1, z2⟩ := P.own i q u b h1 h2 h3
    refine ⟨z1, ?_⟩
    unfold addF
    split
    · rename_i e; subst e
      exact (S.sep 0 (i + 1) r q _ u b (by omega) rfl rfl (by simpa using h1) (by simpa using h2) ho h3).elim
    · exact z2
  · unfold addF at h
    split at h
    · rename_i e; subst e; exact S.top.ntb ho o h
    · exact P.tbs.noF b o h
theorem Sim.unhide {r : R} {a : Addr} {st' : Sl} {σ' : St} (S : Sim T (some r :: st) (some (.ref a) :: σ) B F H) (ho : Ow H r (.ref a) a) (e : Ex B B') (S' : Sim T st' σ' B' (addF F H a) H') (only : ∀ b, Ow H r (.ref a) b → b = a := by intro b h; exact (V.ref.inj h).symm) : Sim T (some r :: st') (some (.ref a) :: σ') B' F H' := by
  obtain ⟨ba, fa⟩ := S.own 0 r _ a rfl rfl ho
  obtain ⟨⟨oh, hh⟩, nt⟩ := S.top.ow ho
  have same : H' a = H a := by
    rw [hh]
    exact S'.exF a oh (by unfold addF; rw [if_pos rfl]; exact hh)
  have fh : addF F H a a = some oh := by unfold addF; rw [if_pos rfl]; exact hh
  have tk : Tk H H' := fun b xs h => S'.exB b _ (e b _ (S.tup b xs h))
  have bk : ∀ b, Ow H' r (.ref a) b → Ow H r (.ref a) b := fun b h => Ow.back tk S.top (fun p o g1 g2 => by rw [only p g1] at g2 ⊢; rw [same]; exact g2) h
  have fr : ∀ b, addF F H a b = none → F b = none := fun b h => by
    unfold addF at h
    split at h
    · rename_i z; subst z; rw [hh] at h; cases h
    · exact h
  refine ⟨S'.exB, fun b o h => S'.exF b o ?_, fun b o h => S'.dis b o ?_, S'.tup, by simp [S'.len], fun i q h => ?_, fun i q u b h1 h2 h3 => ?_, fun i j q p u w b n h1 h2 h3 h4 h5 h6 => ?_, ⟨S.tbs.noF, S'.tbs.tab⟩⟩
  · unfold addF; rw [if_neg (by rintro rfl; rw [fa] at h; cases h)]; exact h
  · unfold addF; rw [if_neg (by rintro rfl; rw [fa] at h; cases h)]; exact h
  · cases i with
    | zero =>
      cases h
      exact ⟨_, rfl, S.top.keep e tk fun b o ob z => by rw [only b ob] at z ⊢; rw [same]; exact z⟩
    | succ i => obtain ⟨u, a, b⟩ := S'.rel i q (by simpa using h); exact ⟨u, by simpa using a, b⟩
  · cases i with
    | zero =>
      cases h1; cases h2
      rw [only b (bk b h3)]
      exact ⟨S'.dis a oh fh, fa⟩
    | succ i =>
      obtain ⟨z1, z2⟩ := S'.own i q u b (by simpa using h1) (by simpa using h2) h3
      exact ⟨z1, fr b z2⟩
  · have cross : ∀ {j : Nat} {q : R} {u : V}, st'[j]? = some (some q) → σ'[j]? = some (some u) → Ow H' r (.ref a) b → Ow H' q u b → False := fun {j q u} g1 g2 g3 g4 => by
      rw [only b (bk b g3)] at g4
      have := (S'.own j q u a g1 g2 g4).2
      rw [fh] at this; cases this
    cases i with
    | zero =>
      cases h1; cases h2
      cases j with
      | zero => exact n rfl
      | succ j => exact cross (by simpa using h3) (by simpa using h4) h5 h6
    | succ i =>
      cases j with
      | zero => cases h3; cases h4; exact cross (by simpa using h1) (by simpa using h2) h6 h5
      | succ j => exact S'.sep i j q p u w b (by omega) (by simpa using h1) (by simpa using h2) (by simpa using h3) (by simpa using h4) h5 h6
def wipeS (st : Sl) : List Nat → Sl
  | [] => st
  | v :: vs => (wipeS st vs).set v none
def isOwned : Option R → Bool
  | some (.d _) => false
  | none => false
  | _ => true
def backS (st0 st : Sl) : List Nat → Sl
  | [] => st
  | v :: vs => (backS st0 st vs).set v (st0.getD v none)
theorem wipeS_length (st : Sl) : ∀ vs, (wipeS st vs).length = st.length
  | [] => rfl
  | v :: vs => by unfold wipeS; rw [List.length_set, wipeS_length st vs]
theorem backS_length (st0 st : Sl) : ∀ vs, (backS st0 st vs).length = st.length
  | [] => rfl
  | v :: vs => by unfold backS; rw [List.length_set, backS_length st0 st vs]
theorem wipeS_some {st : Sl} {i : Nat} {x : R} : ∀ {vs : List Nat}, (wipeS st vs)[i]? = some (some x) → st[i]? = some (some x) ∧ i ∉ vs
  | [], h => ⟨h, by simp⟩
  | v :: vs, h => by
    unfold wipeS at h
    rw [List.getElem?_set] at h
    split at h
    · split at h <;> cases h
    · rename_i ne
      obtain ⟨h1, h2⟩ := wipeS_some h
      exact ⟨h1, by simp only [List.mem_cons, not_or]; exact ⟨fun e => ne e.symm, h2⟩⟩
theorem wipe_other {σ : St} {i : Nat} : ∀ {vs : List Nat}, i ∉ vs → (wipe σ vs)[i]? = σ[i]?
  | [], _ => rfl
  | v :: vs, h => by
    simp only [List.mem_cons, not_or] at h
    unfold wipe
    rw [List.getElem?_set_ne (fun e => h.1 e.symm)]
    exact wipe_other h.2
theorem backS_at {st0 st : Sl} {i : Nat} {x : R} : ∀ {vs : List Nat}, (backS st0 st vs)[i]? = some (some x) → (i ∈ vs ∧ st0[i]? = some (some x)) ∨ (i ∉ vs ∧ st[i]? = some (some x))
  | [], h => .inr ⟨by simp, h⟩
  | v :: vs, h => by
    unfold backS at h
    rw [List.getElem?_set] at h
    split at h
    · rename_i e; subst e
      split at h
      · refine .inl ⟨List.mem_cons_self, ?_⟩
        have h : st0.getD v none = some x := Option.some.inj h
        rw [List.getD_eq_getElem?_getD] at h
        cases q : st0[v]? with
        | none => rw [q] at h; cases h
        | some y => rw [q] at h; exact congrArg some h
      · cases h
    · rename_i ne
      rcases backS_at h with ⟨h1, h2⟩ | ⟨h1, h2⟩
      · exact .inl ⟨List.mem_cons_of_mem _ h1, h2⟩
      · exact .inr ⟨by simp only [List.mem_cons, not_or]; exact ⟨fun e => ne e.symm, h1⟩, h2⟩
theorem Sim.wipe (S : Sim T st σ B F H) (vs : List Nat) : Sim T (wipeS st vs) (L2.wipe σ vs) B F H := by
  refine ⟨S.exB, S.exF, S.dis, S.tup, by rw [wipeS_length, wipe_length]; exact S.len, fun i r h => ?_, fun i r v a h1 h2 h3 => ?_, fun i j r q v u a n h1 h2 h3 h4 h5 h6 => ?_, S.tbs⟩
  · obtain ⟨h1, h2⟩ := wipeS_some h
    obtain ⟨v, a, b⟩ := S.rel i r h1
    exact ⟨v, by rw [wipe_other h2]; exact a, b⟩
  · obtain ⟨g1, g2⟩ := wipeS_some h1
    rw [wipe_other g2] at h2
    exact S.own i r v a g1 h2 h3
  · obtain ⟨g1, g2⟩ := wipeS_some h1
    obtain ⟨g3, g4⟩ := wipeS_some h3
    rw [wipe_other g2] at h2
    rw [wipe_other g4] at h4
    exact S.sep i j r q v u a n g1 h2 g3 h4 h5 h6
def lcL (g : D → Sl → Option Sl) (c : M Bool) (e : M D) (vs : List Nat) : List D → List D → Sl → Option (List D × Sl)
  | [], acc, s => some (acc, s)
  | d :: ds, acc, s => match g d s with
    | none => none
    | some s1 => match c s1 with
      | some (.v true, s2) => (match e s2 with
        | some (.v y, s3) => if acc.length < sizeLine then lcL g c e vs ds (acc ++ [y]) (wipeS s3 vs) else none
        | _ => none)
      | some (.v false, s2) => lcL g c e vs ds acc (wipeS s2 vs)
      | _ => none
def rLc (it : M (List D)) (g : D → Sl → Option Sl) (c : M Bool) (e : M D) (vs : List Nat) : M R := fun st => match it st with
  | some (.v ds, s) => if vs.all (fun i => !isOwned (s.getD i none)) then (match lcL g c e vs ds [] (wipeS s vs) with
      | some (ys, s') => some (.v (.ol ys), backS s s' vs)
      | none => none) else none
  | some (.x c, s) => some (.x c, s)
  | none => none
def cYes : M Bool := ret true
theorem semT_yes : SemT T E tYes cYes := by
  intro st σ B F H S o s h Q hQ
  cases h
  exact hQ B H (Ex.refl B) S
def SemGB (T : Tab) (vs : List Nat) (g : TG) (gf : D → Sl → Option Sl) : Prop := ∀ st σ B F H, Sim T st σ B F H → ∀ d v s, Rep T B d v → gf d st = some s → ∀ Q : St → Hp → Prop, (∀ σ', L2.wipe σ' vs = L2.wipe σ vs → Sim T s σ' B F H → Q σ' H) → g v σ H Q
theorem semR_lc {wi : TI} {it : M (List D)} {g : TG} {gf : D → Sl → Option Sl} {tt : TT} {c : M Bool} {te : TE} {e : M D} {vs : List Nat} (hi : SemI T E wi it) (hg : SemGB T vs g gf) (hc : SemT T (fun _ => E0) tt c) (he : SemE T (fun _ => E0) te e) (idem : ∀ σ : St, L2.wipe (L2.wipe σ vs) vs = L2.wipe σ vs) :
    SemR T E (tLc wi g tt te vs) (rLc it gf c e vs) := by
  intro st σ B F H S o s h Q hQ
  unfold rLc at h
  split at h
  · rename_i ds s0 e0
    split at h
    · rename_i hno
      split at h
      · rename_i ys s' el
        cases h
        refine hi st σ B F H S _ _ e0 _ fun B1 H1 x1 S1 J hJ D hD => ?_
        have Sw := S1.wipe vs
        have SD : Sim T (some (.ol []) :: wipeS s0 vs) (some (.ref D) :: L2.wipe σ vs) B1 F (upd H1 D (.lst [])) := Sw.alloc hD (fun _ z => nomatch z) (relR_ol upd_same reps_nil)
        refine ⟨fun i m H2 => i ≤ ds.length ∧ m = ds.length - i ∧ ∃ acc sI B2, Ex B1 B2 ∧ Sim T (some (.ol acc) :: sI) (some (.ref D) :: L2.wipe σ vs) B2 F H2 ∧ lcL gf c e vs (ds.drop i) acc sI = some (ys, s'), ⟨ds.length, Nat.zero_le _, by omega, [], _, B1, Ex.refl _, SD, el⟩, ?_⟩
        rintro i m H2 ⟨hle, rfl, acc, sI, B2, x2, S2, h2⟩
        by_cases hlt : i < ds.length
        · refine .inr ⟨hJ.go i H2 hlt (x2.trans S2.exB), ?_⟩
          rw [List.drop_eq_getElem_cons hlt] at h2
          have hget : ds[i]? = some ds[i] := List.getElem?_eq_getElem hlt
          generalize ds[i] = d at h2 hget
          unfold lcL at h2
          split at h2
          · cases h2
          · rename_i s3 eg
            refine ⟨fun H' => ∃ m', m' < ds.length - i ∧ (i + 1 ≤ ds.length ∧ m' = ds.length - (i + 1) ∧ ∃ acc sI B2, Ex B1 B2 ∧ Sim T (some (.ol acc) :: sI) (some (.ref D) :: L2.wipe σ vs) B2 F H' ∧ lcL gf c e vs (ds.drop (i + 1)) acc sI = some (ys, s')), fun H' z => z, fun x H3 hy => ?_⟩
            obtain ⟨B3, x3, hx⟩ := hJ.yld i d H2 x H3 B2 hget x2 S2.exB hy
            have S3 := S2.ext x3
            have S3h := S3.hide rfl
            refine hg sI _ B3 _ H3 S3h d x s3 hx eg _ fun σ4 k4 S4 => ⟨by rw [k4, idem], ?_⟩
            split at h2
            · rename_i s5 ec
              refine hc s3 σ4 B3 _ H3 S4 _ _ ec _ fun B5 H5 x5 S5 => ?_
              show if true = true then _ else _
              rw [if_pos rfl]
              split at h2
              · rename_i y s6 ee
                split at h2
                · rename_i hsz
                  refine he s5 σ4 B5 _ H5 S5 _ _ ee _ fun B6 H6 x6 S6 v hv => ?_
                  have SU := S3.unhide rfl (x5.trans x6) S6
                  obtain ⟨p, ws, ep, hp, hr⟩ := SU.top
                  cases ep
                  refine ⟨ws, hp, by rw [← hr.length]; exact hsz, _, by omega, hlt, rfl, acc ++ [y], wipeS s6 vs, B6, x2.trans (x3.b.trans (x5.trans x6)), ?_, h2⟩
                  have SC := SU.change (i := 0) (r' := .ol (acc ++ [y])) (o := .lst (ws ++ [v])) rfl rfl rfl (fun _ z => nomatch z) ⟨_, _, rfl, upd_same, hr.append (reps_cons hv reps_nil)⟩
                  have SC' : Sim T (some (.ol (acc ++ [y])) :: s6) (some (.ref D) :: σ4) B6 F (upd H6 D (.lst (ws ++ [v]))) := SC
                  have SW := (SC'.hide rfl).wipe vs
                  rw [k4, idem] at SW
                  exact SC'.unhide rfl (Ex.refl _) SW
                · cases h2
              · cases h2
            · rename_i s5 ec
              refine hc s3 σ4 B3 _ H3 S4 _ _ ec _ fun B5 H5 x5 S5 => ?_
              show if false = true then _ else _
              rw [if_neg Bool.false_ne_true]
              refine ⟨_, by omega, hlt, rfl, acc, wipeS s5 vs, B5, x2.trans (x3.b.trans x5), ?_, h2⟩
              have SW := S5.wipe vs
              rw [k4, idem] at SW
              exact S3.unhide rfl x5 SW
            · cases h2
        · have ei : i = ds.length := by omega
          subst ei
          refine .inl ⟨hJ.stop H2 (x2.trans S2.exB), ?_⟩
          rw [List.drop_length] at h2
          cases h2
          refine hQ _ B2 H2 (x1.trans x2) ?_
          have no : ∀ i ∈ vs, isOwned (s0.getD i none) = false := fun i hm => by
            have := List.all_eq_true.mp hno i hm
            simpa using this
          -- the list hidden, the names as they were, the list shown
          have Sh := S2.hide rfl
          have Sh0 : Sim T s' (L2.wipe σ vs) B2 (addF F H2 D) H2 := Sh
          have key : Sim T (backS s0 s' vs) σ B2 (addF F H2 D) H2 := by
            have dd : ∀ {i : Nat} {r : R}, i ∈ vs → s0[i]? = some (some r) → ∃ x, r = .d x := fun {i r} h1 h2 => by
              have := no i h1
              rw [List.getD_eq_getElem?_getD, h2] at this
              cases r with
              | d x => exact ⟨x, rfl⟩
              | _ => cases this
            refine ⟨Sh0.exB, Sh0.exF, Sh0.dis, Sh0.tup, by rw [backS_length]; have := Sh0.len; rwa [wipe_length] at this, fun i r h => ?_, fun i r v a h1 h2 h3 => ?_, fun i j r q v u a n h1 h2 h3 h4 h5 h6 => ?_, Sh0.tbs⟩
            · rcases backS_at h with ⟨h1, h2⟩ | ⟨h1, h2⟩
              · obtain ⟨x, rfl⟩ := dd h1 h2
                obtain ⟨v, a, b⟩ := S1.rel i _ h2
                exact ⟨v, a, Rep.mono x2 x b⟩
              · obtain ⟨v, a, b⟩ := Sh0.rel i r h2
                exact ⟨v, by rw [← wipe_other h1]; exact a, b⟩
            · rcases backS_at h1 with ⟨g1, g2⟩ | ⟨g1, g2⟩
              · obtain ⟨x, rfl⟩ := dd g1 g2; exact h3.elim
              · exact Sh0.own i r v a g2 (by rw [wipe_other g1]; exact h2) h3
            · rcases backS_at h1 with ⟨g1, g2⟩ | ⟨g1, g2⟩
              · obtain ⟨x, rfl⟩ := dd g1 g2; exact h5.elim
              · rcases backS_at h3 with ⟨g3, g4⟩ | ⟨g3, g4⟩
                · obtain ⟨x, rfl⟩ := dd g3 g4; exact h6.elim
                · exact Sh0.sep i j r q v u a n g2 (by rw [wipe_other g1]; exact h2) g4 (by rw [wipe_other g3]; exact h4) h5 h6
          exact S2.unhide rfl (Ex.refl _) key
      · cases h
    · cases h
  · rename_i c s0 e0
    cases h
    exact hi st σ B F H S _ _ e0 _ fun d B1 H1 x1 S1 => hQ d B1 H1 x1 S1
  · cases h
theorem semGB_name {vs : List Nat} {i : Nat} (hw : ∀ (σ : St) x, L2.wipe (σ.set i (some x)) vs = L2.wipe σ vs) : SemGB T vs (gName i) (gN i) := by
  intro st σ B F H S d v s r h Q q
  cases h
  exact q _ (hw σ v) (Sim.store (S.push r) i)
end
end Fz
set_option Elab.async false
set_option linter.all false
set_option maxRecDepth 100000
set_option maxHeartbeats 2000000
namespace Fz
open PySem L2
section
variable {ι : Type} (T : Tab) (E : L2.St → XK) (X : ι → Cx)
def XE (e : Expr) (f : M D) : Prop := ∃ te, (∀ i, PE (X i) e te) ∧ SemE T E te f
def XR (e : Expr) (f : M R) : Prop := ∃ te, (∀ i, PE (X i) e te) ∧ SemR T E te f
def XT (e : Expr) (f : M Bool) : Prop := ∃ te, (∀ i, PT (X i) e te) ∧ SemT T E te f
def XW (e : Expr) (f : M Bool) : Prop := ∃ te, (∀ i, PW (X i) e te) ∧ SemT T E te f
def XA (es : List Expr) (f : M (List D)) : Prop := ∃ te, (∀ i, PA (X i) es te) ∧ SemA T E te f
def XAA (es : List Expr) (f : M (List Arg)) : Prop := ∃ te, (∀ i, PA (X i) es te) ∧ SemAA T E te f
def XI (tg e : Expr) (f : M (List D)) : Prop := ∃ wi, (∀ i, PI (X i) tg e wi) ∧ SemI T E wi f
def XG (kp : Nat → Bool) (tg : Expr) (f : D → Sl → Option Sl) : Prop := ∃ g, (∀ i, PG (X i) tg g) ∧ SemG T kp g f
def XGs (kp : Nat → Bool) (tgs : List Expr) (f : List D → Sl → Option Sl) : Prop := ∃ g, (∀ i, PGs (X i) tgs g) ∧ SemGs T kp g f
def XS (kp : Nat → Bool) (st : Stmt) (f : MS) : Prop := ∃ t, (∀ i, PS (X i) st t) ∧ SemS T E kp t f
def XSs (kp : Nat → Bool) (st : List Stmt) (f : MS) : Prop := ∃ t, (∀ i, PSs (X i) st t) ∧ SemS T E kp t f
end
section
variable {ι : Type} {T : Tab} {E : L2.St → XK} {X : ι → Cx} {kp : Nat → Bool} {pos : Pos} {e a b c : Expr} {es : List Expr} {fa fb fc : M D} {fs : M (List D)} {fl : M (List Arg)} {r : M R} {x : Str}
theorem xe_var (i : Nat) (hN : ∀ j, (X j).N[i]? = some x := by intro j; rfl) (hv : ∀ j, Vis (X j).env.scope x := by intro j; first | exact Or.inl rfl | exact Or.inr (Or.inl rfl) | exact Or.inr (Or.inr rfl))
    (hd : (x == ("__debug__" : Str)) = false := by decide +kernel) (hcd : (x == ("__classdict__" : Str)) = false := by decide +kernel) : XE T E X (.Name x pos) (eVar i) := ⟨_, fun j => pe_var (hN j) (hv j) hd hcd, semE_var⟩
theorem xr_mv (i : Nat) (hN : ∀ j, (X j).N[i]? = some x := by intro j; rfl) (hv : ∀ j, Vis (X j).env.scope x := by intro j; first | exact Or.inl rfl | exact Or.inr (Or.inl rfl) | exact Or.inr (Or.inr rfl))
    (hd : (x == ("__debug__" : Str)) = false := by decide +kernel) (hcd : (x == ("__classdict__" : Str)) = false := by decide +kernel) : XR T E X (.Name x pos) (rMv i) := ⟨_, fun j => pe_var (hN j) (hv j) hd hcd, semR_mv⟩
theorem xe_int {i : Int} {j : Nat} : XE T E X (.Constant (.int i) j pos) (ret (.int i)) := ⟨_, fun _ => pe_int, semE_c fun _ => rfl⟩
theorem xe_bl {b : Bool} {j : Nat} : XE T E X (.Constant (.bool b) j pos) (ret (.bl b)) := ⟨_, fun _ => pe_bl, semE_c fun _ => rfl⟩
theorem xe_str {s : Str} {j : Nat} (h : PyData.strOk s = true := by decide +kernel) : XE T E X (.Constant (.str s) j pos) (ret (.str s)) := ⟨_, fun _ => pe_str, semE_c fun _ => ⟨rfl, h⟩⟩
theorem xe_fz (h : XR T E X e r) : XE T E X e (eFz (fun c => (T.flds c).length) r) := let ⟨_, h1, h2⟩ := h; ⟨_, h1, semE_fz h2⟩
theorem xr_d (h : XE T E X e fa) : XR T E X e (rD fa) := let ⟨_, h1, h2⟩ := h; ⟨_, h1, semR_d h2⟩
theorem xr_full (h : XR T E X e r) : XR T E X e (rFull (fun c => (T.flds c).length) r) := let ⟨_, h1, h2⟩ := h; ⟨_, h1, semR_all h2⟩
theorem xe_bin {op : Operator} {rr : R2} {g : D → D → Option D} (ho : ∀ j, OpR (X j) (binaryOp op) rr) (hp : Prim2 T rr g) (ha : XE T E X a fa) (hb : XE T E X b fb) : XE T E X (.BinOp a op b pos) (eBin g fa fb) :=
  let ⟨_, a1, a2⟩ := ha; let ⟨_, b1, b2⟩ := hb; ⟨_, fun j => pe_op (ho j) (a1 j) (b1 j), semE_op hp a2 b2⟩
theorem xe_add (hK : ∀ j, (X j).K = T.K := by intro j; rfl) (ha : XE T E X a fa) (hb : XE T E X b fb) : XE T E X (.BinOp a .Add b pos) (eBin dAdd fa fb) := xe_bin (fun j => by rw [← hK j]; exact op_addA) p_add ha hb
theorem xe_mul (ha : XE T E X a fa) (hb : XE T E X b fb) : XE T E X (.BinOp a .Mult b pos) (eBin dMul fa fb) := xe_bin (fun j => op_mul) p_mul ha hb
theorem xe_mod (ha : XE T E X a fa) (hb : XE T E X b fb) : XE T E X (.BinOp a .Mod b pos) (eBin dMod fa fb) := xe_bin (fun j => op_mod) p_mod ha hb
theorem xe_cmp {op : CmpOp} {rr : R2} {g : D → D → Option D} (ho : ∀ j, OpR (X j) (compareOp op) rr) (hp : Prim2 T rr g) (hm : behindInMarks op b = false) (ha : XE T E X a fa) (hb : XE T E X b fb) : XE T E X (.Compare a [op] [b] pos) (eBin g fa fb) :=
  let ⟨_, a1, a2⟩ := ha; let ⟨_, b1, b2⟩ := hb; ⟨_, fun j => pe_cmpR (ho j) (a1 j) (b1 j) hm, semE_op hp a2 b2⟩
def Rm (X : ι → Cx) : Prop := ∀ j, (X j).A.units + 65 < cLine
theorem xe_eq (hu : Rm X) (hK : ∀ j, (X j).K = T.K := by intro j; rfl) (ha : XE T E X a fa) (hb : XE T E X b fb) : XE T E X (.Compare a [.Eq] [b] pos) (eBin dEq fa fb) := xe_cmp (fun j => by rw [← hK j]; exact op_eqD (by have := hu j; omega)) p_eq (nomark _) ha hb
def eTst (f : M D) : M Bool := bnd f fun x => opt (match x with | .bl b => some b | _ => none)
theorem semT_tst {te : TE} (h : SemE T E te fa) : SemT T E (tTest te) (eTst fa) := by
  intro st σ B F H S o s hf Q hQ
  refine okx_bnd hf hQ (fun o1 s1 e1 q => h st σ B F H S o1 s1 e1 _ q) fun a s1 B1 H1 _ h2 e1 S1 hQ1 v hv => ?_
  obtain ⟨z, hz, rfl, rfl⟩ := opt_some h2
  split at hz
  · cases hz; cases rep_bl hv
    exact ⟨_, rfl, hQ1 B1 H1 (Ex.refl _) S1⟩
  · cases hz
theorem xt_cmp {op : CmpOp} {rr : R2} {g : D → D → Option D} (ho : ∀ j, OpR (X j) (compareOp op) rr) (hp : Prim2 T rr g) (hm : behindInMarks op b = false) (ha : XE T E X a fa) (hb : XE T E X b fb) : XT T E X (.Compare a [op] [b] pos) (eTst (eBin g fa fb)) :=
  let ⟨_, a1, a2⟩ := ha; let ⟨_, b1, b2⟩ := hb; ⟨_, fun j => pt_cmpR (ho j) (a1 j) (b1 j) hm, semT_tst (semE_op hp a2 b2)⟩
theorem xt_eq (hu : Rm X) (hK : ∀ j, (X j).K = T.K := by intro j; rfl) (ha : XE T E X a fa) (hb : XE T E X b fb) : XT T E X (.Compare a [.Eq] [b] pos) (eTst (eBin dEq fa fb)) := xt_cmp (fun j => by rw [← hK j]; exact op_eqD (by have := hu j; omega)) p_eq (nomark _) ha hb
theorem xt_ne (hu : Rm X) (hK : ∀ j, (X j).K = T.K := by intro j; rfl) (ha : XE T E X a fa) (hb : XE T E X b fb) : XT T E X (.Compare a [.NotEq] [b] pos) (eTst (eBin dNe fa fb)) := xt_cmp (fun j => by rw [← hK j]; exact op_neD (by have := hu j; omega)) p_ne (nomark _) ha hb
theorem xt_lt (ha : XE T E X a fa) (hb : XE T E X b fb) : XT T E X (.Compare a [.Lt] [b] pos) (eTst (eBin dLt fa fb)) := xt_cmp (fun j => op_ltA) p_lt (nomark _) ha hb
theorem xt_gt (ha : XE T E X a fa) (hb : XE T E X b fb) : XT T E X (.Compare a [.Gt] [b] pos) (eTst (eBin dGt fa fb)) := xt_cmp (fun j => op_gtA) p_gt (nomark _) ha hb
theorem xt_notIn (hu : Rm X) (hK : ∀ j, (X j).K = T.K := by intro j; rfl) (hm : behindInMarks .NotIn b = false := by rfl) (ha : XE T E X a fa) (hb : XE T E X b fb) : XT T E X (.Compare a [.NotIn] [b] pos) (eTst (eBin dNotIn fa fb)) := xt_cmp (fun j => by rw [← hK j]; exact op_notInA (hu j)) p_notIn hm ha hb
theorem xt_val (ha : XE T E X e fa) (he : ∀ j whole, isTrue e (X j).env whole = (do let v ← whole; standAt e.pos; holding [v] (truthy v)) := by intro _ _; rfl) : XT T E X e (eTst fa) :=
  let ⟨_, a1, a2⟩ := ha; ⟨_, fun j => pt_val (a1 j) (he j), semT_tst a2⟩
def eChain (g g' : D → D → Option D) (fa fb fc : M D) : M D := bnd fa fun x => bnd fb fun y => bnd (opt (g x y)) fun z => match z with
  | .bl true => bnd fc fun w => opt (g' y w)
  | .bl false => ret (.bl false)
  | _ => fun _ => none
def cAnd (f g : M Bool) : M Bool := bnd f fun b => if b = true then g else ret false
def cOr (f g : M Bool) : M Bool := bnd f fun b => if b = true then ret true else g
def cNot (f : M Bool) : M Bool := bnd f fun b => ret !b
variable {f g : M Bool} {rest : List Expr}
theorem semT_and {t u : TT} (h1 : SemT T E t f) (h2 : SemT T E u g) : SemT T E (tAnd t u) (cAnd f g) := by
  intro st σ B F H S o s h Q hQ
  refine okx_bnd h hQ (fun o1 s1 e1 q => h1 st σ B F H S o1 s1 e1 _ q) fun b s1 B1 H1 _ h3 e1 S1 hQ1 => ?_
  cases b with
  | true => exact h2 s1 σ B1 F H1 S1 o s h3 Q hQ1
  | false => cases h3; exact hQ1 B1 H1 (Ex.refl _) S1
theorem semT_or {t u : TT} (h1 : SemT T E t f) (h2 : SemT T E u g) : SemT T E (tOr t u) (cOr f g) := by
  intro st σ B F H S o s h Q hQ
  refine okx_bnd h hQ (fun o1 s1 e1 q => h1 st σ B F H S o1 s1 e1 _ q) fun b s1 B1 H1 _ h3 e1 S1 hQ1 => ?_
  cases b with
  | false => exact h2 s1 σ B1 F H1 S1 o s h3 Q hQ1
  | true => cases h3; exact hQ1 B1 H1 (Ex.refl _) S1
theorem semT_not {t : TT} (h1 : SemT T E t f) : SemT T E (tNot t) (cNot f) := by
  intro st σ B F H S o s h Q hQ
  refine okx_bnd h hQ (fun o1 s1 e1 q => h1 st σ B F H S o1 s1 e1 _ q) fun b s1 B1 H1 _ h3 e1 S1 hQ1 => ?_
  cases h3
  exact hQ1 B1 H1 (Ex.refl _) S1
theorem xw_and1 (ha : XT T E X a f) : XW T E X (.BoolOp .And [a] pos) f := let ⟨_, a1, a2⟩ := ha; ⟨_, fun j => pw_and1 (a1 j), a2⟩
theorem xw_or1 (ha : XT T E X a f) : XW T E X (.BoolOp .Or [a] pos) f := let ⟨_, a1, a2⟩ := ha; ⟨_, fun j => pw_or1 (a1 j), a2⟩
theorem xw_and (ha : XT T E X a f) (hb : XW T E X (.BoolOp .And (b :: rest) pos) g) : XW T E X (.BoolOp .And (a :: b :: rest) pos) (cAnd f g) := let ⟨_, a1, a2⟩ := ha; let ⟨_, b1, b2⟩ := hb; ⟨_, fun j => pw_and (a1 j) (b1 j), semT_and a2 b2⟩
theorem xw_or (ha : XT T E X a f) (hb : XW T E X (.BoolOp .Or (b :: rest) pos) g) : XW T E X (.BoolOp .Or (a :: b :: rest) pos) (cOr f g) := let ⟨_, a1, a2⟩ := ha; let ⟨_, b1, b2⟩ := hb; ⟨_, fun j => pw_or (a1 j) (b1 j), semT_or a2 b2⟩
theorem xt_w (h : XW T E X e f) : XT T E X e f := let ⟨_, a1, a2⟩ := h; ⟨_, fun j => (a1 j).pt, a2⟩
theorem xt_not (ha : XT T E X a f) : XT T E X (.UnaryOp .Not a pos) (cNot f) := let ⟨_, a1, a2⟩ := ha; ⟨_, fun j => pt_not (a1 j), semT_not a2⟩
def eAnd (fa fb : M D) : M D := bnd fa fun x => match x with
  | .bl true => fb
  | .bl false => ret (.bl false)
  | _ => fun _ => none
def eOr (fa fb : M D) : M D := bnd fa fun x => match x with
  | .bl false => fb
  | .bl true => ret (.bl true)
  | _ => fun _ => none
def eNot (fa : M D) : M D := bnd fa fun x => opt (match x with | .bl b => some (.bl !b) | _ => none)
theorem semE_and {ta tb : TE} (ha : SemE T E ta fa) (hb : SemE T E tb fb) : SemE T E (tAndV ta tb) (eAnd fa fb) := by
  intro st σ B F H S o s h Q hQ
  refine okx_bnd h hQ (fun o1 s1 e1 q => ha st σ B F H S o1 s1 e1 _ q) fun a s1 B1 H1 _ h2 e1 S1 hQ1 v hv => ?_
  split at h2
  · cases rep_bl hv
    refine ⟨true, rfl, ?_⟩
    rw [if_pos rfl]
    exact hb s1 σ B1 F H1 S1 o s h2 Q hQ1
  · cases rep_bl hv
    refine ⟨false, rfl, ?_⟩
    rw [if_neg Bool.false_ne_true]
    cases h2
    exact hQ1 B1 H1 (Ex.refl _) S1 _ rfl
  · cases h2
theorem xe_one {op : BoolOp} (ha : XE T E X a fa) : XE T E X (.BoolOp op [a] pos) fa := let ⟨_, a1, a2⟩ := ha; ⟨_, fun j => pe_one (a1 j), a2⟩
theorem xe_and (ha : XE T E X a fa) (hb : XE T E X (.BoolOp .And (b :: rest) pos) fb) : XE T E X (.BoolOp .And (a :: b :: rest) pos) (eAnd fa fb) := let ⟨_, a1, a2⟩ := ha; let ⟨_, b1, b2⟩ := hb; ⟨_, fun j => pe_and (a1 j) (b1 j), semE_and a2 b2⟩
def rIf (c : M Bool) (p q : M R) : M R := bnd c fun b => if b = true then p else q
def eIf (c : M Bool) (p q : M D) : M D := bnd c fun b => if b = true then p else q
theorem xa_nil : XA T E X [] eNil := ⟨_, fun _ => pa_nil, semA_nil⟩
theorem xa_cons (ha : XE T E X e fa) (hr : XA T E X es fs) (hs : ∀ j, starEach (e :: es) (X j).env = (false, eval e (X j).env) :: starEach es (X j).env := by intro j; rfl) : XA T E X (e :: es) (eCons fa fs) := let ⟨_, a1, a2⟩ := ha; let ⟨_, b1, b2⟩ := hr; ⟨_, fun j => pa_cons (a1 j) (b1 j) (hs j), semA_cons a2 b2⟩
theorem xaa_nil : XAA T E X [] aNil := ⟨_, fun _ => pa_nil, semAA_nil⟩
theorem xaa_v (ha : XE T E X e fa) (hr : XAA T E X es fl) (hs : ∀ j, starEach (e :: es) (X j).env = (false, eval e (X j).env) :: starEach es (X j).env := by intro j; rfl) : XAA T E X (e :: es) (aV fa fl) := let ⟨_, a1, a2⟩ := ha; let ⟨_, b1, b2⟩ := hr; ⟨_, fun j => pa_cons (a1 j) (b1 j) (hs j), semAA_v a2 b2⟩
theorem xaa_o (i : Nat) (hr : XAA T E X es fl) (hN : ∀ j, (X j).N[i]? = some x := by intro j; rfl) (hv : ∀ j, Vis (X j).env.scope x := by intro j; first | exact Or.inl rfl | exact Or.inr (Or.inl rfl) | exact Or.inr (Or.inr rfl))
    (hd : (x == ("__debug__" : Str)) = false := by decide +kernel) (hcd : (x == ("__classdict__" : Str)) = false := by decide +kernel) (hs : ∀ j, starEach (.Name x pos :: es) (X j).env = (false, eval (.Name x pos) (X j).env) :: starEach es (X j).env := by intro j; rfl) : XAA T E X (.Name x pos :: es) (aO i fl) :=
  let ⟨_, b1, b2⟩ := hr; ⟨_, fun j => pa_cons (pe_var (hN j) (hv j) hd hcd) (b1 j) (hs j), semAA_o b2⟩
theorem xe_tup {k : Nat} (h : XA T E X es fs) : XE T E X (.Tuple es k pos) (eTup fs) := let ⟨_, a1, a2⟩ := h; ⟨_, fun j => pe_tup (a1 j), semE_tup a2⟩
theorem xr_lst (h : XA T E X es fs) : XR T E X (.List es pos) (rLst fs) := let ⟨_, a1, a2⟩ := h; ⟨_, fun j => pe_lst (a1 j), semR_lst a2⟩
theorem xe_ix (hK : ∀ j, (X j).K = T.K := by intro j; rfl) (ha : XE T E X a fa) (hb : XE T E X b fb) (hs : PlainIx b := by exact fun _ _ => rfl) : XE T E X (.Subscript a b pos) (eBin dIx fa fb) :=
  let ⟨_, a1, a2⟩ := ha; let ⟨_, b1, b2⟩ := hb; ⟨_, fun j => pe_ix (by rw [← hK j]; exact ix_seq) (a1 j) (b1 j) hs, semE_op p_ix a2 b2⟩
theorem xe_callB {id : String} {rr : List V → Hp → VK → Prop} {g : List D → Option D} {p : Pos} (hc : ∀ j, CallR (X j) (.builtin id) rr) (hp : PrimN T rr g) (hm : ∀ j, (X j).mg x = none) (hv : bootBuiltins x = some (.builtin id)) (ha : XA T E X (e :: es) fs)
    (hg : ∀ j, Gl (X j) x := by intro j; rfl) (hn : x ≠ "__name__" := by decide +kernel) (hdb : (x == ("__debug__" : Str)) = false := by decide +kernel) (he : ∀ j, starEach (e :: es) (X j).env = (false, eval e (X j).env) :: starEach es (X j).env := by intro j; rfl)
    (hpl : ∀ j, (backTo pos (starEach es (X j).env)).any (·.1) = false := by intro j; rfl) : XE T E X (.Call (.Name x p) (e :: es) [] pos) (eOp g fs) :=
  let ⟨_, a1, a2⟩ := ha; ⟨_, fun j => pe_callB (hc j) (hg j) (hm j) hv (a1 j) hn hdb (he j) (hpl j), semE_callN hp a2⟩
theorem xe_callTy {Ty : String} {rr : List V → Hp → VK → Prop} {g : List D → Option D} {p : Pos} (hc : ∀ j, CallR (X j) (.type Ty) rr) (hp : PrimN T rr g) (hm : ∀ j, (X j).mg x = none) (hv : bootBuiltins x = some (.type Ty)) (ha : XA T E X (e :: es) fs)
    (hg : ∀ j, Gl (X j) x := by intro j; rfl) (hn : x ≠ "__name__" := by decide +kernel) (hdb : (x == ("__debug__" : Str)) = false := by decide +kernel) (he : ∀ j, starEach (e :: es) (X j).env = (false, eval e (X j).env) :: starEach es (X j).env := by intro j; rfl)
    (hpl : ∀ j, (backTo pos (starEach es (X j).env)).any (·.1) = false := by intro j; rfl) : XE T E X (.Call (.Name x p) (e :: es) [] pos) (eOp g fs) :=
  let ⟨_, a1, a2⟩ := ha; ⟨_, fun j => pe_callTy (hc j) (hg j) (hm j) hv (a1 j) hn hdb (he j) (hpl j), semE_callN hp a2⟩
theorem xr_callTy {Ty : String} {rr : List V → Hp → VK → Prop} {g : List D → Option (List D)} {p : Pos} (hc : ∀ j, CallR (X j) (.type Ty) rr) (hp : PrimL T rr g) (hm : ∀ j, (X j).mg x = none) (hv : bootBuiltins x = some (.type Ty)) (ha : XA T E X (e :: es) fs)
    (hg : ∀ j, Gl (X j) x := by intro j; rfl) (hn : x ≠ "__name__" := by decide +kernel) (hdb : (x == ("__debug__" : Str)) = false := by decide +kernel) (he : ∀ j, starEach (e :: es) (X j).env = (false, eval e (X j).env) :: starEach es (X j).env := by intro j; rfl)
    (hpl : ∀ j, (backTo pos (starEach es (X j).env)).any (·.1) = false := by intro j; rfl) : XR T E X (.Call (.Name x p) (e :: es) [] pos) (rOp g fs) :=
  let ⟨_, a1, a2⟩ := ha; ⟨_, fun j => pe_callTy (hc j) (hg j) (hm j) hv (a1 j) hn hdb (he j) (hpl j), semR_callL hp a2⟩
variable {tg : Expr}
theorem xi_lst (hK : ∀ j, (X j).K = T.K := by intro j; rfl) (h : XE T E X e fa) : XI T E X tg e (iLst fa) := let ⟨_, a1, a2⟩ := h; ⟨_, fun j => by rw [← hK j]; exact pi_list (a1 j), semI_lst a2⟩
theorem xi_seq (hK : ∀ j, (X j).K = T.K := by intro j; rfl) (h : XE T E X e fa) : XI T E X tg e (iSeq fa) := by
  obtain ⟨te, a1, a2⟩ := h
  refine ⟨_, fun j => ⟨fun pins s σ H R I h => ?_⟩, semI_seq a2⟩
  rcases h with h | h
  · exact (show PI (X j) tg e (iList T.K te) by rw [← hK j]; exact pi_list (a1 j)).run pins s σ H R I h
  · exact (show PI (X j) tg e (iTup T.K te) by rw [← hK j]; exact pi_tup (a1 j)).run pins s σ H R I h
theorem xi_r1 {p : Pos} (hm : ∀ j, (X j).mg "range" = none) (h : XA T E X [a] fs) (hg : ∀ j, Gl (X j) "range" := by intro j; rfl) (hs : ∀ j, starEach [a] (X j).env = [(false, eval a (X j).env)] := by intro j; rfl) : XI T E X tg (.Call (.Name "range" p) [a] [] pos) (iR1 fs) := let ⟨_, a1, a2⟩ := h; ⟨_, fun j => pi_range1 (hg j) (hm j) (a1 j) (hs j), semI_r1 a2⟩
theorem xg_name (i : Nat) (hk : kp i = false := by rfl) (hN : ∀ j, (X j).N.Nodup) (hi : ∀ j, (X j).N[i]? = some x := by intro j; rfl) (hx : ∀ j, Loc (X j).env.scope x := by intro j; first | exact Or.inl rfl | exact Or.inr rfl) (hf : ∀ j, (X j).fn x = true ∨ (X j).env.scope.names.lookup x = some .local := by intro j; first | exact .inl rfl | exact .inr rfl) : XG T X kp (.Name x pos) (gN i) :=
  ⟨_, fun j => pg_name (hN j) (hi j) (hx j) (hf j), semG_name hk⟩
theorem xgs_nil : XGs T X kp [] gsN := ⟨_, fun _ => pgs_nil, semGs_nil⟩
theorem xgs_cons {f : D → Sl → Option Sl} {g : List D → Sl → Option Sl} (h1 : XG T X kp e f) (h2 : XGs T X kp es g) (hs : ∀ j, (assignEach (e :: es) (X j).env).map (·.2) = assign e (X j).env :: (assignEach es (X j).env).map (·.2) := by intro j; rfl) : XGs T X kp (e :: es) (gsC f g) := let ⟨_, a1, a2⟩ := h1; let ⟨_, b1, b2⟩ := h2; ⟨_, fun j => pgs_cons (a1 j) (b1 j) (hs j), semGs_cons a2 b2⟩
theorem xg_tup {k n : Nat} {g : List D → Sl → Option Sl} (hK : ∀ j, (X j).K = T.K := by intro j; rfl) (hc : ∀ j, (X j).calm = true := by intro j; rfl) (h : XGs T X kp es g) (hn : ∀ j, (assignEach es (X j).env).length = n := by intro j; rfl) (hst : ∀ j, (assignEach es (X j).env).findIdx? (·.1) = none := by intro j; rfl) : XG T X kp (.Tuple es k pos) (gT n g) := let ⟨_, a1, a2⟩ := h; ⟨_, fun j => by rw [← hK j]; exact pg_tup (hc j) (a1 j) (hn j) (hst j), semG_tup a2⟩
end
end Fz
set_option Elab.async false
set_option linter.all false
set_option maxRecDepth 100000
set_option maxHeartbeats 2000000
namespace Fz
open PySem L2
structure MkN (K : PySem.W.Frag) (C : Addr) : Prop where
  makes : PySem.W.makesIn K C = true
  init : PySem.W.findIn K (.ref C) "__init__" = some (some (.builtin "object.__init__"))
  kp : PySem.W.keepIn K (.ref C) = true
section
variable {X : Cx} {CX : CXT} {k : Nat} {f C : Addr} {fd : FuncData} {ps : List Str} {sp : Sp} {dvs : List V} {ds : List Value} {x m : Str} {p pos apos : Pos} {e o : Expr} {es : List Expr} {ta : TE} {t : TA} {pins : List (Addr × Obj)} {σ : L2.St} {H : Hp} {s : Shared} {Q : VK}
variable {E : XK}
end
section
variable {ι : Type} {T : Tab} {E : L2.St → XK} {X : ι → Cx} {kp : Nat → Bool} {pos apos : Pos} {e a b c o : Expr} {es : List Expr} {fa fb fc : M D} {fs : M (List D)} {fl : M (List Arg)} {r : M R} {x m : Str} {st : Sl} {σ : L2.St} {B F H B' H' : Hp}
def rMakeN (c : Nat) : M R := ret (.oi c [])
structure FunAt (Y : Cx) (T : Tab) (E : L2.St → XK) (x : Str) (n : Nat) (F : Fn) (ds : List Value) : Prop where
  ex : ∃ f fd ps CX k, Y.mg x = some (.ref f) ∧ PySem.W.keepIn Y.K (.ref f) = true ∧ Binds Y.K fd ps ds ∧ FnOk Y.prog Y.w Y.K Y.mg Y.base CX k f fd ps (sp T n F) ∧ Room k Y.A ∧ (∀ σ, PassesAt CX Y σ (E σ))
theorem xr_call {n : Nat} {F : Fn} {ds : List Value} {dvs : List V} {dd : List D} {p : Pos} (hf : ∀ j, FunAt (X j) T E x n F ds) (hd : Vals dvs ds) (hD : ∀ B, Reps T B dd dvs) (ha : XAA T E X (e :: es) fl)
    (hg : ∀ j, Gl (X j) x := by intro j; rfl) (hdb : (x == ("__debug__" : Str)) = false := by decide +kernel) (he : ∀ j, starEach (e :: es) (X j).env = (false, eval e (X j).env) :: starEach es (X j).env := by intro j; rfl) (hpl : ∀ j, (backTo pos (starEach es (X j).env)).any (·.1) = false := by intro j; rfl) :
    XR T E X (.Call (.Name x p) (e :: es) [] pos) (rCall n F dd fl) := by
  obtain ⟨t, a1, a2⟩ := ha
  refine ⟨tCallSD (sp T n F) dvs E t, fun j => ?_, semR_call hD a2⟩
  obtain ⟨f, fd, ps, CX, k, h1, h2, h3, h4, h5, h6⟩ := (hf j).ex
  exact pe_callSD h4 h5 (hg j) h1 h2 h3 hd h6 (a1 j) hdb (he j) (hpl j)
structure MethAt (Y : Cx) (T : Tab) (E : L2.St → XK) (c : Nat) (m : Str) (n : Nat) (F : Fn) : Prop where
  ex : ∃ f fd ps CX k, Cls Y.K (T.cls c) ∧ Meth Y.K (T.cls c) m f ∧ Binds Y.K fd ps [] ∧ FnOk Y.prog Y.w Y.K Y.mg Y.base CX k f fd ps (sp T n F) ∧ Room k Y.A ∧ (∀ σ, PassesAt CX Y σ (E σ)) ∧ m ∉ T.flds c
def rMeth (n : Nat) (tab : Nat → Option Fn) (fa : M D) (fl : M (List Arg)) : M R := fun st => match fa st with
  | some (.v (.obj c fs), s1) => (match tab c with
    | some F => (bnd fl fun as => if as.length + 1 = n then callF F (.v (.obj c fs) :: as) else fun _ => none) s1
    | none => none)
  | _ => none
def upA : Arg → Arg
  | .o i => .o (i + 1)
  | .v x => .v x
def rMake (c nf n : Nat) (F : Fn) (fl : M (List Arg)) : M R := bnd fl fun as => fun st => if as.length + 1 = n then (match callF F (.o 0 :: as.map upA) (some (.oi c []) :: st) with
  | some (.v (.d .non), some (.oi c' fs) :: s) => if c' = c ∧ fs.length = nf then some (.v (.oi c fs), s) else none
  | some (.x k, _ :: s) => some (.x k, s)
  | _ => none) else none
structure MakeAt (Y : Cx) (T : Tab) (E : L2.St → XK) (x : Str) (c n : Nat) (F : Fn) : Prop where
  ex : ∃ f fd ps CX k, Y.mg x = some (.ref (T.cls c)) ∧ Mk Y.K (T.cls c) f ∧ Binds Y.K fd ps [] ∧ FnOk Y.prog Y.w Y.K Y.mg Y.base CX k f fd ps (sp T n F) ∧ Room (k + 1) Y.A ∧ (∀ σ, PassesAt CX Y σ (E σ))
structure ClsOk (T : Tab) (c : Nat) : Prop where
  cls : Cls T.K (T.cls c)
  nd : (T.flds c).Nodup
  small : (T.flds c).length ≤ 100
  no : ∀ f ∈ T.flds c, NoAttr T.K (T.cls c) f
def eFld (ix : Nat → Option Nat) (fa : M D) : M D := bnd fa fun x => opt (match x with
  | .obj c fs => (match ix c with
    | some i => fs[i]?
    | none => none)
  | _ => none)
end
end Fz
set_option Elab.async false
set_option linter.all false
set_option maxRecDepth 100000
set_option maxHeartbeats 2000000
namespace Fz
open PySem L2 PySem.Spec PyProof.Rows
section
variable {ι : Type} {T : Tab} {E : L2.St → XK} {X : ι → Cx} {kp : Nat → Bool} {pos apos : Pos} {e a b c o elt tg iter : Expr} {es : List Expr} {fa fb fc : M D} {fs : M (List D)} {fl : M (List Arg)} {r : M R} {x y m : Str}
abbrev Blk (X : ι → Cx) (scope : Scope) : ι × Shared × Hp × Addr × List (Str × Addr) × List Addr → Cx := fun q => (X q.1).blk q.2.1 q.2.2.1 scope (compEnvC scope q.2.2.2.2.1 q.2.2.2.1 (X q.1).env) q.2.2.2.2.2
def XTs {κ : Type} (T : Tab) (E : L2.St → XK) (Y : κ → Cx) (ifs : List Expr) (f : M Bool) : Prop := ∃ te, (∀ i, PTs (Y i) ifs te) ∧ SemT T E te f
def XGB {κ : Type} (T : Tab) (Y : κ → Cx) (vs : List Nat) (tg : Expr) (f : D → Sl → Option Sl) : Prop := ∃ g, (∀ i, PG (Y i) tg g) ∧ SemGB T vs g f
theorem xts_nil {κ : Type} {Y : κ → Cx} : XTs T E Y [] cYes := ⟨_, fun _ => pts_nil, semT_yes⟩
theorem xts_one {κ : Type} {Y : κ → Cx} {f : M Bool} (h : XT T E Y c f) : XTs T E Y [c] f := let ⟨_, a1, a2⟩ := h; ⟨_, fun j => pts_one (a1 j), a2⟩
theorem wipe_set (i : Nat) : ∀ (vs : List Nat) (σ : L2.St) (v : Option V), i ∈ vs → L2.wipe (σ.set i v) vs = L2.wipe σ vs
  | [], _, _, h => by simp at h
  | w :: vs, σ, v, h => by
    unfold L2.wipe
    rcases List.mem_cons.mp h with rfl | h
    · have : ∀ (vs : List Nat) (σ : L2.St), (L2.wipe (σ.set i v) vs).set i none = (L2.wipe σ vs).set i none := by
        intro vs
        induction vs with
        | nil => intro σ; show (σ.set i v).set i none = σ.set i none; rw [List.set_set]
        | cons w vs ih =>
          intro σ
          unfold L2.wipe
          by_cases e : w = i
          · subst e; rw [List.set_set, List.set_set]; exact ih σ
          · rw [List.set_comm _ _ e, ih σ, List.set_comm _ _ (Ne.symm e)]
      exact this vs σ
    · rw [wipe_set i vs σ v h]
theorem wipe_idem : ∀ (vs : List Nat) (σ : L2.St), L2.wipe (L2.wipe σ vs) vs = L2.wipe σ vs := by
  intro vs
  have gen : ∀ (ws vs : List Nat) (σ : L2.St), (∀ i ∈ ws, i ∈ vs) → L2.wipe (L2.wipe σ ws) vs = L2.wipe σ vs := by
    intro ws
    induction ws with
    | nil => intro vs σ _; rfl
    | cons w ws ih =>
      intro vs σ h
      show L2.wipe ((L2.wipe σ ws).set w none) vs = _
      rw [wipe_set w vs _ none (h w List.mem_cons_self), ih vs σ fun i hi => h i (List.mem_cons_of_mem _ hi)]
  exact fun σ => gen vs vs σ fun _ h => h
theorem xgb_name {κ : Type} {Y : κ → Cx} {vs : List Nat} (i : Nat) (hm : i ∈ vs) (hN : ∀ j, (Y j).N.Nodup) (hi : ∀ j, (Y j).N[i]? = some x := by intro j; rfl) (hx : ∀ j, Loc (Y j).env.scope x := by intro j; first | exact Or.inl rfl | exact Or.inr rfl) (hf : ∀ j, (Y j).fn x = true ∨ (Y j).env.scope.names.lookup x = some .local := by intro j; first | exact .inl rfl | exact .inr rfl) : XGB T Y vs (.Name x pos) (gN i) :=
  ⟨_, fun j => pg_name (hN j) (hi j) (hx j) (hf j), semGB_name fun σ v => wipe_set i vs σ (some v) hm⟩
def SemGBs (T : Tab) (vs : List Nat) (g : TGs) (gf : List D → Sl → Option Sl) : Prop := ∀ st σ B F H, Sim T st σ B F H → ∀ ds ws s, Reps T B ds ws → gf ds st = some s → ∀ Q : L2.St → Hp → Prop, (∀ σ', L2.wipe σ' vs = L2.wipe σ vs → Sim T s σ' B F H → Q σ' H) → g ws σ H Q
def XGBs {κ : Type} (T : Tab) (Y : κ → Cx) (vs : List Nat) (tgs : List Expr) (f : List D → Sl → Option Sl) : Prop := ∃ g, (∀ i, PGs (Y i) tgs g) ∧ SemGBs T vs g f
theorem xgbs_nil {κ : Type} {Y : κ → Cx} {vs : List Nat} : XGBs T Y vs [] gsN := ⟨_, fun _ => pgs_nil, fun st σ B F H S ds ws s r h Q q => by
  cases ds with
  | nil =>
    unfold Reps at r
    cases h
    exact ⟨r, q _ rfl S⟩
  | cons d ds => cases h⟩
theorem xgbs_cons {κ : Type} {Y : κ → Cx} {vs : List Nat} {f : D → Sl → Option Sl} {g : List D → Sl → Option Sl} (h1 : XGB T Y vs e f) (h2 : XGBs T Y vs es g) (hs : ∀ j, (assignEach (e :: es) (Y j).env).map (·.2) = assign e (Y j).env :: (assignEach es (Y j).env).map (·.2) := by intro j; rfl) : XGBs T Y vs (e :: es) (gsC f g) := by
  obtain ⟨_, a1, a2⟩ := h1
  obtain ⟨_, b1, b2⟩ := h2
  refine ⟨_, fun j => pgs_cons (a1 j) (b1 j) (hs j), fun st σ B F H S ds ws s r h Q q => ?_⟩
  cases ds with
  | nil => cases h
  | cons d ds =>
    unfold Reps at r
    obtain ⟨v, r', rfl, rd, rr⟩ := r
    have h : (f d st).bind (g ds) = some s := h
    cases e : f d st with
    | none => rw [e] at h; cases h
    | some s1 =>
      rw [e] at h
      exact ⟨v, r', rfl, a2 st σ B F H S d v s1 rd e _ fun σ1 k1 S1 => b2 s1 σ1 B F H S1 ds r' s rr h _ fun σ2 k2 S2 => q σ2 (k2.trans k1) S2⟩
theorem xgb_tup {κ : Type} {Y : κ → Cx} {vs : List Nat} {k n : Nat} {g : List D → Sl → Option Sl} (hK : ∀ j, (Y j).K = T.K := by intro j; rfl) (hc : ∀ j, (Y j).calm = true := by intro j; rfl) (h : XGBs T Y vs es g) (hn : ∀ j, (assignEach es (Y j).env).length = n := by intro j; rfl) (hst : ∀ j, (assignEach es (Y j).env).findIdx? (·.1) = none := by intro j; rfl) : XGB T Y vs (.Tuple es k pos) (gT n g) := by
  obtain ⟨gs, a1, a2⟩ := h
  refine ⟨gTup T.K n gs, fun j => by rw [← hK j]; exact pg_tup (hc j) (a1 j) (hn j) (hst j), fun st σ B F H S d v s r h Q q => ?_⟩
  unfold gT at h
  split at h
  · rename_i ds
    split at h
    · rename_i hl
      unfold Rep at r
      obtain ⟨a, xs, rfl, ht, hr⟩ := r
      exact ⟨a, xs, rfl, (S.exB.tu ht).sq, by rw [← hr.length]; exact hl, a2 st σ B F H S ds xs s hr h Q q⟩
    · cases h
  · cases h
theorem xr_lc {ifs : List Expr} {scope : Scope} {own : List (Str × Nat)} {it : M (List D)} {gf : D → Sl → Option Sl} {f : M Bool} {fe : M D} (hN : ∀ j, (X j).N.Nodup) (hi : XI T E X tg iter it) (ok : ∀ j, BlkOk (X j).N (X j).env.scope scope own)
    (hg : XGB T (Blk X scope) (own.map (·.2)) tg gf) (ht : XTs T (fun _ => E0) (Blk X scope) ifs f) (he : XE T (fun _ => E0) (Blk X scope) elt fe) (hc : ∀ j, (X j).calm = true := by intro j; rfl) (hs : ∀ j x, foldedSetIterable iter (X j).env x = pure x := by intro _ _; rfl) :
    XR T E X (.ListComp elt [⟨tg, iter, ifs, 0⟩] scope pos) (rLc it gf f fe (own.map (·.2))) := by
  obtain ⟨_, i1, i2⟩ := hi
  obtain ⟨_, g1, g2⟩ := hg
  obtain ⟨_, t1, t2⟩ := ht
  obtain ⟨_, e1, e2⟩ := he
  exact ⟨_, fun j => pe_lc (hc j) (hN j) (i1 j) (ok j) (fun s H C cl fp => g1 (j, s, H, C, cl, fp)) (fun s H C cl fp => t1 (j, s, H, C, cl, fp)) (fun s H C cl fp => e1 (j, s, H, C, cl, fp)) (hs j), semR_lc i2 g2 t2 e2 (wipe_idem _)⟩
variable {st : Stmt} {rest : List Stmt} {f g : MS}
theorem xss_nil : XSs T E X kp [] sNext := ⟨_, fun _ => pss_nil, semS_next⟩
theorem xss_cons (h1 : XS T E X kp st f) (h2 : XSs T E X kp rest g) : XSs T E X kp (st :: rest) (sSeq f g) := let ⟨_, a1, a2⟩ := h1; let ⟨_, b1, b2⟩ := h2; ⟨_, fun j => pss_cons (a1 j) (b1 j), semS_seq a2 b2⟩
theorem xss_one (h1 : XS T E X kp st f) : XSs T E X kp [st] f := let ⟨_, a1, a2⟩ := h1; ⟨_, fun j => pss_one (a1 j), a2⟩
theorem xs_set (i : Nat) {pos' : Pos} (hN : ∀ j, (X j).N.Nodup) (he : XR T E X e r) (hk : kp i = false := by rfl) (hi : ∀ j, (X j).N[i]? = some x := by intro j; rfl) (hx : ∀ j, Loc (X j).env.scope x := by intro j; first | exact Or.inl rfl | exact Or.inr rfl) (hs : ∀ j, swapsWith e (some (.Name x pos')) pos.line (X j).env = pure false := by intro j; rfl)
    (hf : ∀ j, (X j).fn x = true ∨ (X j).env.scope.names.lookup x = some .local := by intro j; first | exact .inl rfl | exact .inr rfl) : XS T E X kp (.Assign [.Name x pos'] e pos) (sSet i r) :=
  let ⟨_, a1, a2⟩ := he; ⟨_, fun j => ps_set (hN j) (hi j) (hx j) (a1 j) (hs j) (hf j), semS_set hk a2⟩
theorem xs_if {c : Expr} {p q : List Stmt} {fc : M Bool} (hc : XT T E X c fc) (h1 : XSs T E X kp p f) (h2 : XSs T E X kp q g) : XS T E X kp (.If c p q pos) (sIf fc f g) := let ⟨_, c1, c2⟩ := hc; let ⟨_, a1, a2⟩ := h1; let ⟨_, b1, b2⟩ := h2; ⟨_, fun j => ps_if (c1 j) (a1 j) (b1 j), semS_if c2 a2 b2⟩
theorem xs_ret (h : XR T E X e r) : XS T E X kp (.Return (some e) pos) (sRet r) := let ⟨_, a1, a2⟩ := h; ⟨_, fun j => ps_ret (a1 j), semS_ret a2⟩
theorem xs_expr (h : XR T E X e r) (hs : ∀ j, swapsWith e none pos.line (X j).env = pure false := by intro j; rfl) : XS T E X kp (.Expr e pos) (sDrop r) := let ⟨_, a1, a2⟩ := h; ⟨_, fun j => ps_expr (a1 j) (hs j), semS_drop a2⟩
theorem xs_for {it : M (List D)} {gf : D → Sl → Option Sl} {body : List Stmt} (hi : XI T E X tg iter it) (hg : XG T X kp tg gf) (hb : XSs T E X kp body f) (hp : ∀ j, PassesOwn (model (X j).prog (X j).w) (X j).A (X j).env (X j).xe) (hc : ∀ j, (X j).calm = true := by intro j; rfl) (hs : ∀ j x, foldedSetIterable iter (X j).env x = pure x := by intro _ _; rfl) : XS T E X kp (.For tg iter body [] pos) (sFor it gf f) :=
  let ⟨_, a1, a2⟩ := hi; let ⟨_, b1, b2⟩ := hg; let ⟨_, c1, c2⟩ := hb; ⟨_, fun j => ps_for (hp j) (hc j) (a1 j) (b1 j) (c1 j) (hs j), semS_for a2 b2 c2⟩
theorem xs_while (n : Nat) {c : Expr} {fc : M Bool} {body : List Stmt} (hc : XT T E X c fc) (hb : XSs T E X kp body f) (hp : ∀ j, PassesOwn (model (X j).prog (X j).w) (X j).A (X j).env (X j).xe) : XS T E X kp (.While c body [] pos) (whileL fc f n) := let ⟨_, c1, c2⟩ := hc; let ⟨_, a1, a2⟩ := hb; ⟨_, fun j => ps_while (hp j) (c1 j) (a1 j), semS_while c2 a2 n⟩
def sApp (i : Nat) (m : M D) : MS := fun st => match m st with
  | some (.v x, s) => (match s[i]? with
    | some (some (.ol xs)) => if xs.length < sizeLine then some (.nx, s.set i (some (.ol (xs ++ [x])))) else none
    | _ => none)
  | some (.x c, s) => some (.x c, s)
  | none => none
theorem ty_ol {H : Hp} {p : Addr} {ys : List V} (h : H p = some (.lst ys)) : tyV T.K "list" (.ref p) H := Or.inl ⟨rfl, _, SqL.of h⟩
theorem ol_before {st s1 : Sl} {σ : L2.St} {B F H : Hp} {i : Nat} (S : Sim T st σ B F H) (h : ∃ r, st[i]? = some (some r) ∧ ((∃ xs, r = .ol xs) ∨ ∃ xs, r = .d (.lst xs))) : ∃ p, σ[i]? = some (some (.ref p)) ∧ tyV T.K "list" (.ref p) H := by
  obtain ⟨r, hi, hr⟩ := h
  obtain ⟨v, hv, rel⟩ := S.rel i r hi
  rcases hr with ⟨xs, rfl⟩ | ⟨xs, rfl⟩
  · obtain ⟨p, ys, rfl, hp, _⟩ := rel
    exact ⟨p, hv, ty_ol hp⟩
  · have rel : Rep T B (.lst xs) v := rel
    unfold Rep at rel
    obtain ⟨p, ys, rfl, hp, _⟩ := rel
    exact ⟨p, hv, Or.inl ⟨rfl, _, S.exB.sqL hp⟩⟩
def isL (s : Option (Option R)) : Bool := match s with
  | some (some (.ol _)) => true
  | some (some (.d (.lst _))) => true
  | _ => false
theorem isL_of {s : Option (Option R)} (h : isL s = true) : ∃ r, s = some (some r) ∧ ((∃ xs, r = .ol xs) ∨ ∃ xs, r = .d (.lst xs)) := by
  unfold isL at h
  split at h
  · exact ⟨_, rfl, .inl ⟨_, rfl⟩⟩
  · exact ⟨_, rfl, .inr ⟨_, rfl⟩⟩
  · cases h
def sApp' (i : Nat) (m : M D) : MS := fun st => if isL st[i]? then sApp i m st else none
theorem semS_app {i : Nat} {te : TE} {m : M D} (h : SemE T E te m) : SemS T E kp (tDrop (tBM T.K "list" rAppend (tVar i) (tCons te tNil))) (sApp' i m) := by
  intro st σ B F H S fl s hf D hD
  unfold sApp' at hf
  split at hf
  · rename_i hl
    obtain ⟨p, hv, ty⟩ := ol_before (s1 := st) S (isL_of hl)
    refine ⟨_, hv, ty, ?_⟩
    unfold sApp at hf
    split at hf
    · rename_i x s1 e
      split at hf
      · rename_i xs hi
        split at hf
        · rename_i hsz
          cases hf
          refine h st σ B F H S _ _ e _ fun B1 H1 e1 S1 v hx => ?_
          obtain ⟨u, hu, q, ys, rfl, hq, hr⟩ := S1.rel i _ hi
          rw [hu] at hv; cases hv
          exact ⟨p, ys, v, rfl, rfl, hq, by rw [← hr.length]; exact hsz, hD σ B1 _ e1 (Kp.refl _ _) (S1.change hi hu rfl (fun _ z => nomatch z) ⟨p, _, rfl, upd_same, hr.append (reps_cons hx reps_nil)⟩)⟩
        · cases hf
      · cases hf
    · rename_i c s1 e
      cases hf
      exact h st σ B F H S _ _ e _ fun d B1 H1 e1 S1 => hD d σ B1 H1 e1 (Kp.refl _ _) S1
    · cases hf
  · cases hf
theorem xs_app (i : Nat) {p ap cp : Pos} (h : XE T E X e fa) (hN : ∀ j, (X j).N[i]? = some x := by intro j; rfl) (hvis : ∀ j, Vis (X j).env.scope x := by intro j; first | exact Or.inl rfl | exact Or.inr (Or.inl rfl) | exact Or.inr (Or.inr rfl))
    (hd : (x == ("__debug__" : Str)) = false := by decide +kernel) (hcd : (x == ("__classdict__" : Str)) = false := by decide +kernel) (hK : ∀ j, (X j).K = T.K := by intro j; rfl)
    (hbase : ∀ j, attributeBase (.Name x p) "append" (X j).env (eval (.Name x p) (X j).env) = eval (.Name x p) (X j).env := by intro j; rfl)
    (hfew : ∀ j, ((backTo cp (starEach [e] (X j).env)).all (fun x => !x.1) && (backToKw cp (keywordEach [] (X j).env)).all (fun x => x.1.isSome)
      && decide (([e] : List Expr).length + ([] : List Keyword).length + (if ([] : List Keyword).isEmpty then 0 else 1) < 30)) = true := by intro j; rfl)
    (hline : (ap.endLine == cp.line) = true := by rfl) (hss : ∀ j, starEach [e] (X j).env = (false, eval e (X j).env) :: starEach [] (X j).env := by intro j; rfl) (hplain : ∀ j, (backTo cp (starEach [] (X j).env)).any (·.1) = false := by intro j; rfl)
    (hs : ∀ j, swapsWith (.Call (.Attribute (.Name x p) "append" ap) [e] [] cp) none pos.line (X j).env = pure false := by intro j; rfl) : XS T E X kp (.Expr (.Call (.Attribute (.Name x p) "append" ap) [e] [] cp) pos) (sApp' i fa) := by
  obtain ⟨_, a1, a2⟩ := h
  exact ⟨_, fun j => by rw [← hK j]; exact ps_expr (pe_bm PySem.F.plainAttrs_list PySem.F.slot_list_append PySem.F.type_list_append mt_append (pe_var (hN j) (hvis j) hd hcd) (pa_cons (a1 j) pa_nil (hss j)) (hbase j) (hfew j) hline (hss j) (hplain j)) (hs j), semS_app a2⟩
def sSub (i : Nat) (mi : M D) (m : M D) : MS := fun st => match m st with
  | some (.v x, s1) => (match mi s1 with
    | some (.v (.int k), s2) => (match s2[i]? with
      | some (some (.ol xs)) => (match ixN xs.length k with
        | some j => if isL s1[i]? then some (.nx, s2.set i (some (.ol (xs.set j x)))) else none
        | none => none)
      | _ => none)
    | some (.x c, s) => if isL s1[i]? then some (.x c, s) else none
    | _ => none)
  | some (.x c, s) => some (.x c, s)
  | none => none
theorem semS_sub {i : Nat} {te ti : TE} {m mi : M D} (h : SemE T E te m) (h2 : SemE T E ti mi) : SemS T E kp (tAsg te (gSub (tVar i) ti rSetL)) (sSub i mi m) := by
  intro st σ B F H S fl s hf D hD
  unfold sSub at hf
  split at hf
  · rename_i x s1 e
    refine h st σ B F H S _ _ e _ fun B1 H1 e1 S1 v hx => ?_
    split at hf
    · rename_i k s2 ei
      split at hf
      · rename_i xs hi
        split at hf
        · rename_i j hj
          split at hf
          · rename_i hl
            cases hf
            obtain ⟨p, hv, _⟩ := ol_before (s1 := st) S1 (isL_of hl)
            refine ⟨_, hv, ?_⟩
            refine h2 s1 σ B1 F H1 S1 _ _ ei _ fun B2 H2 e2 S2 w hw => ?_
            cases rep_int hw
            obtain ⟨u, hu, q, ys, rfl, hq, hr⟩ := S2.rel i _ hi
            rw [hu] at hv; cases hv
            exact ⟨p, ys, k, j, rfl, rfl, hq, by rw [← hr.length]; exact hj, hD σ B2 _ (e1.trans e2) (Kp.refl _ _) (S2.change hi hu rfl (fun _ z => nomatch z) ⟨p, _, rfl, upd_same, hr.set (Rep.mono e2 x hx)⟩)⟩
          · cases hf
        · cases hf
      · cases hf
    · rename_i c s2 ei
      split at hf
      · rename_i hl
        cases hf
        obtain ⟨p, hv, _⟩ := ol_before (s1 := st) S1 (isL_of hl)
        refine ⟨_, hv, ?_⟩
        exact h2 s1 σ B1 F H1 S1 _ _ ei _ fun d B2 H2 e2 S2 => hD d σ B2 H2 (e1.trans e2) (Kp.refl _ _) S2
      · cases hf
    · cases hf
  · rename_i c s1 e
    cases hf
    exact h st σ B F H S _ _ e _ fun d B1 H1 e1 S1 => hD d σ B1 H1 e1 (Kp.refl _ _) S1
  · cases hf
theorem xs_sub (i : Nat) {p sp' : Pos} {ei : Expr} (hv : XE T E X e fa) (hi : XE T E X ei fb) (hN : ∀ j, (X j).N[i]? = some x := by intro j; rfl) (hvis : ∀ j, Vis (X j).env.scope x := by intro j; first | exact Or.inl rfl | exact Or.inr (Or.inl rfl) | exact Or.inr (Or.inr rfl))
    (hd : (x == ("__debug__" : Str)) = false := by decide +kernel) (hcd : (x == ("__classdict__" : Str)) = false := by decide +kernel)
    (ha : ∀ j v, assign (.Subscript (.Name x p) ei sp') (X j).env v = (do
      let ov ← holding [v] (eval (.Name x p) (X j).env)
      let iv ← holding [v, ov] (eval ei (X j).env)
      standAt sp'
      holding [v, ov, iv] (setItem ov iv v)
      release [v, ov, iv] []) := by intro _ _; rfl)
    (hs : ∀ j, swapsWithSole [.Subscript (.Name x p) ei sp'] e pos.line (X j).env = pure false := by intro j; rfl) (hw : ∀ j, swappedStores [.Subscript (.Name x p) ei sp'] e (X j).env = pure none := by intro j; rfl) (h1 : ∀ j, (assignEach [.Subscript (.Name x p) ei sp'] (X j).env).map (·.2) = [assign (.Subscript (.Name x p) ei sp') (X j).env] := by intro j; rfl) : XS T E X kp (.Assign [.Subscript (.Name x p) ei sp'] e pos) (sSub i fb fa) := by
  obtain ⟨_, a1, a2⟩ := hv
  obtain ⟨_, b1, b2⟩ := hi
  exact ⟨_, fun j => ps_asg (a1 j) (pg_sub (pe_var (hN j) (hvis j) hd hcd) (b1 j) set_list (ha j)) (hs j) (hw j) (h1 j), semS_sub a2 b2⟩
end
abbrev CxD (P : Program) (w : World) (T : Tab) (mg : Str → Option Value) (base : Heap) (N : List Str) (qual : Str) (st : Stmt) (f : Addr) (cdv : Value) (A : Around) (outer : List Env) (s : Shared) (H : Hp) (E : XK) : Unit → Cx := fun _ => cxOf (L2.CX P w) P w T.K mg base N qual (defScope st) f cdv A outer s H E
theorem ok_def {P : Program} {w : World} {T : Tab} {mg : Str → Option Value} {base : Heap} {x qual : Str} {st : Stmt} {f : Addr} {fd : FuncData} {N ps : List Str} {k : Nat} {kp : Nat → Bool} {body : MS} (F : Fun T.K x qual st f fd) (S : FnScope N ps (defScope st))
    (h : ∀ (cdv : Value) (A : Around) (outer : List Env) (s : Shared) (H : Hp) (E : XK), Room k (A.deeper (envOfC qual (defScope st) s.heap.objs.size f cdv)) →
      XSs T (fun _ => E) (CxD P w T mg base N qual st f cdv A outer s H E) kp (defBody st) body) : FnOk P w T.K mg base (L2.CX P w) (k + 1) f fd ps (sp T ps.length (fnOf ps.length N.length kp body)) := by
  refine okR F S (fun vs H Q E h => h.1) fun cdv A outer s H vs Q E hr hsp => ?_
  obtain ⟨t, a1, a2⟩ := h cdv A outer s H E hr
  exact ⟨t, a1 (), read_fn hsp a2⟩
theorem rm_def {P : Program} {w : World} {T : Tab} {mg : Str → Option Value} {base : Heap} {N : List Str} {qual : Str} {st : Stmt} {f : Addr} {cdv : Value} {A : Around} {outer : List Env} {s : Shared} {H : Hp} {E : XK} {k : Nat} (hr : Room k (A.deeper (envOfC qual (defScope st) s.heap.objs.size f cdv))) :
    Rm (CxD P w T mg base N qual st f cdv A outer s H E) := fun _ => by
  have h : (A.deeper (envOfC qual (defScope st) s.heap.objs.size f cdv)).units + 16 * k + 200 < cLine := hr.un
  show (A.deeper (envOfC qual (defScope st) s.heap.objs.size f cdv)).units + 65 < cLine
  omega
theorem pass_def {P : Program} {w : World} {T : Tab} {mg : Str → Option Value} {base : Heap} {N : List Str} {qual : Str} {st : Stmt} {f : Addr} {cdv : Value} {A : Around} {outer : List Env} {s : Shared} {H : Hp} {E : XK} {j : Unit} (σ : L2.St) :
    PassesAt (L2.CX P w) (CxD P w T mg base N qual st f cdv A outer s H E j) σ E :=
  passAt (W := fun cls d _ H => E cls d H) (X := CxD P w T mg base N qual st f cdv A outer s H E j) (takes_of rfl rfl rfl rfl) σ
theorem own_def {P : Program} {w : World} {T : Tab} {mg : Str → Option Value} {base : Heap} {N : List Str} {qual : Str} {st : Stmt} {f : Addr} {cdv : Value} {A : Around} {outer : List Env} {s : Shared} {H : Hp} {E : XK} (j : Unit) :
    PassesOwn (model (CxD P w T mg base N qual st f cdv A outer s H E j).prog (CxD P w T mg base N qual st f cdv A outer s H E j).w) (CxD P w T mg base N qual st f cdv A outer s H E j).A (CxD P w T mg base N qual st f cdv A outer s H E j).env (CxD P w T mg base N qual st f cdv A outer s H E j).xe :=
  passes_of (X := CxD P w T mg base N qual st f cdv A outer s H E j) rfl
theorem pass_blk {Y : Cx} {P : Program} {w : World} (σ : L2.St) : PassesAt (L2.CX P w) Y σ E0 := fun _ _ _ _ _ _ h => by
  obtain ⟨_, _, _, _, _, _, _, _, _, _, _, _, z⟩ := h
  exact z.elim
end Fz
set_option Elab.async false
set_option linter.all false
set_option maxRecDepth 100000
set_option maxHeartbeats 2000000
namespace Fz
open PySem L2 PySem.Spec PyProof.Rows
section
variable (P : Program) (w : World) (T : Tab) (mg : Str → Option Value) (base : Heap)
structure FnG (x : Str) (n : Nat) (F : Fn) (k : Nat) : Prop where
  ex : ∃ f fd ps, mg x = some (.ref f) ∧ PySem.W.keepIn T.K (.ref f) = true ∧ Binds T.K fd ps [] ∧ FnOk P w T.K mg base (L2.CX P w) k f fd ps (sp T n F)
structure MtG (c : Nat) (m : Str) (n : Nat) (F : Fn) (k : Nat) : Prop where
  ex : ∃ f fd ps, Meth T.K (T.cls c) m f ∧ Binds T.K fd ps [] ∧ FnOk P w T.K mg base (L2.CX P w) k f fd ps (sp T n F)
  cl : ClsOk T c
  nf : m ∉ T.flds c
structure MkG (x : Str) (c n : Nat) (F : Fn) (k : Nat) : Prop where
  ex : ∃ f fd ps, mg x = some (.ref (T.cls c)) ∧ Mk T.K (T.cls c) f ∧ Binds T.K fd ps [] ∧ FnOk P w T.K mg base (L2.CX P w) k f fd ps (sp T n F)
end
section
variable {P : Program} {w : World} {T : Tab} {mg : Str → Option Value} {base : Heap} {N : List Str} {qual : Str} {st : Stmt} {f : Addr} {cdv : Value} {A : Around} {outer : List Env} {s : Shared} {H : Hp} {E : XK} {x m : Str} {n c k : Nat} {F : Fn}
theorem FnG.mono {j : Nat} (G : FnG P w T mg base x n F j) (h : j ≤ k) : FnG P w T mg base x n F k := let ⟨f, fd, ps, a, b, c, d⟩ := G.ex; ⟨f, fd, ps, a, b, c, d.mono h⟩
theorem FnG.sub {F' : Fn} (G : FnG P w T mg base x n F k) (h : ∀ rs o, F' rs = some o → F rs = some o) : FnG P w T mg base x n F' k := let ⟨f, fd, ps, a, b, c, d⟩ := G.ex; ⟨f, fd, ps, a, b, c, fn_sub d h⟩
theorem MtG.mono {j : Nat} (G : MtG P w T mg base c m n F j) (h : j ≤ k) : MtG P w T mg base c m n F k := ⟨let ⟨f, fd, ps, a, b, d⟩ := G.ex; ⟨f, fd, ps, a, b, d.mono h⟩, G.cl, G.nf⟩
theorem MtG.sub {F' : Fn} (G : MtG P w T mg base c m n F k) (h : ∀ rs o, F' rs = some o → F rs = some o) : MtG P w T mg base c m n F' k := ⟨let ⟨f, fd, ps, a, b, d⟩ := G.ex; ⟨f, fd, ps, a, b, fn_sub d h⟩, G.cl, G.nf⟩
theorem MkG.sub {F' : Fn} (G : MkG P w T mg base x c n F k) (h : ∀ rs o, F' rs = some o → F rs = some o) : MkG P w T mg base x c n F' k := let ⟨f, fd, ps, a, b, b', d⟩ := G.ex; ⟨f, fd, ps, a, b, b', fn_sub d h⟩
theorem FnG.d {j : Nat} (G : FnG P w T mg base x n F j) (hr : Room k (A.deeper (envOfC qual (defScope st) s.heap.objs.size f cdv))) (h : j ≤ k) (i : Unit) : FunAt (CxD P w T mg base N qual st f cdv A outer s H E i) T (fun _ => E) x n F [] :=
  let ⟨f, fd, ps, a, b, c, d⟩ := G.ex; ⟨f, fd, ps, _, j, a, b, c, d, hr.mono h, fun σ => pass_def σ⟩
theorem MtG.d {j : Nat} (G : MtG P w T mg base c m n F j) (hr : Room k (A.deeper (envOfC qual (defScope st) s.heap.objs.size f cdv))) (h : j ≤ k) (i : Unit) : MethAt (CxD P w T mg base N qual st f cdv A outer s H E i) T (fun _ => E) c m n F :=
  let ⟨f, fd, ps, a, b, d⟩ := G.ex; ⟨f, fd, ps, _, j, G.cl.cls, a, b, d, hr.mono h, fun σ => pass_def σ, G.nf⟩
theorem MkG.d {j : Nat} (G : MkG P w T mg base x c n F j) (hr : Room k (A.deeper (envOfC qual (defScope st) s.heap.objs.size f cdv))) (h : j + 1 ≤ k) (i : Unit) : MakeAt (CxD P w T mg base N qual st f cdv A outer s H E i) T (fun _ => E) x c n F :=
  let ⟨f, fd, ps, a, b, b', d⟩ := G.ex; ⟨f, fd, ps, _, j, a, b, b', d, hr.mono h, fun σ => pass_def σ⟩
theorem FunAt.blk {ι : Type} {X : ι → Cx} {E : L2.St → XK} (h : ∀ i, FunAt (X i) T E x n F []) {scope : Scope} (hc : ∀ i, (X i).prog = P) (G : FnG P w T mg base x n F k) (hr : ∀ i, Room k (X i).A) (hw : ∀ i, (X i).w = w) (hm : ∀ i, (X i).mg = mg) (hb : ∀ i, (X i).base = base) (hK : ∀ i, (X i).K = T.K) (i) : FunAt (Blk X scope i) T (fun _ => E0) x n F [] := by
  obtain ⟨f, fd, ps, a, b, c, d⟩ := G.ex
  refine ⟨f, fd, ps, _, k, ?_, ?_, ?_, ?_, hr i.1, fun σ => pass_blk (P := P) (w := w) σ⟩
  · show (X i.1).mg x = _; rw [hm]; exact a
  · show PySem.W.keepIn (X i.1).K _ = _; rw [hK]; exact b
  · show Binds (X i.1).K _ _ _; rw [hK]; exact c
  · show FnOk (X i.1).prog (X i.1).w (X i.1).K (X i.1).mg (X i.1).base _ _ _ _ _ _; rw [hc, hw, hK, hm, hb]; exact d
theorem FnG.b {j : Nat} {scope : Scope} (G : FnG P w T mg base x n F j) (hr : Room k (A.deeper (envOfC qual (defScope st) s.heap.objs.size f cdv))) (h : j ≤ k) (i) : FunAt (Blk (CxD P w T mg base N qual st f cdv A outer s H E) scope i) T (fun _ => E0) x n F [] :=
  let ⟨f, fd, ps, a, b, c, d⟩ := G.ex; ⟨f, fd, ps, _, j, a, b, c, d, hr.mono h, fun σ => pass_blk (P := P) (w := w) σ⟩
theorem MtG.b {j : Nat} {scope : Scope} (G : MtG P w T mg base c m n F j) (hr : Room k (A.deeper (envOfC qual (defScope st) s.heap.objs.size f cdv))) (h : j ≤ k) (i) : MethAt (Blk (CxD P w T mg base N qual st f cdv A outer s H E) scope i) T (fun _ => E0) c m n F :=
  let ⟨f, fd, ps, a, b, d⟩ := G.ex; ⟨f, fd, ps, _, j, G.cl.cls, a, b, d, hr.mono h, fun σ => pass_blk (P := P) (w := w) σ, G.nf⟩
theorem MkG.b {j : Nat} {scope : Scope} (G : MkG P w T mg base x c n F j) (hr : Room k (A.deeper (envOfC qual (defScope st) s.heap.objs.size f cdv))) (h : j + 1 ≤ k) (i) : MakeAt (Blk (CxD P w T mg base N qual st f cdv A outer s H E) scope i) T (fun _ => E0) x c n F :=
  let ⟨f, fd, ps, a, b, b', d⟩ := G.ex; ⟨f, fd, ps, _, j, a, b, b', d, hr.mono h, fun σ => pass_blk (P := P) (w := w) σ⟩
def MtT (P : Program) (w : World) (T : Tab) (mg : Str → Option Value) (base : Heap) (m : Str) (n k : Nat) (tab : Nat → Option Fn) : Prop := ∀ c F, tab c = some F → MtG P w T mg base c m n F k
theorem MtT.d {j : Nat} {tab : Nat → Option Fn} (G : MtT P w T mg base m n j tab) (hr : Room k (A.deeper (envOfC qual (defScope st) s.heap.objs.size f cdv))) (h : j ≤ k) : ∀ (i : Unit) c F, tab c = some F → MethAt (CxD P w T mg base N qual st f cdv A outer s H E i) T (fun _ => E) c m n F := fun i c F hc => (G c F hc).d hr h i
theorem MtT.b {j : Nat} {scope : Scope} {tab : Nat → Option Fn} (G : MtT P w T mg base m n j tab) (hr : Room k (A.deeper (envOfC qual (defScope st) s.heap.objs.size f cdv))) (h : j ≤ k) : ∀ i c F, tab c = some F → MethAt (Blk (CxD P w T mg base N qual st f cdv A outer s H E) scope i) T (fun _ => E0) c m n F := fun i c F hc => (G c F hc).b hr h i
theorem MtT.nf {j : Nat} {tab : Nat → Option Fn} (G : MtT P w T mg base m n j tab) : ∀ c F, tab c = some F → m ∉ T.flds c := fun c F hc => (G c F hc).nf
theorem MtT.mono {j : Nat} {tab : Nat → Option Fn} (G : MtT P w T mg base m n j tab) (h : j ≤ k) : MtT P w T mg base m n k tab := fun c F hc => (G c F hc).mono h
end
section
variable {ι : Type} {T : Tab} {E : L2.St → XK} {X : ι → Cx} {kp : Nat → Bool} {pos apos : Pos} {e a b c o : Expr} {es : List Expr} {fa fb : M D} {fs : M (List D)} {r : M R} {x : Str}
theorem xe_len {p : Pos} (hm : ∀ j, (X j).mg "len" = none) (ha : XA T E X [e] fs) (hK : ∀ j, (X j).K = T.K := by intro j; rfl) (hg : ∀ j, Gl (X j) "len" := by intro j; rfl) (he : ∀ j, starEach [e] (X j).env = (false, eval e (X j).env) :: starEach [] (X j).env := by intro j; rfl) (hpl : ∀ j, (backTo pos (starEach [] (X j).env)).any (·.1) = false := by intro j; rfl) : XE T E X (.Call (.Name "len" p) [e] [] pos) (eOp dLen fs) :=
  xe_callB (fun j => by rw [← hK j]; exact call_len) p_len hm PySem.boot_len ha hg (by decide +kernel) (by decide +kernel) he hpl
theorem xe_tuple {p : Pos} (hm : ∀ j, (X j).mg "tuple" = none) (ha : XA T E X [e] fs) (hK : ∀ j, (X j).K = T.K := by intro j; rfl) (hg : ∀ j, Gl (X j) "tuple" := by intro j; rfl) (he : ∀ j, starEach [e] (X j).env = (false, eval e (X j).env) :: starEach [] (X j).env := by intro j; rfl) (hpl : ∀ j, (backTo pos (starEach [] (X j).env)).any (·.1) = false := by intro j; rfl) : XE T E X (.Call (.Name "tuple" p) [e] [] pos) (eOp dTuple fs) :=
  xe_callTy (fun j => by rw [← hK j]; exact call_tuple_of) p_tuple hm (by decide +kernel) ha hg (by decide +kernel) (by decide +kernel) he hpl
theorem xr_list {p : Pos} (hm : ∀ j, (X j).mg "list" = none) (ha : XA T E X [e] fs) (hK : ∀ j, (X j).K = T.K := by intro j; rfl) (hg : ∀ j, Gl (X j) "list" := by intro j; rfl) (he : ∀ j, starEach [e] (X j).env = (false, eval e (X j).env) :: starEach [] (X j).env := by intro j; rfl) (hpl : ∀ j, (backTo pos (starEach [] (X j).env)).any (·.1) = false := by intro j; rfl) : XR T E X (.Call (.Name "list" p) [e] [] pos) (rOp dList fs) :=
  xr_callTy (fun j => by rw [← hK j]; exact call_list_of) p_list hm (by decide +kernel) ha hg (by decide +kernel) (by decide +kernel) he hpl
end
end Fz
set_option Elab.async false
set_option linter.all false
set_option maxRecDepth 100000
set_option maxHeartbeats 2000000
namespace PySem.AutoSeq1
open PySem
end PySem.AutoSeq1
namespace Fz
open PySem L2 PySem.Spec PyProof.Rows
section
variable {X : Cx}
end
end Fz
set_option Elab.async false
set_option linter.all false
set_option maxRecDepth 100000
set_option maxHeartbeats 2000000
namespace Fz
open PySem L2 PySem.Spec PyProof.Rows
def tyD : D → Option String
  | .non => some "NoneType"
  | .bl _ => some "bool"
  | .int _ => some "int"
  | .str _ => some "str"
  | .tup _ => some "tuple"
  | .lst _ => some "list"
  | .dct _ _ => some "dict"
  | .obj _ _ => none
  | .ext _ _ => none
def TyZ (T : Tab) (H : Hp) (v : V) (t : Value) : Prop := TyX T.K H v t ∨ ∃ a w ep es, v = .ref a ∧ H a = some (dG w a ep es) ∧ t = .type "dict"
theorem kit_ofZ {X : Cx} {pins : List (Addr × Obj)} {σ : L2.St} {H : Hp} {s : Shared} {T : Tab} {x : V} {u t : Value} (hK : X.K = T.K) (I : Inv X pins σ H s) (rx : RelV x u) (ty : TyZ T H x t) : ∃ P : Heap → Prop, PySem.W.KitX X.K u t P ∧ P s.heap ∧ u ≠ .builtin "__main__.__loader__#opaque" := by
  rcases ty with ty | ⟨a, w, ep, es, rfl, h, rfl⟩
  · exact kit_of I rx (by rw [hK]; exact ty)
  · cases (show u = Value.ref a from rx)
    obtain ⟨⟨o, en, h1, h2, _⟩, _⟩ := (show ObjOk X.prog X.w H s.heap a (dG w a ep es) from I.hok a _ h)
    exact ⟨_, PySem.W.kitx_dict, ⟨o, h1, h2.1⟩, fun z => nomatch z⟩
def rIsiZ (T : Tab) : List V → Hp → VK → Prop := fun xs H Q => ∃ (x c : V) (t u : Value) (b : Bool), xs = [x, c] ∧ ClsV c u ∧ TyZ T H x t ∧ PySem.W.kitOne T.K t u = some b ∧ Q (.bl b) H
theorem call_isiZ {X : Cx} {T : Tab} (hK : X.K = T.K) : CallR X (.builtin "isinstance") (rIsiZ T) := by
  intro pins s σ H xs us Q I r h
  obtain ⟨x, c, t, u, b, rfl, k, ty, e, q⟩ := h
  obtain ⟨u1, u2, rfl, r1, r2⟩ := vals2 r
  have e2 := k.eq r2
  subst e2
  obtain ⟨P, Z, p, hx⟩ := kit_ofZ hK I r1 ty
  rw [← hK] at e
  exact PySem.W.kia_one Z I.kIn p e hx fun tk => ⟨.bl b, H, I.tok tk, rfl, q⟩
theorem tyx_of {T : Tab} {B H : Hp} {x : D} {v : V} {t : String} (e : Ex B H) (r : Rep T B x v) (h : tyD x = some t) : TyZ T H v (.type t) := by
  cases x with
  | non => cases h; cases rep_non r; exact .inl <| .base .non
  | bl b => cases h; cases rep_bl r; exact .inl <| .base (.bl b)
  | int i => cases h; cases rep_int r; exact .inl <| .base (.int i)
  | str s => cases h; obtain ⟨rfl, _⟩ := rep_str r; exact .inl <| .base (.str s)
  | tup ds =>
    cases h
    unfold Rep at r
    obtain ⟨a, xs, rfl, h2, _⟩ := r
    rcases h2 with h2 | ⟨o, its, n, h3, h4, _⟩
    · exact .inl <| .base (.tup (e a _ h2))
    · exact .inl <| .kTuple h3 h4
  | lst ds =>
    cases h
    unfold Rep at r
    obtain ⟨a, xs, rfl, h2, _⟩ := r
    rcases h2 with (h2 | ⟨o, h2⟩) | ⟨o, its, n, h3, h4, _⟩
    · exact .inl <| .base (.lst (e a _ h2))
    · exact .inl <| .base (.frz (e a _ h2))
    · exact .inl <| .kList h3 h4
  | dct ks vs =>
    cases h
    rw [rep_dct] at r
    obtain ⟨a, xs, rfl, ⟨ep, es, h2, _⟩, _⟩ := r
    exact .inr ⟨a, _, ep, es, rfl, e a _ h2, rfl⟩
  | obj c fs => cases h
  | ext c fs => cases h
def isTy (t c : String) : Bool := t == c || (t == "bool" && c == "int")
def tyNames : List String := ["NoneType", "bool", "int", "str", "tuple", "list", "dict"]
theorem tyD_mem {x : D} {t : String} (h : tyD x = some t) : t ∈ tyNames := by
  cases x <;> cases h <;> decide
theorem kit_all : (tyNames.all fun t => ["str", "int", "bool", "list", "tuple", "dict"].all fun c => kitB t c == some (isTy t c)) = true := by decide +kernel
theorem kit_is {t c : String} (ht : t ∈ tyNames) (hc : c ∈ ["str", "int", "bool", "list", "tuple", "dict"]) : kitB t c = some (isTy t c) := by
  have := List.all_eq_true.mp (List.all_eq_true.mp kit_all t ht) c hc
  exact eq_of_beq this
def dIsi (c : String) (x : D) : Option D := (tyD x).map fun t => .bl (isTy t c)
section
variable {ι : Type} {T : Tab} {E : L2.St → XK} {X : ι → Cx} {kp : Nat → Bool} {pos apos : Pos} {e a b c o : Expr} {es : List Expr} {fa fb fc : M D} {fs : M (List D)} {fl : M (List Arg)} {r : M R} {x m : Str} {te ta : TE} {t : TA}
theorem semE_isi {c : String} (hc : c ∈ ["str", "int", "bool", "list", "tuple", "dict"]) (ha : SemE T E te fa) : SemE T E (tCB (rIsiZ T) (tCons te (tCons (tC (.ty c)) tNil))) (eUn (dIsi c) fa) := by
  intro st σ B F H S o s h Q hQ
  refine okx_bnd h hQ (fun o1 s1 e1 q => ha st σ B F H S o1 s1 e1 _ q) fun a s1 B1 H1 _ h2 e1 S1 hQ1 v hv => ?_
  obtain ⟨z, hz, rfl, rfl⟩ := opt_some h2
  unfold dIsi at hz
  cases ht : tyD a with
  | none => rw [ht] at hz; cases hz
  | some t =>
    rw [ht] at hz; cases hz
    exact ⟨v, .ty c, .type t, .type c, _, rfl, .ty c, tyx_of S1.exB hv ht, kit_ty (kit_is (tyD_mem ht) hc), hQ1 B1 H1 (Ex.refl _) S1 _ rfl⟩
theorem xe_isi {c : String} {cx : Str} {p p2 : Pos} (hc : c ∈ ["str", "int", "bool", "list", "tuple", "dict"]) (hv : bootBuiltins cx = some (.type c)) (hm : ∀ j, (X j).mg "isinstance" = none) (hm2 : ∀ j, (X j).mg cx = none) (ha : XE T E X e fa) (hK : ∀ j, (X j).K = T.K := by intro j; rfl)
    (hg : ∀ j, Gl (X j) "isinstance" := by intro j; rfl) (hg2 : ∀ j, Gl (X j) cx := by intro j; rfl) (hn2 : cx ≠ "__name__" := by decide +kernel) (hdb2 : (cx == ("__debug__" : Str)) = false := by decide +kernel)
    (hs1 : ∀ j, starEach [e, .Name cx p2] (X j).env = (false, eval e (X j).env) :: starEach [.Name cx p2] (X j).env := by intro j; rfl) (hs2 : ∀ j, starEach [.Name cx p2] (X j).env = (false, eval (.Name cx p2) (X j).env) :: starEach [] (X j).env := by intro j; rfl)
    (hpl : ∀ j, (backTo pos (starEach [.Name cx p2] (X j).env)).any (·.1) = false := by intro j; rfl) : XE T E X (.Call (.Name "isinstance" p) [e, .Name cx p2] [] pos) (eUn (dIsi c) fa) :=
  let ⟨_, a1, a2⟩ := ha
  ⟨_, fun j => pe_callB (call_isiZ (hK j)) (hg j) (hm j) (by decide +kernel) (pa_cons (a1 j) (pa_cons (pe_bltn (v := .ty c) (hg2 j) (hm2 j) hv rfl hn2 hdb2) pa_nil (hs2 j)) (hs1 j)) (by decide +kernel) (by decide +kernel) (hs1 j) (hpl j), semE_isi hc a2⟩
def tFull (n : Nat → Nat) (f : M Bool) : M Bool := fun st => match f (vwN n st) with
  | some (.v b, _) => some (.v b, st)
  | some (.x c, _) => some (.x c, st)
  | none => none
theorem semT_all {tt : TT} {f : M Bool} (h : SemT T E tt f) : SemT T E tt (tFull (fun c => (T.flds c).length) f) := by
  intro st σ B F H S o s hf Q hQ
  unfold tFull at hf
  split at hf
  · rename_i x s1 e1
    cases hf
    refine h _ σ (noT T H) _ H S.full _ _ e1 Q fun B1 H1 x1 S1 => ?_
    obtain ⟨b1, b2, b3⟩ := S.back (x1.trans S1.exB) S1.tbs S1.exB
    exact hQ _ H1 b1 b2
  · rename_i c s1 e1
    cases hf
    refine h _ σ (noT T H) _ H S.full _ _ e1 Q fun d B1 H1 x1 S1 => ?_
    obtain ⟨b1, b2, b3⟩ := S.back (x1.trans S1.exB) S1.tbs S1.exB
    exact hQ d _ H1 b1 b2
  · cases hf
theorem xt_full {f : M Bool} (h : XT T E X e f) : XT T E X e (tFull (fun c => (T.flds c).length) f) := let ⟨_, h1, h2⟩ := h; ⟨_, h1, semT_all h2⟩
def rBin (g : D → D → Option (List D)) (fa fb : M D) : M R := bnd fa fun x => bnd fb fun y => opt ((g x y).map .ol)
def tyOk (ty : String) (x : D) : Bool := match x with
  | .str _ => ty == "str"
  | .lst _ => ty == "list"
  | _ => false
theorem tyV_of {ty : String} {B H : Hp} {x : D} {v : V} (e : Ex B H) (r : Rep T B x v) (h : tyOk ty x = true) : tyV T.K ty v H := by
  cases x with
  | str s => obtain ⟨rfl, _⟩ := rep_str r; exact eq_of_beq h
  | lst ds =>
    unfold Rep at r
    obtain ⟨a, xs, rfl, h2, _⟩ := r
    exact .inl ⟨eq_of_beq h, xs, e.sqL h2⟩
  | _ => cases h
def PrimM (T : Tab) (r : V → List V → Hp → VK → Prop) (g : D → List D → Option D) : Prop := ∀ x xs z v vs B H (Q : VK), Ex B H → Rep T B x v → Reps T B xs vs → g x xs = some z → (∀ u B' H', Ext B H B' H' → Rep T B' z u → Q u H') → r v vs H Q
def eMt (ty : String) (g : D → List D → Option D) (fa : M D) (fs : M (List D)) : M D := bnd fa fun x => if tyOk ty x = true then bnd fs fun xs => opt (g x xs) else fun _ => none
def rMt (ty : String) (g : D → List D → Option (List D)) (fa : M D) (fs : M (List D)) : M R := bnd fa fun x => if tyOk ty x = true then bnd fs fun xs => opt ((g x xs).map .ol) else fun _ => none
theorem semE_mt {ty : String} {rr : V → List V → Hp → VK → Prop} {g : D → List D → Option D} (hr : PrimM T rr g) (ha : SemE T E ta fa) (hs : SemA T E t fs) : SemE T E (tBM T.K ty rr ta t) (eMt ty g fa fs) := by
  intro st σ B F H S o s h Q hQ
  refine okx_bnd h hQ (fun o1 s1 e1 q => ha st σ B F H S o1 s1 e1 _ q) fun a s1 B1 H1 _ h2 e1 S1 hQ1 v hv => ?_
  split at h2
  · rename_i ht
    refine ⟨tyV_of S1.exB hv ht, ?_⟩
    refine okx_bnd h2 hQ1 (fun o1 s2 e2 q => hs s1 σ B1 F H1 S1 o1 s2 e2 _ q) fun b s2 B2 H2 _ h3 e2 S2 hQ2 us hu => ?_
    obtain ⟨z, hz, rfl, rfl⟩ := opt_some h3
    exact hr a b z v us B2 H2 Q S2.exB (Rep.mono e2 a hv) hu hz fun u B3 H3 e3 hu => hQ2 B3 H3 e3.b (S2.ext e3) u hu
  · cases h2
structure MtOk (X : ι → Cx) (o e : Expr) (es : List Expr) (m : Str) (apos pos : Pos) : Prop where
  base : ∀ j, attributeBase o m (X j).env (eval o (X j).env) = eval o (X j).env
  few : ∀ j, ((backTo pos (starEach (e :: es) (X j).env)).all (fun x => !x.1) && (backToKw pos (keywordEach [] (X j).env)).all (fun x => x.1.isSome)
      && decide ((e :: es).length + ([] : List Keyword).length + (if ([] : List Keyword).isEmpty then 0 else 1) < 30)) = true
  line : (apos.endLine == pos.line) = true
  st : ∀ j, starEach (e :: es) (X j).env = (false, eval e (X j).env) :: starEach es (X j).env
  pl : ∀ j, (backTo pos (starEach es (X j).env)).any (·.1) = false
theorem xe_mt {ty id : String} {rr : V → List V → Hp → VK → Prop} {g : D → List D → Option D} (pa : PlainAttrs ty) (slot : Slot ty m id) (hty : typeOf (.builtin id) = pure (.type "method_descriptor")) (hp : PrimM T rr g) (hm : ∀ j, MtR (X j) id rr) (ho : XE T E X o fa) (ha : XA T E X (e :: es) fs)
    (hK : ∀ j, (X j).K = T.K := by intro j; rfl) (k : MtOk X o e es m apos pos := by exact ⟨fun j => rfl, fun j => rfl, rfl, fun j => rfl, fun j => rfl⟩) : XE T E X (.Call (.Attribute o m apos) (e :: es) [] pos) (eMt ty g fa fs) :=
  let ⟨_, a1, a2⟩ := ho; let ⟨_, b1, b2⟩ := ha; ⟨_, fun j => by rw [← hK j]; exact pe_bm pa slot hty (hm j) (a1 j) (b1 j) (k.base j) (k.few j) k.line (k.st j) (k.pl j), semE_mt hp a2 b2⟩
def sExtA (i : Nat) (m : M D) : MS := fun st => if isL st[i]? then (match m st with
  | some (.v y, s) => (match (match y with | .lst ys => some ys | .tup ys => some ys | _ => none), s[i]? with
    | some ys, some (some (.ol xs)) => if xs.length + ys.length ≤ sizeLine then some (.nx, s.set i (some (.ol (xs ++ ys)))) else none
    | _, _ => none)
  | some (.x c, s) => some (.x c, s)
  | none => none) else none
end
end Fz
set_option Elab.async false
set_option linter.all false
set_option maxRecDepth 100000
set_option maxHeartbeats 2000000
namespace Fz
open PySem L2 PySem.Spec PyProof.Rows
section
variable (T : Tab) (mg : Str → Option Value)
def GFun (x : Str) (st : Stmt) (ps : List Str) : Prop := ∃ f fd, mg x = some (.ref f) ∧ Fun T.K x x st f fd ∧ Binds T.K fd ps []
end
section
variable {P : Program} {w : World} {T : Tab} {mg : Str → Option Value} {base : Heap} {x m qual : Str} {st : Stmt} {N ps : List Str} {k c : Nat} {kp : Nat → Bool} {body : MS}
abbrev Does (P : Program) (w : World) (T : Tab) (mg : Str → Option Value) (base : Heap) (N : List Str) (qual : Str) (st : Stmt) (k : Nat) (kp : Nat → Bool) (body : MS) : Prop :=
  ∀ (f : Addr) (cdv : Value) (A : Around) (outer : List Env) (s : Shared) (H : Hp) (E : XK), Room k (A.deeper (envOfC qual (defScope st) s.heap.objs.size f cdv)) → XSs T (fun _ => E) (CxD P w T mg base N qual st f cdv A outer s H E) kp (defBody st) body
theorem fng_g (G : GFun T mg x st ps) (S : FnScope N ps (defScope st)) (h : Does P w T mg base N x st k kp body) : FnG P w T mg base x ps.length (fnOf ps.length N.length kp body) (k + 1) := by
  obtain ⟨f, fd, h1, h2, h3⟩ := G
  exact ⟨f, fd, ps, h1, h2.kp, h3, ok_def h2 S (h f)⟩
end
section
variable {ι : Type} {T : Tab} {E : L2.St → XK} {X : ι → Cx} {kp : Nat → Bool} {pos apos : Pos} {e a b c o : Expr} {es : List Expr} {fa fb : M D} {fs : M (List D)} {r : M R} {x : Str}
theorem rm_blk {scope : Scope} (h : Rm X) : Rm (Blk X scope) := fun q => h q.1
end
end Fz
namespace Fz
open PySem L2 PySem.Spec PyProof.Rows
section
variable {T : Tab} {K : PySem.W.Frag} {h : Heap} {mg : Str → Option Value}
theorem fun_of {x qual : Str} {st : Stmt} {f : Addr} {fd : FuncData} (F : FunD K x qual (defArgs st) (defBody st) (defScope st) [] [] f fd) : Fun K x qual st f fd := by
  obtain ⟨oc, od, dV, kV, doc, pm, an, cdv, ct, osl, rfl, lk, hcd, hD, _⟩ := F.ex
  rcases hD with ⟨_, rfl⟩ | ⟨e, _⟩
  · exact ⟨⟨oc, od, kV, doc, pm, an, cdv, ct, osl, rfl, lk, hcd⟩, F.kp⟩
  · exact absurd rfl e
end
end Fz
set_option Elab.async false
set_option linter.all false
set_option maxRecDepth 100000
set_option maxHeartbeats 2000000
namespace Fz
open PySem L2 PySem.Spec PyProof.Rows
def LawDoes (F : Fn) : Prop := ∀ ns : List Int, ns.length ≤ 63 → ∃ rs, F [.d (.lst (ns.map D.int))] = some (.v (.d (.bl true)), rs)
theorem reps_ints {T : Tab} {B : Hp} : ∀ ns : List Int, Reps T B (ns.map D.int) (ns.map V.int)
  | [] => reps_nil
  | _ :: r => reps_cons rfl (reps_ints r)
theorem law_sp {T : Tab} {F : Fn} {H : Hp} {a : Addr} {ns : List Int} (h : LawDoes F) (hl : ns.length ≤ 63) (hT : ∀ p ∈ T.tt, H p.1 = some (.tbl #[])) (hS : SqL T.K H a (ns.map V.int)) : sp T 1 F [.ref a] H (fun v _ => v = .bl true) fun _ _ _ => False := by
  obtain ⟨rs, e⟩ := h ns hl
  have out : ∀ {b : Addr} {o : HO}, H b = some o → (∀ ps, o ≠ .tbl ps) → noT T H b = some o := fun {b o} q n => by
    rw [noT_out]
    · exact q
    · rintro ⟨p, hp, e⟩
      have := hT p hp
      rw [e, q] at this
      exact n _ (Option.some.inj this)
  have hS2 : SqL T.K (noT T H) a (ns.map V.int) := by
    rcases hS with (q | ⟨o, q⟩) | q
    · exact .inl (.inl (out q fun ps z => nomatch z))
    · exact .inl (.inr ⟨o, out q fun ps z => nomatch z⟩)
    · exact .inr q
  refine ⟨rfl, [.d (.lst (ns.map D.int))], noT T H, fun _ => none, _, rs, ?_, e, fun v B' H' _ S => ?_⟩
  · refine ⟨noT_ex, fun _ _ z => (nomatch z), fun _ _ z => (nomatch z), fun _ _ z => out z (fun ps z => (nomatch z)), rfl, fun i r h => ?_, fun i r v a h1 h2 h3 => ?_, fun i j r q v u b n h1 h2 h3 h4 h5 h6 => ?_, ⟨fun _ _ z => (nomatch z), fun p hp => ⟨if_pos ⟨p, hp, rfl⟩, #[], hT p hp, trivial, fun pos cv hc => ?_⟩⟩⟩
    · cases i with
      | zero =>
        simp at h; subst h
        exact ⟨_, rfl, by show Rep T (noT T H) (.lst _) _; unfold Rep; exact ⟨a, _, rfl, hS2, reps_ints ns⟩⟩
      | succ i => simp at h
    · cases i with
      | zero => simp at h1; subst h1; exact h3.elim
      | succ i => simp at h1
    · cases i with
      | zero => simp at h1; subst h1; exact h5.elim
      | succ i => simp at h1
    · have z : codeAmong pos [] = some cv := hc
      simp [codeAmong] at z
  · have := S.rel 0 _ rfl
    obtain ⟨u, hu, r⟩ := this
    cases hu
    exact rep_bl (T := T) (B := B') r
theorem law_callR {P : Program} {w : World} {K : PySem.W.Frag} {mg mb : Str → Option Value} {CX : CXT} {k : Nat} {fa a : Addr} {fd : FuncData} {x : Str} {sp : Sp} {s₁ : Shared} {vs : List Value} {ns : List Int}
    (KX : K.In s₁.heap) (hns : s₁.heap.Ns mainGlobals mg) (hb : s₁.heap.Ns builtinsNs mb) (hbb : ∀ x : Str, x ≠ "__name__" → mb x = bootBuiltins x) (hlim : s₁.heap.NoLimit) (hg : s₁.gens = #[])
    (ha : s₁.heap.get? a = some { cls := .type "list", data := .seq vs.toArray }) (hi : IntsAre vs ns) (hl : ns.length ≤ sizeLine) (hr : Room k callerA)
    (F : ∀ base : Heap, K.In base → base.Ns mainGlobals mg → FnOk P w K mg base CX k fa fd [x] sp) (hbind : ∀ (s : Shared) (u : Value), BindsTo s fd ⟨[u], []⟩ [(x, u)])
    (hsp : ∀ H : Hp, Only H → SqL K H a (ns.map V.int) → sp [.ref a] H (fun v _ => v = .bl true) fun _ _ _ => False)
    (hCX : ∀ H e s', CX [] H s₁ (fun _ _ _ => False) e s' → False) :
    codeAny (model P w) callerA (.call (.ref fa) ⟨[.ref a], []⟩) (fun r s' => r = .ok (.ret (.bool true)) ∧ OldK s₁.heap s'.heap ∧ s'.os = s₁.os ∧ AllBare s'.gens) s₁ := by
  let ob : Obj := { cls := .type "list", data := .seq vs.toArray }
  have one : ∀ H : Hp, Only H → SqL K H a (ns.map V.int) → HOk P w H s₁.heap → (∀ b u, H b = some u → b = a ∧ K.lookup a = none) →
      codeAny (model P w) callerA (.call (.ref fa) ⟨[.ref a], []⟩) (fun r s' => r = .ok (.ret (.bool true)) ∧ OldK s₁.heap s'.heap ∧ s'.os = s₁.os ∧ AllBare s'.gens) s₁ := by
    intro H hO hS hok hA
    have nd : ∀ {b : Addr} {o : Obj} {es : Array DictEntry} {ep : Nat}, s₁.heap.get? b = some o → o.data = .dict es ep → H b = none := fun {b o es ep} e d => by
      cases q : H b with
      | none => rfl
      | some u =>
        obtain ⟨rfl, _⟩ := hA b u q
        rw [ha] at e; cases e; cases d
    have nsK : ∀ {b : Addr} {m : Str → Option Value}, s₁.heap.Ns b m → (hidT s₁.heap H).Ns b m := fun {b m} ⟨o, es, ep, e, d, r⟩ => ⟨o, es, ep, hidT_get e (nd e d), d, r⟩
    have hKb : K.In (hidT s₁.heap H) := fun b o e => hidT_get (KX b o e) (by
      cases q : H b with
      | none => rfl
      | some u =>
        obtain ⟨rfl, z⟩ := hA b u q
        rw [z] at e; cases e)
    have hM : Mod K mg (hidT s₁.heap H) := ⟨hKb, nsK hns, ⟨mb, nsK hb, hbb⟩, let ⟨mc, h1, h2⟩ := hlim; ⟨mc, nsK h1, h2⟩⟩
    have e0 : Env0 P w K mg (hidT s₁.heap H) callerA [] s₁ H := ⟨rfl, hM, fun b o e => of_hidT e, Nat.le_of_eq (hidT_size _ _), trivial, fun b hb => absurd (show b ∈ ([] : List Addr) from hb) (by simp), hok, .of_eq hg⟩
    refine codeAny_mono ((F _ hKb (nsK hns)).run callerA [] s₁ H ⟨[.ref a], []⟩ [.ref a] [.ref a] _ _ hr e0 (hbind s₁ (.ref a)) (.cons rfl .nil) (hsp H hO hS)) fun r s' h => ?_
    cases r with
    | error e => exact (hCX H e s' h).elim
    | ok fl =>
      cases fl with
      | next => exact False.elim h
      | brk => exact False.elim h
      | cont => exact False.elim h
      | ret u =>
        obtain ⟨v, H', os, bare, un, hok', r', q⟩ := h
        have q' : v = .bl true := q
        subst q'
        obtain rfl : u = Value.bool true := r'
        refine ⟨rfl, OldK.of_keep fun b o e => ?_, os, bare⟩
        rcases hO b with z | ⟨o2, xs, z⟩
        · exact un.keep b o e z (by intro z; exact absurd (show b ∈ ([] : List Addr) from z) (by simp)) (by simp)
        · obtain ⟨e1, _⟩ := hok b _ z
          obtain ⟨e2, _⟩ := hok' b _ (un.frzs b o2 _ z)
          rw [e] at e1; cases e1
          exact e2
  have rv := vals_ints hi
  cases hk : K.lookup a with
  | some o =>
    have e := KX a o hk
    rw [ha] at e
    cases e
    exact one (fun _ => none) (fun _ => .inl rfl) (.inr ⟨_, vs.toArray, _, hk, rfl, rfl, rfl, by rw [List.size_toArray, hi.length]; exact hl, by simpa using rv⟩) (fun b u z => by cases z) fun b u z => by cases z
  | none =>
    let H : Hp := fun b => if b = a then some (.frz ob (.lst (ns.map V.int))) else none
    have hH : ∀ b u, H b = some u → b = a ∧ u = .frz ob (.lst (ns.map V.int)) := fun b u z => by
      by_cases hb : b = a
      · exact ⟨hb, Option.some.inj (z.symm.trans (if_pos hb))⟩
      · exact absurd ((if_neg hb).symm.trans z) (by simp)
    refine one H (fun b => ?_) (.inl (.inr ⟨ob, if_pos rfl⟩)) (fun b u z => ?_) fun b u z => ⟨(hH b u z).1, hk⟩
    · by_cases hb : b = a
      · exact .inr ⟨_, _, if_pos hb⟩
      · exact .inl (if_neg hb)
    · obtain ⟨rfl, rfl⟩ := hH b u z
      exact ⟨ha, by rw [List.length_map]; exact hl, vs, _, rv, ha⟩
theorem walk_ofW {l : PySem.W.OpenLaw} {k : Nat} {q : Program} {loose : List Str} {XP : (Str → Option Value) → Heap → Prop} {YP : World → Heap → Prop} {d : DefRec} {x : Str}
    (hn : l.most = some 63) (hdf : d.params.defaults = []) (hr : Room k callerA)
    (F : ∀ (w : World) (mg : Str → Option Value) (fa : Addr) (h : Heap), YP w h → h.Ns mainGlobals mg → mg d.name = some (.ref fa) →
      ∃ (T : Tab) (fd : FuncData) (F : Fn), T.tt = [] ∧ T.K.In h ∧ (∀ (s : Shared) (u : Value), BindsTo s fd ⟨[u], []⟩ [(x, u)]) ∧ LawDoes F ∧
        ∀ base : Heap, T.K.In base → base.Ns mainGlobals mg → FnOk l.prog w T.K mg base (L2.CX l.prog w) k fa fd [x] (sp T 1 F)) :
    PySem.W.WalkO q loose XP YP l.row.toRowW d [] (fun f vs => PySem.call f vs) := by
  refine Att.attach_call hn hdf fun w s₀ s₁ mg mb fa o pm cd doc a vs ns G Y ho hd hcd hmg hobj hints hlen hg => ?_
  obtain ⟨T, fd, F0, tt, KX, hb, hL, hF⟩ := F w mg fa _ Y G.T.g hmg
  exact law_callR KX G.T.g G.T.b G.T.builtins G.T.nolimit hg hobj hints (Nat.le_trans hlen (by decide)) hr hF hb (fun H hO hS => law_sp hL hlen (by rw [tt]; intro p hp; cases hp) hS) fun H e s' h => by
    obtain ⟨_, _, _, _, _, _, _, _, _, _, _, _, z⟩ := h
    exact z.elim
section
variable {K : PySem.W.Frag} {h : Heap} {mg : Str → Option Value}
end
end Fz
set_option Elab.async false
set_option linter.all false
set_option maxRecDepth 100000
set_option maxHeartbeats 2000000
namespace Fz
open PySem L2
def wp {α : Type} (m : M α) (st : Sl) (Q : Oc α → Sl → Prop) : Prop := match m st with
  | some (o, s) => Q o s
  | none => False
def ws (m : MS) (st : Sl) (Q : Fl → Sl → Prop) : Prop := match m st with
  | some (o, s) => Q o s
  | none => False
def wf (F : Fn) (rs : List R) (Q : Oc R → List R → Prop) : Prop := match F rs with
  | some (o, s) => Q o s
  | none => False
def wpe {α : Type} (m : M α) (st : Sl) (Q : Oc α → Sl → Prop) : Prop := wp m st Q
def wse (m : MS) (st : Sl) (Q : Fl → Sl → Prop) : Prop := ws m st Q
def wo {α : Type} (o : Option α) (k : α → Prop) : Prop := ∃ a, o = some a ∧ k a
def wb (b : Bool) (p q : Prop) : Prop := if b = true then p else q
def wa (c p : Prop) : Prop := c ∧ p
def vx {α β : Type} (Q : Oc β → Sl → Prop) (k : α → Sl → Prop) : Oc α → Sl → Prop
  | .v a, s => k a s
  | .x c, s => Q (.x c) s
def vs {α : Type} (Q : Fl → Sl → Prop) (k : α → Sl → Prop) : Oc α → Sl → Prop
  | .v a, s => k a s
  | .x c, s => Q (.x c) s
def nx (Q : Fl → Sl → Prop) (k : Sl → Prop) : Fl → Sl → Prop
  | .nx, s => k s
  | f, s => Q f s
def lp (Q : Fl → Sl → Prop) (k : Sl → Prop) : Fl → Sl → Prop
  | .nx, s => k s
  | .ct, s => k s
  | .bk, s => Q .nx s
  | f, s => Q f s
def gt : Sl → Nat → Option (Option R)
  | [], _ => none
  | a :: _, 0 => some a
  | _ :: l, i + 1 => gt l i
def stt : Sl → Nat → Option R → Sl
  | [], _, _ => []
  | _ :: l, 0, x => x :: l
  | a :: l, i + 1, x => a :: stt l i x
theorem gt_eq : ∀ (s : Sl) (i : Nat), s[i]? = gt s i
  | [], _ => by simp [gt]
  | a :: _, 0 => rfl
  | _ :: l, i + 1 => by simp [gt, gt_eq l i]
theorem stt_eq : ∀ (s : Sl) (i : Nat) (x : Option R), s.set i x = stt s i x
  | [], _, _ => rfl
  | a :: _, 0, _ => rfl
  | a :: l, i + 1, x => by rw [List.set_cons_succ, stt_eq l i]; rfl
def vr (o : Option (Option R)) (i : Nat) (st : Sl) (Q : Oc D → Sl → Prop) : Prop := match o with
  | some (some (.d x)) => Q (.v x) st
  | some (some (.ol xs)) => Q (.v (.lst xs)) (stt st i (some (.d (.lst xs))))
  | some (some (.od ks vs)) => Q (.v (.dct ks vs)) (stt st i (some (.d (.dct ks vs))))
  | _ => False
section
variable {α β : Type} {st s : Sl} {Q : Oc D → Sl → Prop} {QR : Oc R → Sl → Prop} {QB : Oc Bool → Sl → Prop} {QL : Oc (List D) → Sl → Prop} {QA : Oc (List Arg) → Sl → Prop} {QS : Fl → Sl → Prop} {fa fb fc : M D} {fs : M (List D)} {r : M R}
-- ends
theorem vs_v {k : α → Sl → Prop} {a : α} : vs QS k (.v a) s = k a s := rfl
theorem lp_nx {k : Sl → Prop} : lp QS k .nx s = k s := rfl
theorem lp_rt {k : Sl → Prop} {v : R} : lp QS k (.rt v) s = QS (.rt v) s := rfl
theorem lp_bk {k : Sl → Prop} : lp QS k .bk s = QS .nx s := rfl
theorem lp_ct {k : Sl → Prop} : lp QS k .ct s = k s := rfl
theorem lp_x {k : Sl → Prop} {c : Nat} : lp QS k (.x c) s = QS (.x c) s := rfl
theorem wo_some {k : α → Prop} {a : α} : wo (some a) k = k a := propext ⟨fun ⟨_, e, h⟩ => by cases e; exact h, fun h => ⟨_, rfl, h⟩⟩
theorem wo_none {k : α → Prop} : wo (none : Option α) k = False := propext ⟨fun ⟨_, e, h⟩ => (nomatch e), fun h => h.elim⟩
theorem wo_if {c : Prop} [Decidable c] {k : α → Prop} {a : α} : wo (if c then some a else none) k = wa c (k a) := by
  refine propext ⟨fun ⟨_, e, h⟩ => ?_, fun h => ⟨_, if_pos h.1, h.2⟩⟩
  split at e
  · rename_i hc; cases e; exact ⟨hc, h⟩
  · cases e
theorem wb_t {p q : Prop} : wb true p q = p := rfl
theorem wb_f {p q : Prop} : wb false p q = q := by unfold wb; simp
theorem wb_of {b : Bool} {p q : Prop} (h1 : b = true → p) (h2 : b = false → q) : wb b p q := by
  cases b with
  | true => exact h1 rfl
  | false => rw [wb_f]; exact h2 rfl
theorem wa_t {p : Prop} : wa True p = p := by unfold wa; simp
theorem wf_of {F : Fn} {rs rs' : List R} {o : Oc R} {Q : Oc R → List R → Prop} (h : F rs = some (o, rs')) : wf F rs Q = Q o rs' := by unfold wf; rw [h]
theorem wf_get {F : Fn} {rs : List R} {Q : Oc R → List R → Prop} (h : wf F rs Q) : ∃ o rs', F rs = some (o, rs') ∧ Q o rs' := by
  unfold wf at h
  split at h
  · rename_i o s e; exact ⟨o, s, e, h⟩
  · exact h.elim
theorem wf_eq {F : Fn} {rs rs' : List R} {o : Oc R} (h : wf F rs (fun p q => p = o ∧ q = rs')) : F rs = some (o, rs') := by
  obtain ⟨p, q, e, rfl, rfl⟩ := wf_get h
  exact e
theorem wpe_eq {m : M α} {Q : Oc α → Sl → Prop} : wpe m st Q = wp m st Q := rfl
theorem wse_eq {m : MS} : wse m st QS = ws m st QS := rfl
-- terms
theorem wp_ret {a : α} {Q : Oc α → Sl → Prop} : wp (ret a) st Q = Q (.v a) st := rfl
theorem wp_bnd {m : M α} {k : α → M β} {Q : Oc β → Sl → Prop} : wp (bnd m k) st Q = wp m st (vx Q fun a s => wp (k a) s Q) := by
  unfold wp bnd
  cases m st with
  | none => rfl
  | some p => obtain ⟨o, s⟩ := p; cases o <;> rfl
theorem wp_opt {o : Option α} {Q : Oc α → Sl → Prop} : wp (opt o) st Q = wo o fun a => Q (.v a) st := by
  unfold wp opt
  cases o with
  | none => rw [wo_none]
  | some a => rw [wo_some]
theorem wp_eUn {g : D → Option D} : wp (eUn g fa) st Q = wp fa st (vx Q fun x s => wo (g x) fun z => Q (.v z) s) := by
  unfold eUn; rw [wp_bnd]; simp only [wp_opt]
theorem wp_eBin {g : D → D → Option D} : wp (eBin g fa fb) st Q = wp fa st (vx Q fun x s => wp fb s (vx Q fun y s => wo (g x y) fun z => Q (.v z) s)) := by
  unfold eBin; rw [wp_bnd]; simp only [wp_bnd, wp_opt]
theorem wp_eCons {fr : M (List D)} : wp (eCons fa fr) st QL = wp fa st (vx QL fun x s => wp fr s (vx QL fun xs s => QL (.v (x :: xs)) s)) := by
  unfold eCons; rw [wp_bnd]; simp only [wp_bnd, wp_ret]
theorem wp_eOp {g : List D → Option D} : wp (eOp g fs) st Q = wp fs st (vx Q fun x s => wo (g x) fun z => Q (.v z) s) := by
  unfold eOp; rw [wp_bnd]; simp only [wp_opt]
theorem wp_eTup : wp (eTup fs) st Q = wp fs st (vx Q fun x s => wa (x.length ≤ sizeLine) (Q (.v (.tup x)) s)) := by
  unfold eTup; rw [wp_bnd]; simp only [wp_opt, wo_if]
theorem wp_rD : wp (rD fa) st QR = wp fa st (vx QR fun x s => QR (.v (.d x)) s) := by unfold rD; rw [wp_bnd]; rfl
theorem wp_rOp {g : List D → Option (List D)} : wp (rOp g fs) st QR = wp fs st (vx QR fun x s => wo (g x) fun z => QR (.v (.ol z)) s) := by
  unfold rOp; rw [wp_bnd]; simp only [wp_opt]
  congr 1; congr 1; funext x s
  cases g x with
  | none => (simp only [Option.map_none]; rw [wo_none, wo_none])
  | some z => (simp only [Option.map_some]; rw [wo_some, wo_some])
theorem wp_rLst : wp (rLst fs) st QR = wp fs st (vx QR fun x s => wa (x.length ≤ sizeLine) (QR (.v (.ol x)) s)) := by
  unfold rLst; rw [wp_bnd]; simp only [wp_opt, wo_if]
theorem wp_eFz {n : Nat → Nat} : wp (eFz n r) st Q = wp r st (vx Q fun x s => wa (wholeB n x = true) (Q (.v (vw x)) s)) := by
  unfold eFz; rw [wp_bnd]; simp only [wp_opt, wo_if]
theorem wp_eVar {i : Nat} : wp (eVar i) st Q = vr (gt st i) i st Q := by
  unfold wp eVar vr
  rw [gt_eq]
  cases gt st i with
  | none => rfl
  | some o => cases o with
    | none => rfl
    | some r => cases r <;> first | rfl | (simp only [stt_eq])
theorem vr_d {i : Nat} {x : D} : vr (some (some (.d x))) i st Q = Q (.v x) st := rfl
theorem vr_ol {i : Nat} {xs : List D} : vr (some (some (.ol xs))) i st Q = Q (.v (.lst xs)) (stt st i (some (.d (.lst xs)))) := rfl
theorem vr_od {i : Nat} {ks vs : List D} : vr (some (some (.od ks vs))) i st Q = Q (.v (.dct ks vs)) (stt st i (some (.d (.dct ks vs)))) := rfl
theorem gt_0 {a : Option R} {l : Sl} : gt (a :: l) 0 = some a := rfl
theorem gt_s {a : Option R} {l : Sl} {i : Nat} : gt (a :: l) (i + 1) = gt l i := rfl
theorem stt_0 {a x : Option R} {l : Sl} : stt (a :: l) 0 x = x :: l := rfl
theorem stt_s {a x : Option R} {l : Sl} {i : Nat} : stt (a :: l) (i + 1) x = a :: stt l i x := rfl
def fx {α : Type} (Q : Oc α → Sl → Prop) (st : Sl) (k : α → Prop) : Oc α → Sl → Prop
  | .v x, _ => k x
  | .x c, _ => Q (.x c) st
theorem wp_eFull {n : Nat → Nat} : wp (eFull n fa) st Q = wpe fa (vwN n st) (fx Q st fun x => wa (imm x = true) (Q (.v x) st)) := by
  unfold wpe wp eFull
  cases fa (vwN n st) with
  | none => rfl
  | some p =>
    obtain ⟨o, s⟩ := p
    cases o with
    | v x =>
      simp only [fx, wa]
      cases imm x <;> simp
    | x c => rfl
theorem wp_tFull {n : Nat → Nat} {f : M Bool} : wp (tFull n f) st QB = wpe f (vwN n st) (fx QB st fun x => QB (.v x) st) := by
  unfold wpe wp tFull
  cases f (vwN n st) with
  | none => rfl
  | some p => obtain ⟨o, s⟩ := p; cases o <;> rfl
def rfx (Q : Oc R → Sl → Prop) (st : Sl) : Oc R → Sl → Prop
  | .v (.ol xs), _ => wa (imms xs = true) (Q (.v (.ol xs)) st)
  | .v (.d x), _ => wa (imm x = true) (Q (.v (.d x)) st)
  | .x c, _ => Q (.x c) st
  | _, _ => False
theorem rfx_x {c : Nat} : rfx QR st (.x c) s = QR (.x c) st := rfl
theorem wp_rFull {n : Nat → Nat} : wp (rFull n r) st QR = wpe r (vwN n st) (rfx QR st) := by
  unfold wpe wp rFull
  cases r (vwN n st) with
  | none => rfl
  | some p =>
    obtain ⟨o, s⟩ := p
    cases o with
    | v x =>
      cases x with
      | d x =>
        simp only [rfx, wa]
        cases imm x <;> simp
      | ol xs =>
        simp only [rfx, wa]
        cases imms xs <;> simp
      | _ => rfl
    | x c => rfl
theorem vwN_nil {n : Nat → Nat} : vwN n [] = [] := rfl
theorem vwN_d {n : Nat → Nat} {x : D} {l : Sl} : vwN n (some (.d x) :: l) = some (.d x) :: vwN n l := rfl
theorem vwN_ol {n : Nat → Nat} {x : List D} {l : Sl} : vwN n (some (.ol x) :: l) = some (.d (.lst x)) :: vwN n l := rfl
theorem vwN_od {n : Nat → Nat} {x y : List D} {l : Sl} : vwN n (some (.od x y) :: l) = some (.d (.dct x y)) :: vwN n l := rfl
theorem vwN_no {n : Nat → Nat} {l : Sl} : vwN n (none :: l) = none :: vwN n l := rfl
theorem vwN_oi {n : Nat → Nat} {c : Nat} {x : List D} {l : Sl} : vwN n (some (.oi c x) :: l) = (if (x.length == n c) = true then some (.d (.obj c x)) else none) :: vwN n l := rfl
-- tests
def tb (o : D) (k : Bool → Prop) : Prop := match o with
  | .bl b => k b
  | _ => False
theorem wp_eTst : wp (eTst fa) st QB = wp fa st (vx QB fun x s => tb x fun b => QB (.v b) s) := by
  unfold eTst; rw [wp_bnd]; simp only [wp_opt]
  congr 1; congr 1; funext x s
  cases x <;> first | exact wo_none | exact wo_some
theorem wp_eNot : wp (eNot fa) st Q = wp fa st (vx Q fun x s => tb x fun b => Q (.v (.bl !b)) s) := by
  unfold eNot; rw [wp_bnd]; simp only [wp_opt]
  congr 1; congr 1; funext x s
  cases x <;> first | exact wo_none | exact wo_some
theorem wp_cAnd {f g : M Bool} : wp (cAnd f g) st QB = wp f st (vx QB fun b s => wb b (wp g s QB) (QB (.v false) s)) := by
  unfold cAnd; rw [wp_bnd]; congr 1; congr 1; funext b s; cases b <;> simp [wb, wp_ret]
theorem wp_cOr {f g : M Bool} : wp (cOr f g) st QB = wp f st (vx QB fun b s => wb b (QB (.v true) s) (wp g s QB)) := by
  unfold cOr; rw [wp_bnd]; congr 1; congr 1; funext b s; cases b <;> simp [wb, wp_ret]
theorem wp_cNot {f : M Bool} : wp (cNot f) st QB = wp f st (vx QB fun b s => QB (.v !b) s) := by unfold cNot; rw [wp_bnd]; rfl
theorem wp_eAnd : wp (eAnd fa fb) st Q = wp fa st (vx Q fun x s => tb x fun b => wb b (wp fb s Q) (Q (.v (.bl false)) s)) := by
  unfold eAnd; rw [wp_bnd]; congr 1; congr 1; funext x s
  cases x <;> first | rfl | (rename_i b; cases b <;> simp [wb, tb, wp_ret])
theorem wp_eOr : wp (eOr fa fb) st Q = wp fa st (vx Q fun x s => tb x fun b => wb b (Q (.v (.bl true)) s) (wp fb s Q)) := by
  unfold eOr; rw [wp_bnd]; congr 1; congr 1; funext x s
  cases x <;> first | rfl | (rename_i b; cases b <;> simp [wb, tb, wp_ret])
theorem wp_eChain {g g' : D → D → Option D} : wp (eChain g g' fa fb fc) st Q = wp fa st (vx Q fun x s => wp fb s (vx Q fun y s => wo (g x y) fun z => tb z fun b => wb b (wp fc s (vx Q fun w s => wo (g' y w) fun z => Q (.v z) s)) (Q (.v (.bl false)) s))) := by
  unfold eChain; rw [wp_bnd]; congr 1; congr 1; funext x s; rw [wp_bnd]; congr 1; congr 1; funext y s; rw [wp_bnd, wp_opt]
  cases g x y with
  | none => rw [wo_none, wo_none]
  | some z =>
    rw [wo_some, wo_some]
    show wp _ s Q = _
    cases z <;> first | rfl | (rename_i b; cases b <;> simp [wb, tb, wp_ret, wp_bnd, wp_opt])
theorem wp_eIf {c : M Bool} {p q : M D} : wp (eIf c p q) st Q = wp c st (vx Q fun b s => wb b (wp p s Q) (wp q s Q)) := by
  unfold eIf; rw [wp_bnd]; congr 1; congr 1; funext b s; cases b <;> simp [wb]
theorem wp_rIf {c : M Bool} {p q : M R} : wp (rIf c p q) st QR = wp c st (vx QR fun b s => wb b (wp p s QR) (wp q s QR)) := by
  unfold rIf; rw [wp_bnd]; congr 1; congr 1; funext b s; cases b <;> simp [wb]
-- slices
def ti (o : D) (k : Int → Prop) : Prop := match o with
  | .int b => k b
  | _ => False
theorem ti_int {b : Int} {k : Int → Prop} : ti (.int b) k = k b := rfl
theorem wp_oSome {QO : Oc (Option Int) → Sl → Prop} : wp (oSome fa) st QO = wp fa st (vx QO fun x s => ti x fun i => QO (.v (some i)) s) := by
  unfold oSome; rw [wp_bnd]; simp only [wp_opt]
  congr 1; congr 1; funext x s
  cases x <;> first | exact wo_none | exact wo_some
theorem wp_eSl {lo hi : M (Option Int)} : wp (eSl fa lo hi) st Q = wp fa st (vx Q fun x s => wp lo s (vx Q fun l s => wp hi s (vx Q fun h s => wo (dSl x l h) fun z => Q (.v z) s))) := by
  unfold eSl; rw [wp_bnd]; simp only [wp_bnd, wp_opt]
def tl (o : D) (k : List D → Prop) : Prop := match o with
  | .lst b => k b
  | _ => False
theorem tl_l {b : List D} {k : List D → Prop} : tl (.lst b) k = k b := rfl
theorem wp_rSlL' {lo hi : M (Option Int)} : wp (rSlL' fa lo hi) st QR = wp fa st (vx QR fun x s => wp lo s (vx QR fun l s => wp hi s (vx QR fun h s => tl x fun xs => QR (.v (.ol (cutD xs l h))) s))) := by
  unfold rSlL'; rw [wp_bnd]; simp only [wp_bnd, wp_opt]
  congr 1; congr 1; funext x s; congr 1; congr 1; funext l s; congr 1; congr 1; funext h s
  cases x <;> first | exact wo_none | exact wo_some
-- methods of data
theorem wp_eMt {ty : String} {g : D → List D → Option D} : wp (eMt ty g fa fs) st Q = wp fa st (vx Q fun x s => wa (tyOk ty x = true) (wp fs s (vx Q fun xs s => wo (g x xs) fun z => Q (.v z) s))) := by
  unfold eMt; rw [wp_bnd]; congr 1; congr 1; funext x s
  unfold wa
  cases tyOk ty x with
  | false => simp [wp]
  | true => simp [wp_bnd, wp_opt]
theorem wp_rMt {ty : String} {g : D → List D → Option (List D)} : wp (rMt ty g fa fs) st QR = wp fa st (vx QR fun x s => wa (tyOk ty x = true) (wp fs s (vx QR fun xs s => wo (g x xs) fun z => QR (.v (.ol z)) s))) := by
  unfold rMt; rw [wp_bnd]; congr 1; congr 1; funext x s
  unfold wa
  cases tyOk ty x with
  | false => simp [wp]
  | true =>
    simp only [if_true, wp_bnd, wp_opt, true_and]
    congr 1; congr 1; funext y s
    cases g x y with
    | none => (simp only [Option.map_none]; rw [wo_none, wo_none])
    | some z => (simp only [Option.map_some]; rw [wo_some, wo_some])
theorem wp_rBin {g : D → D → Option (List D)} : wp (rBin g fa fb) st QR = wp fa st (vx QR fun x s => wp fb s (vx QR fun y s => wo (g x y) fun z => QR (.v (.ol z)) s)) := by
  unfold rBin; rw [wp_bnd]; simp only [wp_bnd, wp_opt]
  congr 1; congr 1; funext x s; congr 1; congr 1; funext y s
  cases g x y with
  | none => (simp only [Option.map_none]; rw [wo_none, wo_none])
  | some z => (simp only [Option.map_some]; rw [wo_some, wo_some])
def mv (o : Option (Option R)) (i : Nat) (st : Sl) (Q : Oc R → Sl → Prop) : Prop := match o with
  | some (some r) => Q (.v r) (stt st i none)
  | _ => False
theorem mv_s {i : Nat} {x : R} : mv (some (some x)) i st QR = QR (.v x) (stt st i none) := rfl
theorem wp_rMv {i : Nat} : wp (rMv i) st QR = mv (gt st i) i st QR := by
  unfold wp rMv mv
  rw [gt_eq]
  cases gt st i with
  | none => rfl
  | some o => cases o <;> first | rfl | (simp only [stt_eq])
-- what is walked
theorem wp_iLst : wp (iLst fa) st QL = wp fa st (vx QL fun x s => tl x fun xs => QL (.v xs) s) := by
  unfold iLst; rw [wp_bnd]; simp only [wp_opt]
  congr 1; congr 1; funext x s
  cases x <;> first | exact wo_none | exact wo_some
def tt (o : D) (k : List D → Prop) : Prop := match o with
  | .tup b => k b
  | _ => False
theorem tt_t {b : List D} {k : List D → Prop} : tt (.tup b) k = k b := rfl
theorem wp_iTupl : wp (iTupl fa) st QL = wp fa st (vx QL fun x s => tt x fun xs => QL (.v xs) s) := by
  unfold iTupl; rw [wp_bnd]; simp only [wp_opt]
  congr 1; congr 1; funext x s
  cases x <;> first | exact wo_none | exact wo_some
def tq (o : D) (k : List D → Prop) : Prop := match o with
  | .tup b => k b
  | .lst b => k b
  | _ => False
theorem tq_t {b : List D} {k : List D → Prop} : tq (.tup b) k = k b := rfl
theorem tq_l {b : List D} {k : List D → Prop} : tq (.lst b) k = k b := rfl
theorem wp_iSeq : wp (iSeq fa) st QL = wp fa st (vx QL fun x s => tq x fun xs => QL (.v xs) s) := by
  unfold iSeq; rw [wp_bnd]; simp only [wp_opt]
  congr 1; congr 1; funext x s
  cases x <;> first | exact wo_none | exact wo_some
def tx (o : D) (k : Str → Prop) : Prop := match o with
  | .str b => k b
  | _ => False
theorem tx_s {b : Str} {k : Str → Prop} : tx (.str b) k = k b := rfl
theorem wp_iText : wp (iText fa) st QL = wp fa st (vx QL fun x s => tx x fun z => QL (.v (sgnD z)) s) := by
  unfold iText; rw [wp_bnd]; simp only [wp_opt]
  congr 1; congr 1; funext x s
  cases x <;> first | exact wo_none | exact wo_some
def dR1 : List D → Option (List D)
  | [.int j] => if smallI j then some (rngD 0 j.toNat) else none
  | _ => none
theorem dR1_i {j : Int} : dR1 [.int j] = if smallI j then some (rngD 0 j.toNat) else none := rfl
theorem wp_iR1 : wp (iR1 fs) st QL = wp fs st (vx QL fun x s => wo (dR1 x) fun z => QL (.v z) s) := by
  unfold iR1; rw [wp_bnd]; simp only [wp_opt]; rfl
def dR2 : List D → Option (List D)
  | [.int i, .int j] => if smallI i && smallI j then some (rngD i (j - i).toNat) else none
  | _ => none
theorem dR2_i {i j : Int} : dR2 [.int i, .int j] = if smallI i && smallI j then some (rngD i (j - i).toNat) else none := rfl
theorem wp_iR2 : wp (iR2 fs) st QL = wp fs st (vx QL fun x s => wo (dR2 x) fun z => QL (.v z) s) := by
  unfold iR2; rw [wp_bnd]; simp only [wp_opt]; rfl
def dEn : List D → Option (List D)
  | [.lst xs] => some (enumD 0 xs)
  | _ => none
theorem dEn_i {j : List D} : dEn [.lst j] = some (enumD 0 j) := rfl
theorem wp_iEn : wp (iEn fs) st QL = wp fs st (vx QL fun x s => wo (dEn x) fun z => QL (.v z) s) := by
  unfold iEn; rw [wp_bnd]; simp only [wp_opt]; rfl
-- calls
theorem wp_aV {fr : M (List Arg)} : wp (aV fa fr) st QA = wp fa st (vx QA fun x s => wp fr s (vx QA fun xs s => QA (.v (.v x :: xs)) s)) := by
  unfold aV; rw [wp_bnd]; simp only [wp_bnd, wp_ret]
def isR (o : Option (Option R)) (p : Prop) : Prop := match o with
  | some (some _) => p
  | _ => False
theorem isR_s {x : R} {p : Prop} : isR (some (some x)) p = p := rfl
theorem wp_aO {i : Nat} {fr : M (List Arg)} : wp (aO i fr) st QA = isR (gt st i) (wp fr st (vx QA fun xs s => QA (.v (.o i :: xs)) s)) := by
  rw [← gt_eq]
  unfold aO isR
  cases h : st[i]? with
  | none => simp only [wp, h]
  | some o => cases o with
    | none => simp only [wp, h]
    | some r =>
      have e : wp (bnd fr fun xs => ret (.o i :: xs)) st QA = wp fr st (vx QA fun xs s => QA (.v (.o i :: xs)) s) := by rw [wp_bnd]; rfl
      rw [← e]
      simp only [wp, h]
def gA : List Arg → Sl → Option (List R)
  | [], _ => some []
  | .v x :: as, st => (gA as st).map (.d x :: ·)
  | .o i :: as, st => match gt st i, gA as st with
    | some (some r), some rs => some (r :: rs)
    | _, _ => none
theorem gA_eq : ∀ (as : List Arg) (st : Sl), getA as st = gA as st
  | [], _ => rfl
  | .v x :: as, st => by unfold getA gA; rw [gA_eq as st]
  | .o i :: as, st => by
    unfold getA gA; rw [gA_eq as st, gt_eq]
    try (cases gt st i with
      | none => rfl
      | some o => cases o <;> rfl)
def pA : List Arg → List R → Sl → Sl
  | .o i :: as, r :: rs, st => pA as rs (stt st i (some r))
  | .v _ :: as, _ :: rs, st => pA as rs st
  | _, _, st => st
theorem pA_eq : ∀ (as : List Arg) (rs : List R) (st : Sl), putA as rs st = pA as rs st
  | .o i :: as, r :: rs, st => by unfold putA pA; rw [pA_eq as rs, stt_eq]
  | .v _ :: as, _ :: rs, st => by unfold putA pA; rw [pA_eq as rs]
  | [], _, st => by unfold putA pA; rfl
  | .o i :: as, [], st => rfl
  | .v i :: as, [], st => rfl
theorem wp_callF {F : Fn} {as : List Arg} : wp (callF F as) st QR = wo (gA as st) fun rs => wa ((owns as).Nodup) (wf F rs fun o rs' => wa (rs'.length = rs.length) (QR o (pA as rs' st))) := by
  unfold wp callF wf
  rw [gA_eq]
  cases gA as st with
  | none => rw [wo_none]
  | some rs =>
    rw [wo_some]
    unfold wa
    by_cases h : (owns as).Nodup
    · simp only [h, if_true, true_and]
      cases F rs with
      | none => rfl
      | some p =>
        obtain ⟨o, rs'⟩ := p
        by_cases h2 : rs'.length = rs.length
        · simp only [h2, if_true, true_and, pA_eq]
        · simp only [h2, if_false, false_and]
    · simp only [h, if_false, false_and]
theorem wp_rCall {n : Nat} {F : Fn} {ds : List D} {fl : M (List Arg)} : wp (rCall n F ds fl) st QR = wp fl st (vx QR fun as s => wa (as.length + ds.length = n) (wp (callF F (as ++ ds.map Arg.v)) s QR)) := by
  unfold rCall; rw [wp_bnd]; congr 1; congr 1; funext as s
  unfold wa
  by_cases h : as.length + ds.length = n
  · simp only [h, if_true, true_and]
  · simp only [h, if_false, false_and]; rfl
def to (o : D) (k : Nat → List D → Prop) : Prop := match o with
  | .obj c b => k c b
  | _ => False
theorem to_o {c : Nat} {b : List D} {k : Nat → List D → Prop} : to (.obj c b) k = k c b := rfl
def nx0 {α β : Type} (k : α → Sl → Prop) : Oc α → Sl → Prop
  | .v a, s => k a s
  | _, _ => False
theorem nx0_v {k : α → Sl → Prop} {a : α} : nx0 (β := β) k (.v a) s = k a s := rfl
theorem wp_rMeth {n : Nat} {tab : Nat → Option Fn} {fl : M (List Arg)} : wp (rMeth n tab fa fl) st QR = wp fa st (nx0 (β := D) fun x s => to x fun c xs => wo (tab c) fun F => wp fl s (vx QR fun as s => wa (as.length + 1 = n) (wp (callF F (.v (.obj c xs) :: as)) s QR))) := by
  have gen : ∀ (F : Fn) (c : Nat) (xs : List D) (s : Sl), wp (bnd fl fun as => if as.length + 1 = n then callF F (.v (.obj c xs) :: as) else fun _ => none) s QR = wp fl s (vx QR fun as s => wa (as.length + 1 = n) (wp (callF F (.v (.obj c xs) :: as)) s QR)) := fun F c xs s => by
    rw [wp_bnd]; congr 1; congr 1; funext as s
    unfold wa
    by_cases h : as.length + 1 = n
    · simp only [h, if_true, true_and]
    · simp only [h, if_false, false_and]; rfl
  simp only [← gen]
  unfold wp rMeth
  cases fa st with
  | none => rfl
  | some p =>
    obtain ⟨o, s⟩ := p
    cases o with
    | x c => rfl
    | v x =>
      cases x with
      | obj c xs =>
        simp only [nx0_v, to_o]
        cases tab c with
        | none => rw [wo_none]
        | some F => rw [wo_some]
      | _ => rfl
-- a def
def oend (n : Nat) (kp : Nat → Bool) (rs : List R) (Q : Oc R → List R → Prop) : Fl → Sl → Prop
  | .rt r, s => wo (outs kp 0 rs s) fun qs => Q (.v r) qs
  | .nx, s => wo (outs kp 0 rs s) fun qs => Q (.v (.d .non)) qs
  | .x c, s => wo (outs kp 0 rs s) fun qs => Q (.x c) qs
  | _, _ => False
theorem wf_fnOf {n N : Nat} {kp : Nat → Bool} {body : MS} {rs : List R} {Q : Oc R → List R → Prop} : wf (fnOf n N kp body) rs Q = wa (rs.length = n) (wse body (rs.map some ++ List.replicate (N - n) none) (oend n kp rs Q)) := by
  unfold wf fnOf wse ws wa
  by_cases h : rs.length = n
  · simp only [h, if_true, true_and]
    have wm : ∀ (o : Oc R) (x : Option (List R)), (match (x.map fun qs => (o, qs)) with | some (o, s) => Q o s | none => False) = wo x fun qs => Q o qs := fun o x => by
      cases x with
      | none => rw [wo_none]; rfl
      | some a => rw [wo_some]; rfl
    cases body (rs.map some ++ List.replicate (N - n) none) with
    | none => rfl
    | some p =>
      obtain ⟨f, s⟩ := p
      cases f <;> first | rfl | exact wm _ _
  · simp only [h, if_false, false_and]
theorem outs_nil {kp : Nat → Bool} {i : Nat} {st : Sl} : outs kp i [] st = some [] := by cases st <;> rfl
def outs1 (o : Option R) (t : Option (List R)) : Option (List R) := match o, t with
  | some q, some qs => some (q :: qs)
  | _, _ => none
theorem outs1_s {a : R} {b : List R} : outs1 (some a) (some b) = some (a :: b) := rfl
theorem outs_cons {kp : Nat → Bool} {i : Nat} {a : R} {rs : List R} {b : Option R} {st : Sl} : outs kp i (a :: rs) (b :: st) = outs1 (if kp i = true then b else if isD a = true then some a else none) (outs kp (i + 1) rs st) := rfl
theorem isD_d {x : D} : isD (.d x) = true := rfl
-- rows
theorem ws_sSeq {f g : MS} : ws (sSeq f g) st QS = ws f st (nx QS fun s => ws g s QS) := by
  unfold ws sSeq
  cases f st with
  | none => rfl
  | some p => obtain ⟨o, s⟩ := p; cases o <;> rfl
theorem ws_sSet {i : Nat} {m : M R} : ws (sSet i m) st QS = wp m st (vs QS fun r s => QS .nx (stt s i (some r))) := by
  unfold ws wp sSet
  cases m st with
  | none => rfl
  | some p => obtain ⟨o, s⟩ := p; cases o <;> first | rfl | (simp only [stt_eq]; rfl)
theorem ws_sAsg {m : M D} {g : D → Sl → Option Sl} : ws (sAsg m g) st QS = wp m st (vs QS fun x s => wo (g x s) fun s => QS .nx s) := by
  unfold ws wp sAsg
  cases m st with
  | none => rfl
  | some p =>
    obtain ⟨o, s⟩ := p
    cases o with
    | x c => rfl
    | v x =>
      simp only [vs_v]
      cases g x s with
      | none => rw [wo_none]; rfl
      | some z => rw [wo_some]; rfl
theorem ws_sIf {c : M Bool} {f g : MS} : ws (sIf c f g) st QS = wp c st (vs QS fun b s => wb b (ws f s QS) (ws g s QS)) := by
  unfold ws wp sIf
  cases c st with
  | none => rfl
  | some p =>
    obtain ⟨o, s⟩ := p
    cases o with
    | x c => rfl
    | v b => cases b <;> simp [wb, vs]
theorem ws_sRet {m : M R} : ws (sRet m) st QS = wp m st (vs QS fun r s => QS (.rt r) s) := by
  unfold ws wp sRet
  cases m st with
  | none => rfl
  | some p => obtain ⟨o, s⟩ := p; cases o <;> rfl
theorem ws_sDrop {m : M R} : ws (sDrop m) st QS = wp m st (vs QS fun _ s => QS .nx s) := by
  unfold ws wp sDrop
  cases m st with
  | none => rfl
  | some p => obtain ⟨o, s⟩ := p; cases o <;> rfl
theorem ws_sFor {it : M (List D)} {g : D → Sl → Option Sl} {body : MS} : ws (sFor it g body) st QS = wp it st (vs QS fun ds s => ws (forL g body ds) s QS) := by
  unfold ws wp sFor
  cases it st with
  | none => rfl
  | some p => obtain ⟨o, s⟩ := p; cases o <;> rfl
theorem ws_forL_cons {g : D → Sl → Option Sl} {body : MS} {d : D} {ds : List D} : ws (forL g body (d :: ds)) st QS = wo (g d st) fun s => ws body s (lp QS fun s => ws (forL g body ds) s QS) := by
  unfold ws
  rw [forL.eq_2]
  cases g d st with
  | none => rw [wo_none]
  | some s1 =>
    rw [wo_some]
    simp only []
    cases body s1 with
    | none => rfl
    | some p => obtain ⟨o, s⟩ := p; cases o <;> rfl
theorem wp_sub {m : M α} {Q Q' : Oc α → Sl → Prop} (h : ∀ o s, Q o s → Q' o s) (k : wp m st Q) : wp m st Q' := by
  unfold wp at *
  split at k
  · exact h _ _ k
  · exact k.elim
theorem ws_sub {m : MS} {Q Q' : Fl → Sl → Prop} (h : ∀ o s, Q o s → Q' o s) (k : ws m st Q) : ws m st Q' := by
  unfold ws at *
  split at k
  · exact h _ _ k
  · exact k.elim
theorem ws_for {g : D → Sl → Option Sl} {body : MS} (I : List D → Sl → Prop) {ds : List D} (h0 : I ds st) (hs : ∀ d r s, I (d :: r) s → wo (g d s) fun s1 => ws body s1 (lp QS fun s2 => I r s2)) (h1 : ∀ s, I [] s → QS .nx s) : ws (forL g body ds) st QS := by
  induction ds generalizing st with
  | nil => exact h1 _ h0
  | cons d r ih =>
    rw [ws_forL_cons]
    obtain ⟨s1, e, h⟩ := hs d r st h0
    refine ⟨s1, e, ws_sub (fun o s z => ?_) h⟩
    cases o with
    | nx => exact ih z
    | ct => exact ih z
    | bk => exact z
    | rt v => exact z
    | x c => exact z
theorem ws_while0 {c : M Bool} {body : MS} {n : Nat} : ws (whileL c body (n + 1)) st QS = wp c st (vs QS fun b s => wb b (ws body s (lp QS fun s => ws (whileL c body n) s QS)) (QS .nx s)) := by
  unfold wp
  unfold ws
  rw [whileL.eq_2]
  cases c st with
  | none => rfl
  | some p =>
    obtain ⟨o, s⟩ := p
    cases o with
    | x c => rfl
    | v b =>
      cases b with
      | false => simp [wb, vs]
      | true =>
        simp only [vs_v, wb_t]
        cases body s with
        | none => rfl
        | some p => obtain ⟨o, s⟩ := p; cases o <;> rfl
theorem ws_while {c : M Bool} {body : MS} (I : Nat → Sl → Prop) {n k : Nat} (hk : k < n) (h0 : I k st) (hs : ∀ k s, I k s → wp c s (vs QS fun b s1 => wb b (ws body s1 (lp QS fun s2 => ∃ j, j < k ∧ I j s2)) (QS .nx s1))) : ws (whileL c body n) st QS := by
  induction n generalizing k st with
  | zero => omega
  | succ n ih =>
    rw [ws_while0]
    refine wp_sub (fun o s z => ?_) (hs k st h0)
    cases o with
    | x c => exact z
    | v b =>
      refine wb_of (fun hb => ?_) (fun hb => ?_)
      · subst hb
        refine ws_sub (fun o s z => ?_) z
        cases o with
        | nx => obtain ⟨j, hj, z⟩ := z; exact ih (by omega) z
        | ct => obtain ⟨j, hj, z⟩ := z; exact ih (by omega) z
        | bk => exact z
        | rt v => exact z
        | x c => exact z
      · subst hb
        have z : wb false _ (QS .nx s) := z
        rw [wb_f] at z
        exact z
-- lists that are changed
def gol (o : Option (Option R)) (k : List D → Prop) : Prop := match o with
  | some (some (.ol xs)) => k xs
  | _ => False
theorem gol_s {xs : List D} {k : List D → Prop} : gol (some (some (.ol xs))) k = k xs := rfl
theorem isL_ol {xs : List D} : isL (some (some (.ol xs))) = true := rfl
theorem isL_d {xs : List D} : isL (some (some (.d (.lst xs)))) = true := rfl
theorem ws_sApp' {i : Nat} : ws (sApp' i fa) st QS = wa (isL (gt st i) = true) (wp fa st (vs QS fun x s => gol (gt s i) fun xs => wa (xs.length < sizeLine) (QS .nx (stt s i (some (.ol (xs ++ [x]))))))) := by
  unfold ws wp sApp' sApp wa
  rw [gt_eq]
  by_cases hl : isL (gt st i) = true
  · simp only [hl, if_true, true_and]
    cases fa st with
    | none => rfl
    | some p =>
      obtain ⟨o, s⟩ := p
      cases o with
      | x c => rfl
      | v x =>
        simp only [vs_v]
        rw [gt_eq]
        cases gt s i with
        | none => rfl
        | some o =>
          cases o with
          | none => rfl
          | some r =>
            cases r <;> try rfl
            rename_i xs
            simp only [gol_s, stt_eq]
            by_cases h : xs.length < sizeLine
            · simp only [h, if_true, true_and]
            · simp only [h, if_false, false_and]
  · simp [hl]
theorem ws_sExtA {i : Nat} : ws (sExtA i fa) st QS = wa (isL (gt st i) = true) (wp fa st (vs QS fun x s => tq x fun ys => gol (gt s i) fun xs => wa (xs.length + ys.length ≤ sizeLine) (QS .nx (stt s i (some (.ol (xs ++ ys))))))) := by
  unfold ws wp sExtA wa
  rw [gt_eq]
  by_cases hl : isL (gt st i) = true
  · simp only [hl, if_true, true_and]
    cases fa st with
    | none => rfl
    | some p =>
      obtain ⟨o, s⟩ := p
      cases o with
      | x c => rfl
      | v x =>
        simp only [vs_v]
        rw [gt_eq]
        cases x <;> try rfl
        all_goals
          rename_i ys
          cases gt s i with
          | none => rfl
          | some o =>
            cases o with
            | none => rfl
            | some r =>
              cases r <;> try rfl
              rename_i xs
              simp only [tq_t, tq_l, gol_s, stt_eq]
              by_cases h : xs.length + ys.length ≤ sizeLine
              · simp only [h, if_true, true_and]
              · simp only [h, if_false, false_and]
  · simp [hl]
theorem ws_sSub {i : Nat} {mi : M D} : ws (sSub i mi fa) st QS = wp fa st (vs QS fun x s1 => wa (isL (gt s1 i) = true) (wp mi s1 (vs QS fun y s2 => ti y fun k => gol (gt s2 i) fun xs => wo (ixN xs.length k) fun j => QS .nx (stt s2 i (some (.ol (xs.set j x))))))) := by
  unfold ws wp sSub
  cases fa st with
  | none => rfl
  | some p =>
    obtain ⟨o, s⟩ := p
    cases o with
    | x c => rfl
    | v x =>
      simp only [vs_v, gt_eq, wa]
      cases mi s with
      | none => simp
      | some p =>
        obtain ⟨o, s2⟩ := p
        cases o with
        | x c => cases isL (gt s i) <;> simp [vs]
        | v y =>
          simp only [vs_v, gt_eq]
          cases y <;> try (simp [ti]; done)
          rename_i k
          simp only [ti_int]
          cases gt s2 i with
          | none => simp [gol]
          | some o =>
            cases o with
            | none => simp [gol]
            | some r =>
              cases r <;> try (simp [gol]; done)
              rename_i xs
              simp only [gol_s]
              cases ixN xs.length k with
              | none => simp [wo_none]
              | some j =>
                rw [wo_some]
                cases isL (gt s i) <;> simp [stt_eq]
-- targets
theorem gN_eq {i : Nat} {d : D} : gN i d st = some (stt st i (some (.d d))) := by unfold gN; rw [stt_eq]
theorem gT_eq {n : Nat} {g : List D → Sl → Option Sl} {ds : List D} : gT n g (.tup ds) st = if ds.length = n then g ds st else none := rfl
theorem gsN_eq : gsN [] st = some st := rfl
theorem gsC_eq {f : D → Sl → Option Sl} {g : List D → Sl → Option Sl} {d : D} {r : List D} : gsC f g (d :: r) st = (f d st).bind (g r) := rfl
theorem some_bind' {a : α} {k : α → Option β} : (some a).bind k = k a := rfl
end
end Fz
set_option Elab.async false
set_option linter.all false
set_option maxRecDepth 100000
set_option maxHeartbeats 2000000
namespace Fz
open PySem L2
def wc (c : Prop) (k : Unit → Prop) : Prop := wa c (k ())
theorem wc_t {k : Unit → Prop} : wc True k = k () := wa_t
def wd (b : Bool) (k : Bool → Prop) : Prop := k b
theorem wd_t {k : Bool → Prop} : wd true k = k true := rfl
theorem wd_f {k : Bool → Prop} : wd false k = k false := rfl
theorem wd_of {b : Bool} {k : Bool → Prop} (h1 : b = true → k true) (h2 : b = false → k false) : wd b k := by
  cases b with
  | true => exact h1 rfl
  | false => exact h2 rfl
def kU {α : Type} (k : α → Prop) (a : α) : Unit → Prop := fun _ => k a
theorem kU_a {α : Type} (k : α → Prop) (a : α) : kU k a () = k a := rfl
theorem wo_ifn {α : Type} {c : Prop} [Decidable c] {k : α → Prop} {a : α} : wo (if c then some a else none) k = wc c (kU k a) := wo_if
section
variable {α β : Type} {st s : Sl} {Q : Oc D → Sl → Prop} {QR : Oc R → Sl → Prop} {QB : Oc Bool → Sl → Prop} {QL : Oc (List D) → Sl → Prop} {QA : Oc (List Arg) → Sl → Prop} {QO : Oc (Option Int) → Sl → Prop} {QS : Fl → Sl → Prop} {fa fb fc : M D} {fs : M (List D)} {r : M R}
def kr {α : Type} (Q : Oc α → Sl → Prop) (s : Sl) : α → Prop := fun z => Q (.v z) s
theorem kr_a {α : Type} (Q : Oc α → Sl → Prop) (s : Sl) (z : α) : kr Q s z = Q (.v z) s := rfl
def krl (Q : Oc R → Sl → Prop) (s : Sl) : List D → Prop := fun z => Q (.v (.ol z)) s
theorem krl_a (Q : Oc R → Sl → Prop) (s : Sl) (z : List D) : krl Q s z = Q (.v (.ol z)) s := rfl
def ku {α : Type} (Q : Oc α → Sl → Prop) (z : α) (s : Sl) : Unit → Prop := fun _ => Q (.v z) s
theorem ku_a {α : Type} (Q : Oc α → Sl → Prop) (z : α) (s : Sl) : ku Q z s () = Q (.v z) s := rfl
theorem n_ret : ∀ {α : Type} {a : α} {st : Sl} {Q : Oc α → Sl → Prop}, wp (ret a) st Q = Q (.v a) st := rfl
theorem n_opt : ∀ {α : Type} {o : Option α} {st : Sl} {Q : Oc α → Sl → Prop}, wp (opt o) st Q = wo o (kr Q st) := wp_opt
def kUn (g : D → Option D) (Q : Oc D → Sl → Prop) : Oc (D) → Sl → Prop := vx Q fun x s => wo (g x) (kr Q s)
theorem kUn_v (g : D → Option D) (Q : Oc D → Sl → Prop) (x : D) (s : Sl) : kUn g Q (.v x) s = wo (g x) (kr Q s) := rfl
theorem kUn_x (g : D → Option D) (Q : Oc D → Sl → Prop) (c : Nat) (s : Sl) : kUn g Q (.x c) s = Q (.x c) s := rfl
theorem n_eUn : ∀ {g : D → Option D}, wp (eUn g fa) st Q = wp fa st (kUn g Q) := wp_eUn
def kBin2 (g : D → D → Option D) (x : D) (Q : Oc D → Sl → Prop) : Oc (D) → Sl → Prop := vx Q fun y s => wo (g x y) (kr Q s)
theorem kBin2_v (g : D → D → Option D) (x : D) (Q : Oc D → Sl → Prop) (y : D) (s : Sl) : kBin2 g x Q (.v y) s = wo (g x y) (kr Q s) := rfl
theorem kBin2_x (g : D → D → Option D) (x : D) (Q : Oc D → Sl → Prop) (c : Nat) (s : Sl) : kBin2 g x Q (.x c) s = Q (.x c) s := rfl
def kBin1 (g : D → D → Option D) (fb : M D) (Q : Oc D → Sl → Prop) : Oc (D) → Sl → Prop := vx Q fun x s => wp fb s (kBin2 g x Q)
theorem kBin1_v (g : D → D → Option D) (fb : M D) (Q : Oc D → Sl → Prop) (x : D) (s : Sl) : kBin1 g fb Q (.v x) s = wp fb s (kBin2 g x Q) := rfl
theorem kBin1_x (g : D → D → Option D) (fb : M D) (Q : Oc D → Sl → Prop) (c : Nat) (s : Sl) : kBin1 g fb Q (.x c) s = Q (.x c) s := rfl
theorem n_eBin : ∀ {g : D → D → Option D}, wp (eBin g fa fb) st Q = wp fa st (kBin1 g fb Q) := wp_eBin
def kCons2 (x : D) (Q : Oc (List D) → Sl → Prop) : Oc (List D) → Sl → Prop := vx Q fun xs s => Q (.v (x :: xs)) s
theorem kCons2_v (x : D) (Q : Oc (List D) → Sl → Prop) (xs : List D) (s : Sl) : kCons2 x Q (.v xs) s = Q (.v (x :: xs)) s := rfl
theorem kCons2_x (x : D) (Q : Oc (List D) → Sl → Prop) (c : Nat) (s : Sl) : kCons2 x Q (.x c) s = Q (.x c) s := rfl
def kCons1 (fr : M (List D)) (Q : Oc (List D) → Sl → Prop) : Oc (D) → Sl → Prop := vx Q fun x s => wp fr s (kCons2 x Q)
theorem kCons1_v (fr : M (List D)) (Q : Oc (List D) → Sl → Prop) (x : D) (s : Sl) : kCons1 fr Q (.v x) s = wp fr s (kCons2 x Q) := rfl
theorem kCons1_x (fr : M (List D)) (Q : Oc (List D) → Sl → Prop) (c : Nat) (s : Sl) : kCons1 fr Q (.x c) s = Q (.x c) s := rfl
theorem n_eCons : ∀ {fr : M (List D)}, wp (eCons fa fr) st QL = wp fa st (kCons1 fr QL) := wp_eCons
theorem n_eNil : wp eNil st QL = QL (.v []) st := rfl
def kOp (g : List D → Option D) (Q : Oc D → Sl → Prop) : Oc (List D) → Sl → Prop := vx Q fun x s => wo (g x) (kr Q s)
theorem kOp_v (g : List D → Option D) (Q : Oc D → Sl → Prop) (x : List D) (s : Sl) : kOp g Q (.v x) s = wo (g x) (kr Q s) := rfl
theorem kOp_x (g : List D → Option D) (Q : Oc D → Sl → Prop) (c : Nat) (s : Sl) : kOp g Q (.x c) s = Q (.x c) s := rfl
theorem n_eOp : ∀ {g : List D → Option D}, wp (eOp g fs) st Q = wp fs st (kOp g Q) := wp_eOp
def kTup  (Q : Oc D → Sl → Prop) : Oc (List D) → Sl → Prop := vx Q fun x s => wc (x.length ≤ sizeLine) (ku Q (.tup x) s)
theorem kTup_v  (Q : Oc D → Sl → Prop) (x : List D) (s : Sl) : kTup  Q (.v x) s = wc (x.length ≤ sizeLine) (ku Q (.tup x) s) := rfl
theorem kTup_x  (Q : Oc D → Sl → Prop) (c : Nat) (s : Sl) : kTup  Q (.x c) s = Q (.x c) s := rfl
theorem n_eTup : wp (eTup fs) st Q = wp fs st (kTup Q) := wp_eTup
def kD  (Q : Oc R → Sl → Prop) : Oc (D) → Sl → Prop := vx Q fun x s => Q (.v (.d x)) s
theorem kD_v  (Q : Oc R → Sl → Prop) (x : D) (s : Sl) : kD  Q (.v x) s = Q (.v (.d x)) s := rfl
theorem kD_x  (Q : Oc R → Sl → Prop) (c : Nat) (s : Sl) : kD  Q (.x c) s = Q (.x c) s := rfl
theorem n_rD : wp (rD fa) st QR = wp fa st (kD QR) := wp_rD
def kROp (g : List D → Option (List D)) (Q : Oc R → Sl → Prop) : Oc (List D) → Sl → Prop := vx Q fun x s => wo (g x) (krl Q s)
theorem kROp_v (g : List D → Option (List D)) (Q : Oc R → Sl → Prop) (x : List D) (s : Sl) : kROp g Q (.v x) s = wo (g x) (krl Q s) := rfl
theorem kROp_x (g : List D → Option (List D)) (Q : Oc R → Sl → Prop) (c : Nat) (s : Sl) : kROp g Q (.x c) s = Q (.x c) s := rfl
theorem n_rOp : ∀ {g : List D → Option (List D)}, wp (rOp g fs) st QR = wp fs st (kROp g QR) := wp_rOp
def kLst  (Q : Oc R → Sl → Prop) : Oc (List D) → Sl → Prop := vx Q fun x s => wc (x.length ≤ sizeLine) (ku Q (.ol x) s)
theorem kLst_v  (Q : Oc R → Sl → Prop) (x : List D) (s : Sl) : kLst  Q (.v x) s = wc (x.length ≤ sizeLine) (ku Q (.ol x) s) := rfl
theorem kLst_x  (Q : Oc R → Sl → Prop) (c : Nat) (s : Sl) : kLst  Q (.x c) s = Q (.x c) s := rfl
theorem n_rLst : wp (rLst fs) st QR = wp fs st (kLst QR) := wp_rLst
def kFz (n : Nat → Nat) (Q : Oc D → Sl → Prop) : Oc (R) → Sl → Prop := vx Q fun x s => wc (wholeB n x = true) (ku Q (vw x) s)
theorem kFz_v (n : Nat → Nat) (Q : Oc D → Sl → Prop) (x : R) (s : Sl) : kFz n Q (.v x) s = wc (wholeB n x = true) (ku Q (vw x) s) := rfl
theorem kFz_x (n : Nat → Nat) (Q : Oc D → Sl → Prop) (c : Nat) (s : Sl) : kFz n Q (.x c) s = Q (.x c) s := rfl
theorem n_eFz : ∀ {n : Nat → Nat}, wp (eFz n r) st Q = wp r st (kFz n Q) := wp_eFz
theorem n_eVar : ∀ {i : Nat}, wp (eVar i) st Q = vr (gt st i) i st Q := wp_eVar
def kFull (st : Sl) (Q : Oc D → Sl → Prop) : Oc D → Sl → Prop := fx Q st fun x => wa (imm x = true) (Q (.v x) st)
theorem kFull_v (st : Sl) (Q : Oc D → Sl → Prop) (x : D) (s : Sl) : kFull st Q (.v x) s = wc (imm x = true) (ku Q x st) := rfl
theorem kFull_x (st : Sl) (Q : Oc D → Sl → Prop) (c : Nat) (s : Sl) : kFull st Q (.x c) s = Q (.x c) st := rfl
theorem n_eFull : ∀ {n : Nat → Nat}, wp (eFull n fa) st Q = wpe fa (vwN n st) (kFull st Q) := wp_eFull
def kTFull (st : Sl) (Q : Oc Bool → Sl → Prop) : Oc Bool → Sl → Prop := fx Q st fun x => Q (.v x) st
theorem kTFull_v (st : Sl) (Q : Oc Bool → Sl → Prop) (x : Bool) (s : Sl) : kTFull st Q (.v x) s = Q (.v x) st := rfl
theorem kTFull_x (st : Sl) (Q : Oc Bool → Sl → Prop) (c : Nat) (s : Sl) : kTFull st Q (.x c) s = Q (.x c) st := rfl
theorem n_tFull : ∀ {n : Nat → Nat} {f : M Bool}, wp (tFull n f) st QB = wpe f (vwN n st) (kTFull st QB) := wp_tFull
theorem n_rfx_ol {xs : List D} : rfx QR st (.v (.ol xs)) s = wc (imms xs = true) (ku QR (.ol xs) st) := rfl
theorem n_rfx_d {x : D} : rfx QR st (.v (.d x)) s = wc (imm x = true) (ku QR (.d x) st) := rfl
theorem n_rFull : ∀ {n : Nat → Nat}, wp (rFull n r) st QR = wpe r (vwN n st) (rfx QR st) := wp_rFull
def kTst  (Q : Oc Bool → Sl → Prop) : Oc (D) → Sl → Prop := vx Q fun x s => tb x (kr Q s)
theorem kTst_v  (Q : Oc Bool → Sl → Prop) (x : D) (s : Sl) : kTst  Q (.v x) s = tb x (kr Q s) := rfl
theorem kTst_x  (Q : Oc Bool → Sl → Prop) (c : Nat) (s : Sl) : kTst  Q (.x c) s = Q (.x c) s := rfl
theorem n_eTst : wp (eTst fa) st QB = wp fa st (kTst QB) := wp_eTst
def krn (Q : Oc D → Sl → Prop) (s : Sl) : Bool → Prop := fun b => Q (.v (.bl !b)) s
theorem krn_a (Q : Oc D → Sl → Prop) (s : Sl) (b : Bool) : krn Q s b = Q (.v (.bl !b)) s := rfl
def kNot  (Q : Oc D → Sl → Prop) : Oc (D) → Sl → Prop := vx Q fun x s => tb x (krn Q s)
theorem kNot_v  (Q : Oc D → Sl → Prop) (x : D) (s : Sl) : kNot  Q (.v x) s = tb x (krn Q s) := rfl
theorem kNot_x  (Q : Oc D → Sl → Prop) (c : Nat) (s : Sl) : kNot  Q (.x c) s = Q (.x c) s := rfl
theorem n_eNot : wp (eNot fa) st Q = wp fa st (kNot Q) := wp_eNot
def wAnd (g : M Bool) (Q : Oc Bool → Sl → Prop) (s : Sl) : Bool → Prop := fun b => wb b (wp g s Q) (Q (.v false) s)
theorem wAnd_t (g : M Bool) (Q : Oc Bool → Sl → Prop) (s : Sl) : wAnd g Q s true = wp g s Q := rfl
theorem wAnd_f (g : M Bool) (Q : Oc Bool → Sl → Prop) (s : Sl) : wAnd g Q s false = Q (.v false) s := wb_f
def kAnd (g : M Bool) (Q : Oc Bool → Sl → Prop) : Oc (Bool) → Sl → Prop := vx Q fun b s => wd b (wAnd g Q s)
theorem kAnd_v (g : M Bool) (Q : Oc Bool → Sl → Prop) (b : Bool) (s : Sl) : kAnd g Q (.v b) s = wd b (wAnd g Q s) := rfl
theorem kAnd_x (g : M Bool) (Q : Oc Bool → Sl → Prop) (c : Nat) (s : Sl) : kAnd g Q (.x c) s = Q (.x c) s := rfl
theorem n_cAnd : ∀ {f g : M Bool}, wp (cAnd f g) st QB = wp f st (kAnd g QB) := wp_cAnd
def wOr (g : M Bool) (Q : Oc Bool → Sl → Prop) (s : Sl) : Bool → Prop := fun b => wb b (Q (.v true) s) (wp g s Q)
theorem wOr_t (g : M Bool) (Q : Oc Bool → Sl → Prop) (s : Sl) : wOr g Q s true = Q (.v true) s := rfl
theorem wOr_f (g : M Bool) (Q : Oc Bool → Sl → Prop) (s : Sl) : wOr g Q s false = wp g s Q := wb_f
def kOr (g : M Bool) (Q : Oc Bool → Sl → Prop) : Oc (Bool) → Sl → Prop := vx Q fun b s => wd b (wOr g Q s)
theorem kOr_v (g : M Bool) (Q : Oc Bool → Sl → Prop) (b : Bool) (s : Sl) : kOr g Q (.v b) s = wd b (wOr g Q s) := rfl
theorem kOr_x (g : M Bool) (Q : Oc Bool → Sl → Prop) (c : Nat) (s : Sl) : kOr g Q (.x c) s = Q (.x c) s := rfl
theorem n_cOr : ∀ {f g : M Bool}, wp (cOr f g) st QB = wp f st (kOr g QB) := wp_cOr
def kCNot  (Q : Oc Bool → Sl → Prop) : Oc (Bool) → Sl → Prop := vx Q fun b s => Q (.v !b) s
theorem kCNot_v  (Q : Oc Bool → Sl → Prop) (b : Bool) (s : Sl) : kCNot  Q (.v b) s = Q (.v !b) s := rfl
theorem kCNot_x  (Q : Oc Bool → Sl → Prop) (c : Nat) (s : Sl) : kCNot  Q (.x c) s = Q (.x c) s := rfl
theorem n_cNot : ∀ {f : M Bool}, wp (cNot f) st QB = wp f st (kCNot QB) := wp_cNot
theorem n_cYes : wp cYes st QB = QB (.v true) st := rfl
def wEAnd (fb : M D) (Q : Oc D → Sl → Prop) (s : Sl) : Bool → Prop := fun b => wb b (wp fb s Q) (Q (.v (.bl false)) s)
theorem wEAnd_t (fb : M D) (Q : Oc D → Sl → Prop) (s : Sl) : wEAnd fb Q s true = wp fb s Q := rfl
theorem wEAnd_f (fb : M D) (Q : Oc D → Sl → Prop) (s : Sl) : wEAnd fb Q s false = Q (.v (.bl false)) s := wb_f
def kEAnd (fb : M D) (Q : Oc D → Sl → Prop) : Oc (D) → Sl → Prop := vx Q fun x s => tb x (wEAnd fb Q s)
theorem kEAnd_v (fb : M D) (Q : Oc D → Sl → Prop) (x : D) (s : Sl) : kEAnd fb Q (.v x) s = tb x (wEAnd fb Q s) := rfl
theorem kEAnd_x (fb : M D) (Q : Oc D → Sl → Prop) (c : Nat) (s : Sl) : kEAnd fb Q (.x c) s = Q (.x c) s := rfl
theorem n_eAnd : wp (eAnd fa fb) st Q = wp fa st (kEAnd fb Q) := wp_eAnd
def wEOr (fb : M D) (Q : Oc D → Sl → Prop) (s : Sl) : Bool → Prop := fun b => wb b (Q (.v (.bl true)) s) (wp fb s Q)
theorem wEOr_t (fb : M D) (Q : Oc D → Sl → Prop) (s : Sl) : wEOr fb Q s true = Q (.v (.bl true)) s := rfl
theorem wEOr_f (fb : M D) (Q : Oc D → Sl → Prop) (s : Sl) : wEOr fb Q s false = wp fb s Q := wb_f
def kEOr (fb : M D) (Q : Oc D → Sl → Prop) : Oc (D) → Sl → Prop := vx Q fun x s => tb x (wEOr fb Q s)
theorem kEOr_v (fb : M D) (Q : Oc D → Sl → Prop) (x : D) (s : Sl) : kEOr fb Q (.v x) s = tb x (wEOr fb Q s) := rfl
theorem kEOr_x (fb : M D) (Q : Oc D → Sl → Prop) (c : Nat) (s : Sl) : kEOr fb Q (.x c) s = Q (.x c) s := rfl
theorem n_eOr : wp (eOr fa fb) st Q = wp fa st (kEOr fb Q) := wp_eOr
theorem tb_n {b : Bool} {k : Bool → Prop} : tb (.bl b) k = wd b k := rfl
def wChain (g' : D → D → Option D) (fc : M D) (y : D) (Q : Oc D → Sl → Prop) (s : Sl) : Bool → Prop := fun b => wb b (wp fc s (kBin2 g' y Q)) (Q (.v (.bl false)) s)
theorem wChain_t (g' : D → D → Option D) (fc : M D) (y : D) (Q : Oc D → Sl → Prop) (s : Sl) : wChain g' fc y Q s true = wp fc s (kBin2 g' y Q) := rfl
theorem wChain_f (g' : D → D → Option D) (fc : M D) (y : D) (Q : Oc D → Sl → Prop) (s : Sl) : wChain g' fc y Q s false = Q (.v (.bl false)) s := wb_f
def kCh3 (g' : D → D → Option D) (fc : M D) (y : D) (Q : Oc D → Sl → Prop) (s : Sl) : D → Prop := fun z => tb z (wChain g' fc y Q s)
theorem kCh3_a (g' : D → D → Option D) (fc : M D) (y : D) (Q : Oc D → Sl → Prop) (s : Sl) (z : D) : kCh3 g' fc y Q s z = tb z (wChain g' fc y Q s) := rfl
def kCh2 (g g' : D → D → Option D) (fc : M D) (x : D) (Q : Oc D → Sl → Prop) : Oc (D) → Sl → Prop := vx Q fun y s => wo (g x y) (kCh3 g' fc y Q s)
theorem kCh2_v (g g' : D → D → Option D) (fc : M D) (x : D) (Q : Oc D → Sl → Prop) (y : D) (s : Sl) : kCh2 g g' fc x Q (.v y) s = wo (g x y) (kCh3 g' fc y Q s) := rfl
theorem kCh2_x (g g' : D → D → Option D) (fc : M D) (x : D) (Q : Oc D → Sl → Prop) (c : Nat) (s : Sl) : kCh2 g g' fc x Q (.x c) s = Q (.x c) s := rfl
def kCh1 (g g' : D → D → Option D) (fb fc : M D) (Q : Oc D → Sl → Prop) : Oc (D) → Sl → Prop := vx Q fun x s => wp fb s (kCh2 g g' fc x Q)
theorem kCh1_v (g g' : D → D → Option D) (fb fc : M D) (Q : Oc D → Sl → Prop) (x : D) (s : Sl) : kCh1 g g' fb fc Q (.v x) s = wp fb s (kCh2 g g' fc x Q) := rfl
theorem kCh1_x (g g' : D → D → Option D) (fb fc : M D) (Q : Oc D → Sl → Prop) (c : Nat) (s : Sl) : kCh1 g g' fb fc Q (.x c) s = Q (.x c) s := rfl
theorem n_eChain : ∀ {g g' : D → D → Option D}, wp (eChain g g' fa fb fc) st Q = wp fa st (kCh1 g g' fb fc Q) := wp_eChain
def wEIf (p q : M D) (Q : Oc D → Sl → Prop) (s : Sl) : Bool → Prop := fun b => wb b (wp p s Q) (wp q s Q)
theorem wEIf_t (p q : M D) (Q : Oc D → Sl → Prop) (s : Sl) : wEIf p q Q s true = wp p s Q := rfl
theorem wEIf_f (p q : M D) (Q : Oc D → Sl → Prop) (s : Sl) : wEIf p q Q s false = wp q s Q := wb_f
def kEIf (p q : M D) (Q : Oc D → Sl → Prop) : Oc (Bool) → Sl → Prop := vx Q fun b s => wd b (wEIf p q Q s)
theorem kEIf_v (p q : M D) (Q : Oc D → Sl → Prop) (b : Bool) (s : Sl) : kEIf p q Q (.v b) s = wd b (wEIf p q Q s) := rfl
theorem kEIf_x (p q : M D) (Q : Oc D → Sl → Prop) (c : Nat) (s : Sl) : kEIf p q Q (.x c) s = Q (.x c) s := rfl
theorem n_eIf : ∀ {c : M Bool} {p q : M D}, wp (eIf c p q) st Q = wp c st (kEIf p q Q) := wp_eIf
def wRIf (p q : M R) (Q : Oc R → Sl → Prop) (s : Sl) : Bool → Prop := fun b => wb b (wp p s Q) (wp q s Q)
theorem wRIf_t (p q : M R) (Q : Oc R → Sl → Prop) (s : Sl) : wRIf p q Q s true = wp p s Q := rfl
theorem wRIf_f (p q : M R) (Q : Oc R → Sl → Prop) (s : Sl) : wRIf p q Q s false = wp q s Q := wb_f
def kRIf (p q : M R) (Q : Oc R → Sl → Prop) : Oc (Bool) → Sl → Prop := vx Q fun b s => wd b (wRIf p q Q s)
theorem kRIf_v (p q : M R) (Q : Oc R → Sl → Prop) (b : Bool) (s : Sl) : kRIf p q Q (.v b) s = wd b (wRIf p q Q s) := rfl
theorem kRIf_x (p q : M R) (Q : Oc R → Sl → Prop) (c : Nat) (s : Sl) : kRIf p q Q (.x c) s = Q (.x c) s := rfl
theorem n_rIf : ∀ {c : M Bool} {p q : M R}, wp (rIf c p q) st QR = wp c st (kRIf p q QR) := wp_rIf
theorem n_oNone : wp oNone st QO = QO (.v none) st := rfl
def kso (Q : Oc (Option Int) → Sl → Prop) (s : Sl) : Int → Prop := fun i => Q (.v (some i)) s
theorem kso_a (Q : Oc (Option Int) → Sl → Prop) (s : Sl) (i : Int) : kso Q s i = Q (.v (some i)) s := rfl
def kSome  (Q : Oc (Option Int) → Sl → Prop) : Oc (D) → Sl → Prop := vx Q fun x s => ti x (kso Q s)
theorem kSome_v  (Q : Oc (Option Int) → Sl → Prop) (x : D) (s : Sl) : kSome  Q (.v x) s = ti x (kso Q s) := rfl
theorem kSome_x  (Q : Oc (Option Int) → Sl → Prop) (c : Nat) (s : Sl) : kSome  Q (.x c) s = Q (.x c) s := rfl
theorem n_oSome : wp (oSome fa) st QO = wp fa st (kSome QO) := wp_oSome
def kSl3 (x : D) (l : Option Int) (Q : Oc D → Sl → Prop) : Oc (Option Int) → Sl → Prop := vx Q fun h s => wo (dSl x l h) (kr Q s)
theorem kSl3_v (x : D) (l : Option Int) (Q : Oc D → Sl → Prop) (h : Option Int) (s : Sl) : kSl3 x l Q (.v h) s = wo (dSl x l h) (kr Q s) := rfl
theorem kSl3_x (x : D) (l : Option Int) (Q : Oc D → Sl → Prop) (c : Nat) (s : Sl) : kSl3 x l Q (.x c) s = Q (.x c) s := rfl
def kSl2 (x : D) (hi : M (Option Int)) (Q : Oc D → Sl → Prop) : Oc (Option Int) → Sl → Prop := vx Q fun l s => wp hi s (kSl3 x l Q)
theorem kSl2_v (x : D) (hi : M (Option Int)) (Q : Oc D → Sl → Prop) (l : Option Int) (s : Sl) : kSl2 x hi Q (.v l) s = wp hi s (kSl3 x l Q) := rfl
theorem kSl2_x (x : D) (hi : M (Option Int)) (Q : Oc D → Sl → Prop) (c : Nat) (s : Sl) : kSl2 x hi Q (.x c) s = Q (.x c) s := rfl
def kSl1 (lo hi : M (Option Int)) (Q : Oc D → Sl → Prop) : Oc (D) → Sl → Prop := vx Q fun x s => wp lo s (kSl2 x hi Q)
theorem kSl1_v (lo hi : M (Option Int)) (Q : Oc D → Sl → Prop) (x : D) (s : Sl) : kSl1 lo hi Q (.v x) s = wp lo s (kSl2 x hi Q) := rfl
theorem kSl1_x (lo hi : M (Option Int)) (Q : Oc D → Sl → Prop) (c : Nat) (s : Sl) : kSl1 lo hi Q (.x c) s = Q (.x c) s := rfl
theorem n_eSl : ∀ {lo hi : M (Option Int)}, wp (eSl fa lo hi) st Q = wp fa st (kSl1 lo hi Q) := wp_eSl
def kcut (l h : Option Int) (Q : Oc R → Sl → Prop) (s : Sl) : List D → Prop := fun xs => Q (.v (.ol (cutD xs l h))) s
theorem kcut_a (l h : Option Int) (Q : Oc R → Sl → Prop) (s : Sl) (xs : List D) : kcut l h Q s xs = Q (.v (.ol (cutD xs l h))) s := rfl
def kRSl3 (x : D) (l : Option Int) (Q : Oc R → Sl → Prop) : Oc (Option Int) → Sl → Prop := vx Q fun h s => tl x (kcut l h Q s)
theorem kRSl3_v (x : D) (l : Option Int) (Q : Oc R → Sl → Prop) (h : Option Int) (s : Sl) : kRSl3 x l Q (.v h) s = tl x (kcut l h Q s) := rfl
theorem kRSl3_x (x : D) (l : Option Int) (Q : Oc R → Sl → Prop) (c : Nat) (s : Sl) : kRSl3 x l Q (.x c) s = Q (.x c) s := rfl
def kRSl2 (x : D) (hi : M (Option Int)) (Q : Oc R → Sl → Prop) : Oc (Option Int) → Sl → Prop := vx Q fun l s => wp hi s (kRSl3 x l Q)
theorem kRSl2_v (x : D) (hi : M (Option Int)) (Q : Oc R → Sl → Prop) (l : Option Int) (s : Sl) : kRSl2 x hi Q (.v l) s = wp hi s (kRSl3 x l Q) := rfl
theorem kRSl2_x (x : D) (hi : M (Option Int)) (Q : Oc R → Sl → Prop) (c : Nat) (s : Sl) : kRSl2 x hi Q (.x c) s = Q (.x c) s := rfl
def kRSl1 (lo hi : M (Option Int)) (Q : Oc R → Sl → Prop) : Oc (D) → Sl → Prop := vx Q fun x s => wp lo s (kRSl2 x hi Q)
theorem kRSl1_v (lo hi : M (Option Int)) (Q : Oc R → Sl → Prop) (x : D) (s : Sl) : kRSl1 lo hi Q (.v x) s = wp lo s (kRSl2 x hi Q) := rfl
theorem kRSl1_x (lo hi : M (Option Int)) (Q : Oc R → Sl → Prop) (c : Nat) (s : Sl) : kRSl1 lo hi Q (.x c) s = Q (.x c) s := rfl
theorem n_rSlL' : ∀ {lo hi : M (Option Int)}, wp (rSlL' fa lo hi) st QR = wp fa st (kRSl1 lo hi QR) := wp_rSlL'
def kMt2 (g : D → List D → Option D) (x : D) (Q : Oc D → Sl → Prop) : Oc (List D) → Sl → Prop := vx Q fun xs s => wo (g x xs) (kr Q s)
theorem kMt2_v (g : D → List D → Option D) (x : D) (Q : Oc D → Sl → Prop) (xs : List D) (s : Sl) : kMt2 g x Q (.v xs) s = wo (g x xs) (kr Q s) := rfl
theorem kMt2_x (g : D → List D → Option D) (x : D) (Q : Oc D → Sl → Prop) (c : Nat) (s : Sl) : kMt2 g x Q (.x c) s = Q (.x c) s := rfl
def kMtu (g : D → List D → Option D) (fs : M (List D)) (x : D) (Q : Oc D → Sl → Prop) (s : Sl) : Unit → Prop := fun _ => wp fs s (kMt2 g x Q)
theorem kMtu_a (g : D → List D → Option D) (fs : M (List D)) (x : D) (Q : Oc D → Sl → Prop) (s : Sl) : kMtu g fs x Q s () = wp fs s (kMt2 g x Q) := rfl
def kMt1 (ty : String) (g : D → List D → Option D) (fs : M (List D)) (Q : Oc D → Sl → Prop) : Oc (D) → Sl → Prop := vx Q fun x s => wc (tyOk ty x = true) (kMtu g fs x Q s)
theorem kMt1_v (ty : String) (g : D → List D → Option D) (fs : M (List D)) (Q : Oc D → Sl → Prop) (x : D) (s : Sl) : kMt1 ty g fs Q (.v x) s = wc (tyOk ty x = true) (kMtu g fs x Q s) := rfl
theorem kMt1_x (ty : String) (g : D → List D → Option D) (fs : M (List D)) (Q : Oc D → Sl → Prop) (c : Nat) (s : Sl) : kMt1 ty g fs Q (.x c) s = Q (.x c) s := rfl
theorem n_eMt : ∀ {ty : String} {g : D → List D → Option D}, wp (eMt ty g fa fs) st Q = wp fa st (kMt1 ty g fs Q) := wp_eMt
def kRMt2 (g : D → List D → Option (List D)) (x : D) (Q : Oc R → Sl → Prop) : Oc (List D) → Sl → Prop := vx Q fun xs s => wo (g x xs) (krl Q s)
theorem kRMt2_v (g : D → List D → Option (List D)) (x : D) (Q : Oc R → Sl → Prop) (xs : List D) (s : Sl) : kRMt2 g x Q (.v xs) s = wo (g x xs) (krl Q s) := rfl
theorem kRMt2_x (g : D → List D → Option (List D)) (x : D) (Q : Oc R → Sl → Prop) (c : Nat) (s : Sl) : kRMt2 g x Q (.x c) s = Q (.x c) s := rfl
def kRMtu (g : D → List D → Option (List D)) (fs : M (List D)) (x : D) (Q : Oc R → Sl → Prop) (s : Sl) : Unit → Prop := fun _ => wp fs s (kRMt2 g x Q)
theorem kRMtu_a (g : D → List D → Option (List D)) (fs : M (List D)) (x : D) (Q : Oc R → Sl → Prop) (s : Sl) : kRMtu g fs x Q s () = wp fs s (kRMt2 g x Q) := rfl
def kRMt1 (ty : String) (g : D → List D → Option (List D)) (fs : M (List D)) (Q : Oc R → Sl → Prop) : Oc (D) → Sl → Prop := vx Q fun x s => wc (tyOk ty x = true) (kRMtu g fs x Q s)
theorem kRMt1_v (ty : String) (g : D → List D → Option (List D)) (fs : M (List D)) (Q : Oc R → Sl → Prop) (x : D) (s : Sl) : kRMt1 ty g fs Q (.v x) s = wc (tyOk ty x = true) (kRMtu g fs x Q s) := rfl
theorem kRMt1_x (ty : String) (g : D → List D → Option (List D)) (fs : M (List D)) (Q : Oc R → Sl → Prop) (c : Nat) (s : Sl) : kRMt1 ty g fs Q (.x c) s = Q (.x c) s := rfl
theorem n_rMt : ∀ {ty : String} {g : D → List D → Option (List D)}, wp (rMt ty g fa fs) st QR = wp fa st (kRMt1 ty g fs QR) := wp_rMt
def kRBin2 (g : D → D → Option (List D)) (x : D) (Q : Oc R → Sl → Prop) : Oc (D) → Sl → Prop := vx Q fun y s => wo (g x y) (krl Q s)
theorem kRBin2_v (g : D → D → Option (List D)) (x : D) (Q : Oc R → Sl → Prop) (y : D) (s : Sl) : kRBin2 g x Q (.v y) s = wo (g x y) (krl Q s) := rfl
theorem kRBin2_x (g : D → D → Option (List D)) (x : D) (Q : Oc R → Sl → Prop) (c : Nat) (s : Sl) : kRBin2 g x Q (.x c) s = Q (.x c) s := rfl
def kRBin1 (g : D → D → Option (List D)) (fb : M D) (Q : Oc R → Sl → Prop) : Oc (D) → Sl → Prop := vx Q fun x s => wp fb s (kRBin2 g x Q)
theorem kRBin1_v (g : D → D → Option (List D)) (fb : M D) (Q : Oc R → Sl → Prop) (x : D) (s : Sl) : kRBin1 g fb Q (.v x) s = wp fb s (kRBin2 g x Q) := rfl
theorem kRBin1_x (g : D → D → Option (List D)) (fb : M D) (Q : Oc R → Sl → Prop) (c : Nat) (s : Sl) : kRBin1 g fb Q (.x c) s = Q (.x c) s := rfl
theorem n_rBin : ∀ {g : D → D → Option (List D)}, wp (rBin g fa fb) st QR = wp fa st (kRBin1 g fb QR) := wp_rBin
theorem n_rMv : ∀ {i : Nat}, wp (rMv i) st QR = mv (gt st i) i st QR := wp_rMv
def kILst  (Q : Oc (List D) → Sl → Prop) : Oc (D) → Sl → Prop := vx Q fun x s => tl x (kr Q s)
theorem kILst_v  (Q : Oc (List D) → Sl → Prop) (x : D) (s : Sl) : kILst  Q (.v x) s = tl x (kr Q s) := rfl
theorem kILst_x  (Q : Oc (List D) → Sl → Prop) (c : Nat) (s : Sl) : kILst  Q (.x c) s = Q (.x c) s := rfl
theorem n_iLst : wp (iLst fa) st QL = wp fa st (kILst QL) := wp_iLst
def kITup  (Q : Oc (List D) → Sl → Prop) : Oc (D) → Sl → Prop := vx Q fun x s => tt x (kr Q s)
theorem kITup_v  (Q : Oc (List D) → Sl → Prop) (x : D) (s : Sl) : kITup  Q (.v x) s = tt x (kr Q s) := rfl
theorem kITup_x  (Q : Oc (List D) → Sl → Prop) (c : Nat) (s : Sl) : kITup  Q (.x c) s = Q (.x c) s := rfl
theorem n_iTupl : wp (iTupl fa) st QL = wp fa st (kITup QL) := wp_iTupl
def kISeq  (Q : Oc (List D) → Sl → Prop) : Oc (D) → Sl → Prop := vx Q fun x s => tq x (kr Q s)
theorem kISeq_v  (Q : Oc (List D) → Sl → Prop) (x : D) (s : Sl) : kISeq  Q (.v x) s = tq x (kr Q s) := rfl
theorem kISeq_x  (Q : Oc (List D) → Sl → Prop) (c : Nat) (s : Sl) : kISeq  Q (.x c) s = Q (.x c) s := rfl
theorem n_iSeq : wp (iSeq fa) st QL = wp fa st (kISeq QL) := wp_iSeq
def ktx (Q : Oc (List D) → Sl → Prop) (s : Sl) : Str → Prop := fun z => Q (.v (sgnD z)) s
theorem ktx_a (Q : Oc (List D) → Sl → Prop) (s : Sl) (z : Str) : ktx Q s z = Q (.v (sgnD z)) s := rfl
def kIText  (Q : Oc (List D) → Sl → Prop) : Oc (D) → Sl → Prop := vx Q fun x s => tx x (ktx Q s)
theorem kIText_v  (Q : Oc (List D) → Sl → Prop) (x : D) (s : Sl) : kIText  Q (.v x) s = tx x (ktx Q s) := rfl
theorem kIText_x  (Q : Oc (List D) → Sl → Prop) (c : Nat) (s : Sl) : kIText  Q (.x c) s = Q (.x c) s := rfl
theorem n_iText : wp (iText fa) st QL = wp fa st (kIText QL) := wp_iText
def kIL (g : List D → Option (List D)) (Q : Oc (List D) → Sl → Prop) : Oc (List D) → Sl → Prop := vx Q fun x s => wo (g x) (kr Q s)
theorem kIL_v (g : List D → Option (List D)) (Q : Oc (List D) → Sl → Prop) (x : List D) (s : Sl) : kIL g Q (.v x) s = wo (g x) (kr Q s) := rfl
theorem kIL_x (g : List D → Option (List D)) (Q : Oc (List D) → Sl → Prop) (c : Nat) (s : Sl) : kIL g Q (.x c) s = Q (.x c) s := rfl
theorem n_iR1 : wp (iR1 fs) st QL = wp fs st (kIL dR1 QL) := wp_iR1
theorem n_iR2 : wp (iR2 fs) st QL = wp fs st (kIL dR2 QL) := wp_iR2
theorem n_iEn : wp (iEn fs) st QL = wp fs st (kIL dEn QL) := wp_iEn
theorem n_aNil : wp aNil st QA = QA (.v []) st := rfl
def kAV2 (x : D) (Q : Oc (List Arg) → Sl → Prop) : Oc (List Arg) → Sl → Prop := vx Q fun xs s => Q (.v (.v x :: xs)) s
theorem kAV2_v (x : D) (Q : Oc (List Arg) → Sl → Prop) (xs : List Arg) (s : Sl) : kAV2 x Q (.v xs) s = Q (.v (.v x :: xs)) s := rfl
theorem kAV2_x (x : D) (Q : Oc (List Arg) → Sl → Prop) (c : Nat) (s : Sl) : kAV2 x Q (.x c) s = Q (.x c) s := rfl
def kAV1 (fr : M (List Arg)) (Q : Oc (List Arg) → Sl → Prop) : Oc (D) → Sl → Prop := vx Q fun x s => wp fr s (kAV2 x Q)
theorem kAV1_v (fr : M (List Arg)) (Q : Oc (List Arg) → Sl → Prop) (x : D) (s : Sl) : kAV1 fr Q (.v x) s = wp fr s (kAV2 x Q) := rfl
theorem kAV1_x (fr : M (List Arg)) (Q : Oc (List Arg) → Sl → Prop) (c : Nat) (s : Sl) : kAV1 fr Q (.x c) s = Q (.x c) s := rfl
theorem n_aV : ∀ {fr : M (List Arg)}, wp (aV fa fr) st QA = wp fa st (kAV1 fr QA) := wp_aV
def kAO (i : Nat) (Q : Oc (List Arg) → Sl → Prop) : Oc (List Arg) → Sl → Prop := vx Q fun xs s => Q (.v (.o i :: xs)) s
theorem kAO_v (i : Nat) (Q : Oc (List Arg) → Sl → Prop) (xs : List Arg) (s : Sl) : kAO i Q (.v xs) s = Q (.v (.o i :: xs)) s := rfl
theorem kAO_x (i : Nat) (Q : Oc (List Arg) → Sl → Prop) (c : Nat) (s : Sl) : kAO i Q (.x c) s = Q (.x c) s := rfl
def isq (o : Option (Option R)) (k : Unit → Prop) : Prop := isR o (k ())
theorem isq_s {x : R} {k : Unit → Prop} : isq (some (some x)) k = k () := rfl
def kAOu (i : Nat) (fr : M (List Arg)) (Q : Oc (List Arg) → Sl → Prop) (st : Sl) : Unit → Prop := fun _ => wp fr st (kAO i Q)
theorem kAOu_a (i : Nat) (fr : M (List Arg)) (Q : Oc (List Arg) → Sl → Prop) (st : Sl) : kAOu i fr Q st () = wp fr st (kAO i Q) := rfl
theorem n_aO : ∀ {i : Nat} {fr : M (List Arg)}, wp (aO i fr) st QA = isq (gt st i) (kAOu i fr QA st) := wp_aO
def kEnd2 (o : Oc R) (as : List Arg) (rs2 : List R) (Q : Oc R → Sl → Prop) (st : Sl) : Unit → Prop := fun _ => Q o (pA as rs2 st)
theorem kEnd2_a (o : Oc R) (as : List Arg) (rs2 : List R) (Q : Oc R → Sl → Prop) (st : Sl) : kEnd2 o as rs2 Q st () = Q o (pA as rs2 st) := rfl
def kEnd (as : List Arg) (rs : List R) (Q : Oc R → Sl → Prop) (st : Sl) : Oc R → List R → Prop := fun o rs2 => wa (rs2.length = rs.length) (Q o (pA as rs2 st))
theorem kEnd_a (as : List Arg) (rs : List R) (Q : Oc R → Sl → Prop) (st : Sl) (o : Oc R) (rs2 : List R) : kEnd as rs Q st o rs2 = wc (rs2.length = rs.length) (kEnd2 o as rs2 Q st) := rfl
def kCallU (F : Fn) (as : List Arg) (rs : List R) (Q : Oc R → Sl → Prop) (st : Sl) : Unit → Prop := fun _ => wf F rs (kEnd as rs Q st)
theorem kCallU_a (F : Fn) (as : List Arg) (rs : List R) (Q : Oc R → Sl → Prop) (st : Sl) : kCallU F as rs Q st () = wf F rs (kEnd as rs Q st) := rfl
def kCall (F : Fn) (as : List Arg) (Q : Oc R → Sl → Prop) (st : Sl) : List R → Prop := fun rs => wa ((owns as).Nodup) (wf F rs (kEnd as rs Q st))
theorem kCall_a (F : Fn) (as : List Arg) (Q : Oc R → Sl → Prop) (st : Sl) (rs : List R) : kCall F as Q st rs = wc ((owns as).Nodup) (kCallU F as rs Q st) := rfl
theorem n_callF : ∀ {F : Fn} {as : List Arg}, wp (callF F as) st QR = wo (gA as st) (kCall F as QR st) := wp_callF
def kRcu (F : Fn) (ds : List D) (as : List Arg) (Q : Oc R → Sl → Prop) (s : Sl) : Unit → Prop := fun _ => wp (callF F (as ++ ds.map Arg.v)) s Q
theorem kRcu_a (F : Fn) (ds : List D) (as : List Arg) (Q : Oc R → Sl → Prop) (s : Sl) : kRcu F ds as Q s () = wp (callF F (as ++ ds.map Arg.v)) s Q := rfl
def kRc (n : Nat) (F : Fn) (ds : List D) (Q : Oc R → Sl → Prop) : Oc (List Arg) → Sl → Prop := vx Q fun as s => wc (as.length + ds.length = n) (kRcu F ds as Q s)
theorem kRc_v (n : Nat) (F : Fn) (ds : List D) (Q : Oc R → Sl → Prop) (as : List Arg) (s : Sl) : kRc n F ds Q (.v as) s = wc (as.length + ds.length = n) (kRcu F ds as Q s) := rfl
theorem kRc_x (n : Nat) (F : Fn) (ds : List D) (Q : Oc R → Sl → Prop) (c : Nat) (s : Sl) : kRc n F ds Q (.x c) s = Q (.x c) s := rfl
theorem n_rCall : ∀ {n : Nat} {F : Fn} {ds : List D} {fl : M (List Arg)}, wp (rCall n F ds fl) st QR = wp fl st (kRc n F ds QR) := wp_rCall
def kMcu (F : Fn) (c : Nat) (xs : List D) (as : List Arg) (Q : Oc R → Sl → Prop) (s : Sl) : Unit → Prop := fun _ => wp (callF F (.v (.obj c xs) :: as)) s Q
theorem kMcu_a (F : Fn) (c : Nat) (xs : List D) (as : List Arg) (Q : Oc R → Sl → Prop) (s : Sl) : kMcu F c xs as Q s () = wp (callF F (.v (.obj c xs) :: as)) s Q := rfl
def kMc (n : Nat) (F : Fn) (c : Nat) (xs : List D) (Q : Oc R → Sl → Prop) : Oc (List Arg) → Sl → Prop := vx Q fun as s => wc (as.length + 1 = n) (kMcu F c xs as Q s)
theorem kMc_v (n : Nat) (F : Fn) (c : Nat) (xs : List D) (Q : Oc R → Sl → Prop) (as : List Arg) (s : Sl) : kMc n F c xs Q (.v as) s = wc (as.length + 1 = n) (kMcu F c xs as Q s) := rfl
theorem kMc_x (n : Nat) (F : Fn) (c : Nat) (xs : List D) (Q : Oc R → Sl → Prop) (c : Nat) (s : Sl) : kMc n F c xs Q (.x c) s = Q (.x c) s := rfl
def kMf (n : Nat) (fl : M (List Arg)) (c : Nat) (xs : List D) (Q : Oc R → Sl → Prop) (s : Sl) : Fn → Prop := fun F => wp fl s (kMc n F c xs Q)
theorem kMf_a (n : Nat) (fl : M (List Arg)) (c : Nat) (xs : List D) (Q : Oc R → Sl → Prop) (s : Sl) (F : Fn) : kMf n fl c xs Q s F = wp fl s (kMc n F c xs Q) := rfl
def kMo (n : Nat) (tab : Nat → Option Fn) (fl : M (List Arg)) (Q : Oc R → Sl → Prop) (s : Sl) : Nat → List D → Prop := fun c xs => wo (tab c) (kMf n fl c xs Q s)
theorem kMo_a (n : Nat) (tab : Nat → Option Fn) (fl : M (List Arg)) (Q : Oc R → Sl → Prop) (s : Sl) (c : Nat) (xs : List D) : kMo n tab fl Q s c xs = wo (tab c) (kMf n fl c xs Q s) := rfl
def kMeth (n : Nat) (tab : Nat → Option Fn) (fl : M (List Arg)) (Q : Oc R → Sl → Prop) : Oc D → Sl → Prop := nx0 (β := D) fun x s => to x (kMo n tab fl Q s)
theorem kMeth_v (n : Nat) (tab : Nat → Option Fn) (fl : M (List Arg)) (Q : Oc R → Sl → Prop) (x : D) (s : Sl) : kMeth n tab fl Q (.v x) s = to x (kMo n tab fl Q s) := rfl
theorem n_rMeth : ∀ {n : Nat} {tab : Nat → Option Fn} {fl : M (List Arg)}, wp (rMeth n tab fa fl) st QR = wp fa st (kMeth n tab fl QR) := wp_rMeth
theorem n_rMakeN : ∀ {c : Nat}, wp (rMakeN c) st QR = QR (.v (.oi c [])) st := rfl
def kFnU (kp : Nat → Bool) (n N : Nat) (body : MS) (rs : List R) (Q : Oc R → List R → Prop) : Unit → Prop := fun _ => wse body (rs.map some ++ List.replicate (N - n) none) (oend n kp rs Q)
theorem kFnU_a (kp : Nat → Bool) (n N : Nat) (body : MS) (rs : List R) (Q : Oc R → List R → Prop) : kFnU kp n N body rs Q () = wse body (rs.map some ++ List.replicate (N - n) none) (oend n kp rs Q) := rfl
theorem n_fnOf : ∀ {n N : Nat} {kp : Nat → Bool} {body : MS} {rs : List R} {Q : Oc R → List R → Prop}, wf (fnOf n N kp body) rs Q = wc (rs.length = n) (kFnU kp n N body rs Q) := wf_fnOf
def ko (v : Oc R) (Q : Oc R → List R → Prop) : List R → Prop := fun qs => Q v qs
theorem ko_a (v : Oc R) (Q : Oc R → List R → Prop) (qs : List R) : ko v Q qs = Q v qs := rfl
theorem n_oend_rt {n : Nat} {kp : Nat → Bool} {rs : List R} {Q : Oc R → List R → Prop} {v : R} : oend n kp rs Q (.rt v) s = wo (outs kp 0 rs s) (ko (.v v) Q) := rfl
theorem n_oend_nx {n : Nat} {kp : Nat → Bool} {rs : List R} {Q : Oc R → List R → Prop} : oend n kp rs Q .nx s = wo (outs kp 0 rs s) (ko (.v (.d .non)) Q) := rfl
theorem n_oend_x {n : Nat} {kp : Nat → Bool} {rs : List R} {Q : Oc R → List R → Prop} {c : Nat} : oend n kp rs Q (.x c) s = wo (outs kp 0 rs s) (ko (.x c) Q) := rfl
theorem n_sNext : ws sNext st QS = QS .nx st := rfl
theorem n_sBrk : ws sBrk st QS = QS .bk st := rfl
theorem n_sCt : ws sCt st QS = QS .ct st := rfl
theorem n_sRetN : ws sRetN st QS = QS (.rt (.d .non)) st := rfl
def kSeq (g : MS) (Q : Fl → Sl → Prop) : Fl → Sl → Prop := nx Q fun s => ws g s Q
theorem kSeq_nx (g : MS) (Q : Fl → Sl → Prop) (s : Sl) : kSeq g Q .nx s = ws g s Q := rfl
theorem kSeq_bk (g : MS) (Q : Fl → Sl → Prop) (s : Sl) : kSeq g Q .bk s = Q .bk s := rfl
theorem kSeq_ct (g : MS) (Q : Fl → Sl → Prop) (s : Sl) : kSeq g Q .ct s = Q .ct s := rfl
theorem kSeq_rt (g : MS) (Q : Fl → Sl → Prop) (v : R) (s : Sl) : kSeq g Q (.rt v) s = Q (.rt v) s := rfl
theorem kSeq_x (g : MS) (Q : Fl → Sl → Prop) (c : Nat) (s : Sl) : kSeq g Q (.x c) s = Q (.x c) s := rfl
theorem n_sSeq : ∀ {f g : MS}, ws (sSeq f g) st QS = ws f st (kSeq g QS) := ws_sSeq
def kSet (i : Nat) (Q : Fl → Sl → Prop) : Oc (R) → Sl → Prop := vs Q fun r s => Q .nx (stt s i (some r))
theorem kSet_v (i : Nat) (Q : Fl → Sl → Prop) (r : R) (s : Sl) : kSet i Q (.v r) s = Q .nx (stt s i (some r)) := rfl
theorem kSet_x (i : Nat) (Q : Fl → Sl → Prop) (c : Nat) (s : Sl) : kSet i Q (.x c) s = Q (.x c) s := rfl
theorem n_sSet : ∀ {i : Nat} {m : M R}, ws (sSet i m) st QS = wp m st (kSet i QS) := ws_sSet
def knx (Q : Fl → Sl → Prop) : Sl → Prop := fun s => Q .nx s
theorem knx_a (Q : Fl → Sl → Prop) (s : Sl) : knx Q s = Q .nx s := rfl
def kAsg (g : D → Sl → Option Sl) (Q : Fl → Sl → Prop) : Oc (D) → Sl → Prop := vs Q fun x s => wo (g x s) (knx Q)
theorem kAsg_v (g : D → Sl → Option Sl) (Q : Fl → Sl → Prop) (x : D) (s : Sl) : kAsg g Q (.v x) s = wo (g x s) (knx Q) := rfl
theorem kAsg_x (g : D → Sl → Option Sl) (Q : Fl → Sl → Prop) (c : Nat) (s : Sl) : kAsg g Q (.x c) s = Q (.x c) s := rfl
theorem n_sAsg : ∀ {m : M D} {g : D → Sl → Option Sl}, ws (sAsg m g) st QS = wp m st (kAsg g QS) := ws_sAsg
def wIf (f g : MS) (Q : Fl → Sl → Prop) (s : Sl) : Bool → Prop := fun b => wb b (ws f s Q) (ws g s Q)
theorem wIf_t (f g : MS) (Q : Fl → Sl → Prop) (s : Sl) : wIf f g Q s true = ws f s Q := rfl
theorem wIf_f (f g : MS) (Q : Fl → Sl → Prop) (s : Sl) : wIf f g Q s false = ws g s Q := wb_f
def kIf (f g : MS) (Q : Fl → Sl → Prop) : Oc (Bool) → Sl → Prop := vs Q fun b s => wd b (wIf f g Q s)
theorem kIf_v (f g : MS) (Q : Fl → Sl → Prop) (b : Bool) (s : Sl) : kIf f g Q (.v b) s = wd b (wIf f g Q s) := rfl
theorem kIf_x (f g : MS) (Q : Fl → Sl → Prop) (c : Nat) (s : Sl) : kIf f g Q (.x c) s = Q (.x c) s := rfl
theorem n_sIf : ∀ {c : M Bool} {f g : MS}, ws (sIf c f g) st QS = wp c st (kIf f g QS) := ws_sIf
def kRet  (Q : Fl → Sl → Prop) : Oc (R) → Sl → Prop := vs Q fun r s => Q (.rt r) s
theorem kRet_v  (Q : Fl → Sl → Prop) (r : R) (s : Sl) : kRet  Q (.v r) s = Q (.rt r) s := rfl
theorem kRet_x  (Q : Fl → Sl → Prop) (c : Nat) (s : Sl) : kRet  Q (.x c) s = Q (.x c) s := rfl
theorem n_sRet : ∀ {m : M R}, ws (sRet m) st QS = wp m st (kRet QS) := ws_sRet
def kDrop  (Q : Fl → Sl → Prop) : Oc (R) → Sl → Prop := vs Q fun r s => Q .nx s
theorem kDrop_v  (Q : Fl → Sl → Prop) (r : R) (s : Sl) : kDrop  Q (.v r) s = Q .nx s := rfl
theorem kDrop_x  (Q : Fl → Sl → Prop) (c : Nat) (s : Sl) : kDrop  Q (.x c) s = Q (.x c) s := rfl
theorem n_sDrop : ∀ {m : M R}, ws (sDrop m) st QS = wp m st (kDrop QS) := ws_sDrop
def kFor (g : D → Sl → Option Sl) (body : MS) (Q : Fl → Sl → Prop) : Oc (List D) → Sl → Prop := vs Q fun ds s => ws (forL g body ds) s Q
theorem kFor_v (g : D → Sl → Option Sl) (body : MS) (Q : Fl → Sl → Prop) (ds : List D) (s : Sl) : kFor g body Q (.v ds) s = ws (forL g body ds) s Q := rfl
theorem kFor_x (g : D → Sl → Option Sl) (body : MS) (Q : Fl → Sl → Prop) (c : Nat) (s : Sl) : kFor g body Q (.x c) s = Q (.x c) s := rfl
theorem n_sFor : ∀ {it : M (List D)} {g : D → Sl → Option Sl} {body : MS}, ws (sFor it g body) st QS = wp it st (kFor g body QS) := ws_sFor
def kSt (i : Nat) (xs : List D) (Q : Fl → Sl → Prop) (s : Sl) : Unit → Prop := fun _ => Q .nx (stt s i (some (.ol xs)))
theorem kSt_a (i : Nat) (xs : List D) (Q : Fl → Sl → Prop) (s : Sl) : kSt i xs Q s () = Q .nx (stt s i (some (.ol xs))) := rfl
def kApp2 (i : Nat) (x : D) (Q : Fl → Sl → Prop) (s : Sl) : List D → Prop := fun xs => wa (xs.length < sizeLine) (Q .nx (stt s i (some (.ol (xs ++ [x])))))
theorem kApp2_a (i : Nat) (x : D) (Q : Fl → Sl → Prop) (s : Sl) (xs : List D) : kApp2 i x Q s xs = wc (xs.length < sizeLine) (kSt i (xs ++ [x]) Q s) := rfl
def kApp (i : Nat) (Q : Fl → Sl → Prop) : Oc (D) → Sl → Prop := vs Q fun x s => gol (gt s i) (kApp2 i x Q s)
theorem kApp_v (i : Nat) (Q : Fl → Sl → Prop) (x : D) (s : Sl) : kApp i Q (.v x) s = gol (gt s i) (kApp2 i x Q s) := rfl
theorem kApp_x (i : Nat) (Q : Fl → Sl → Prop) (c : Nat) (s : Sl) : kApp i Q (.x c) s = Q (.x c) s := rfl
def kAppU (i : Nat) (fa : M D) (Q : Fl → Sl → Prop) (s : Sl) : Unit → Prop := fun _ => wp fa s (kApp i Q)
theorem kAppU_a (i : Nat) (fa : M D) (Q : Fl → Sl → Prop) (s : Sl) : kAppU i fa Q s () = wp fa s (kApp i Q) := rfl
theorem n_sApp' : ∀ {i : Nat}, ws (sApp' i fa) st QS = wc (isL (gt st i) = true) (kAppU i fa QS st) := ws_sApp'
def kExt3 (i : Nat) (ys : List D) (Q : Fl → Sl → Prop) (s : Sl) : List D → Prop := fun xs => wa (xs.length + ys.length ≤ sizeLine) (Q .nx (stt s i (some (.ol (xs ++ ys)))))
theorem kExt3_a (i : Nat) (ys : List D) (Q : Fl → Sl → Prop) (s : Sl) (xs : List D) : kExt3 i ys Q s xs = wc (xs.length + ys.length ≤ sizeLine) (kSt i (xs ++ ys) Q s) := rfl
def kExt2 (i : Nat) (Q : Fl → Sl → Prop) (s : Sl) : List D → Prop := fun ys => gol (gt s i) (kExt3 i ys Q s)
theorem kExt2_a (i : Nat) (Q : Fl → Sl → Prop) (s : Sl) (ys : List D) : kExt2 i Q s ys = gol (gt s i) (kExt3 i ys Q s) := rfl
def kExt (i : Nat) (Q : Fl → Sl → Prop) : Oc (D) → Sl → Prop := vs Q fun x s => tq x (kExt2 i Q s)
theorem kExt_v (i : Nat) (Q : Fl → Sl → Prop) (x : D) (s : Sl) : kExt i Q (.v x) s = tq x (kExt2 i Q s) := rfl
theorem kExt_x (i : Nat) (Q : Fl → Sl → Prop) (c : Nat) (s : Sl) : kExt i Q (.x c) s = Q (.x c) s := rfl
def kExtU (i : Nat) (fa : M D) (Q : Fl → Sl → Prop) (s : Sl) : Unit → Prop := fun _ => wp fa s (kExt i Q)
theorem kExtU_a (i : Nat) (fa : M D) (Q : Fl → Sl → Prop) (s : Sl) : kExtU i fa Q s () = wp fa s (kExt i Q) := rfl
theorem n_sExtA : ∀ {i : Nat}, ws (sExtA i fa) st QS = wc (isL (gt st i) = true) (kExtU i fa QS st) := ws_sExtA
def kSub5 (i : Nat) (x : D) (xs : List D) (Q : Fl → Sl → Prop) (s : Sl) : Nat → Prop := fun j => Q .nx (stt s i (some (.ol (xs.set j x))))
theorem kSub5_a (i : Nat) (x : D) (xs : List D) (Q : Fl → Sl → Prop) (s : Sl) (j : Nat) : kSub5 i x xs Q s j = Q .nx (stt s i (some (.ol (xs.set j x)))) := rfl
def kSub4 (i : Nat) (x : D) (k : Int) (Q : Fl → Sl → Prop) (s : Sl) : List D → Prop := fun xs => wo (ixN xs.length k) (kSub5 i x xs Q s)
theorem kSub4_a (i : Nat) (x : D) (k : Int) (Q : Fl → Sl → Prop) (s : Sl) (xs : List D) : kSub4 i x k Q s xs = wo (ixN xs.length k) (kSub5 i x xs Q s) := rfl
def kSub3 (i : Nat) (x : D) (Q : Fl → Sl → Prop) (s : Sl) : Int → Prop := fun k => gol (gt s i) (kSub4 i x k Q s)
theorem kSub3_a (i : Nat) (x : D) (Q : Fl → Sl → Prop) (s : Sl) (k : Int) : kSub3 i x Q s k = gol (gt s i) (kSub4 i x k Q s) := rfl
def kSub2 (i : Nat) (x : D) (Q : Fl → Sl → Prop) : Oc (D) → Sl → Prop := vs Q fun y s => ti y (kSub3 i x Q s)
theorem kSub2_v (i : Nat) (x : D) (Q : Fl → Sl → Prop) (y : D) (s : Sl) : kSub2 i x Q (.v y) s = ti y (kSub3 i x Q s) := rfl
theorem kSub2_x (i : Nat) (x : D) (Q : Fl → Sl → Prop) (c : Nat) (s : Sl) : kSub2 i x Q (.x c) s = Q (.x c) s := rfl
def kSubU (i : Nat) (mi : M D) (x : D) (Q : Fl → Sl → Prop) (s : Sl) : Unit → Prop := fun _ => wp mi s (kSub2 i x Q)
theorem kSubU_a (i : Nat) (mi : M D) (x : D) (Q : Fl → Sl → Prop) (s : Sl) : kSubU i mi x Q s () = wp mi s (kSub2 i x Q) := rfl
def kSub1 (i : Nat) (mi : M D) (Q : Fl → Sl → Prop) : Oc (D) → Sl → Prop := vs Q fun x s => wc (isL (gt s i) = true) (kSubU i mi x Q s)
theorem kSub1_v (i : Nat) (mi : M D) (Q : Fl → Sl → Prop) (x : D) (s : Sl) : kSub1 i mi Q (.v x) s = wc (isL (gt s i) = true) (kSubU i mi x Q s) := rfl
theorem kSub1_x (i : Nat) (mi : M D) (Q : Fl → Sl → Prop) (c : Nat) (s : Sl) : kSub1 i mi Q (.x c) s = Q (.x c) s := rfl
theorem n_sSub : ∀ {i : Nat} {mi : M D}, ws (sSub i mi fa) st QS = wp fa st (kSub1 i mi QS) := ws_sSub
def fld (ix : Nat → Option Nat) : D → Option D
  | .obj c fs => (match ix c with
    | some i => fs[i]?
    | none => none)
  | _ => none
theorem fld_o {ix : Nat → Option Nat} {c : Nat} {fs : List D} : fld ix (.obj c fs) = (ix c).bind fun i => fs[i]? := by
  show (match ix c with | some i => fs[i]? | none => none) = _
  cases ix c <;> rfl
theorem n_eFld : ∀ {ix : Nat → Option Nat}, wp (eFld ix fa) st Q = wp fa st (kUn (fld ix) Q) := by
  intro ix
  have e : eFld ix fa = eUn (fld ix) fa := rfl
  rw [e]; exact wp_eUn
end
end Fz
set_option Elab.async false
set_option linter.all false
set_option maxRecDepth 100000
set_option maxHeartbeats 2000000
namespace Fz
open PySem L2
theorem e_sub {a b : Int} : dSub (.int a) (.int b) = some (.int (a - b)) := rfl
theorem e_addi {a b : Int} : dAdd (.int a) (.int b) = some (.int (a + b)) := rfl
theorem e_adds {a b : Str} : dAdd (.str a) (.str b) = if a.length + b.length ≤ sizeLine then some (.str (a ++ b)) else none := rfl
theorem e_addt {a b : List D} : dAdd (.tup a) (.tup b) = if a.length + b.length ≤ sizeLine then some (.tup (a ++ b)) else none := rfl
theorem e_mod {a b : Int} : dMod (.int a) (.int b) = if 0 < b then some (.int (a % b)) else none := rfl
theorem e_div {a b : Int} : dDiv (.int a) (.int b) = if 0 < b ∧ b < 1073741824 then some (.int (a / b)) else none := rfl
theorem e_mul {a b : Int} : dMul (.int a) (.int b) = if CMulB a b then some (.int (a * b)) else none := rfl
theorem e_lti {a b : Int} : dLt (.int a) (.int b) = some (.bl (decide (a < b))) := rfl
theorem e_gti {a b : Int} : dGt (.int a) (.int b) = some (.bl (decide (b < a))) := rfl
theorem e_lei {a b : Int} : dLe (.int a) (.int b) = some (.bl (decide (a ≤ b))) := rfl
theorem e_gei {a b : Int} : dGe (.int a) (.int b) = some (.bl (decide (b ≤ a))) := rfl
theorem e_lenl {xs : List D} : dLen [.lst xs] = some (.int (xs.length : Nat)) := rfl
theorem e_lent {xs : List D} : dLen [.tup xs] = some (.int (xs.length : Nat)) := rfl
theorem e_lens {s : Str} : dLen [.str s] = if s.length ≤ sizeLine then some (.int (s.length : Nat)) else none := rfl
theorem e_intb {b : Bool} : dInt [.bl b] = some (.int (if b then 1 else 0)) := by cases b <;> rfl
theorem e_tupl {xs : List D} : dTuple [.lst xs] = some (.tup xs) := rfl
theorem e_tupt {xs : List D} : dTuple [.tup xs] = some (.tup xs) := rfl
theorem e_listl {xs : List D} : dList [.lst xs] = some xs := rfl
theorem e_listt {xs : List D} : dList [.tup xs] = some xs := rfl
theorem e_isib {b : Bool} : dIsi "bool" (.bl b) = some (.bl true) := rfl
theorem szl : sizeLine = 16777216 := rfl
theorem nodup0 : ([] : List Nat).Nodup = True := by simp
theorem nodup1 {i : Nat} : [i].Nodup = True := by simp
theorem same_s (a b : Str) : same (.str a) (.str b) = decide (a = b) := by
  show (a == b) = _
  exact rfl
theorem e_eqs {a b : Str} : dEq (.str a) (.str b) = some (.bl (decide (a = b))) := by
  show some (D.bl (same (.str a) (.str b))) = _
  rw [same_s]
theorem e_nes {a b : Str} : dNe (.str a) (.str b) = some (.bl (!decide (a = b))) := by
  show some (D.bl (!same (.str a) (.str b))) = _
  rw [same_s]
theorem same_i (a b : Int) : same (.int a) (.int b) = decide (a = b) := by
  show (a == b) = _
  exact rfl
theorem e_eqi {a b : Int} : dEq (.int a) (.int b) = some (.bl (decide (a = b))) := by
  show some (D.bl (same (.int a) (.int b))) = _
  rw [same_i]
theorem e_nei {a b : Int} : dNe (.int a) (.int b) = some (.bl (!decide (a = b))) := by
  show some (D.bl (!same (.int a) (.int b))) = _
  rw [same_i]
theorem same_b (a b : Bool) : same (.bl a) (.bl b) = decide (a = b) := by cases a <;> cases b <;> rfl
theorem e_eqb {a b : Bool} : dEq (.bl a) (.bl b) = some (.bl (decide (a = b))) := by
  show some (D.bl (same (.bl a) (.bl b))) = _
  rw [same_b]
theorem e_neb {a b : Bool} : dNe (.bl a) (.bl b) = some (.bl (!decide (a = b))) := by
  show some (D.bl (!same (.bl a) (.bl b))) = _
  rw [same_b]
theorem atI_n {α : Type} (xs : List α) (k : Nat) : atI xs (k : Int) = xs[k]? := by
  unfold atI ixN
  by_cases h : k < xs.length
  · have h2 : (k : Int) < (xs.length : Int) := by omega
    have h3 : ¬ (k : Int) < 0 := by omega
    simp [h2, h3, h]
  · have h2 : ¬ (k : Int) < (xs.length : Int) := by omega
    have h3 : ¬ (k : Int) < 0 := by omega
    simp [h2, h3]
    omega
theorem e_ixn {xs : List D} {k : Nat} : dIx (.lst xs) (.int (k : Int)) = xs[k]? := atI_n xs k
theorem e_ixtn {xs : List D} {k : Nat} : dIx (.tup xs) (.int (k : Int)) = xs[k]? := atI_n xs k
theorem e_ix0 {xs : List D} : dIx (.lst xs) (.int 0) = xs[0]? := atI_n xs 0
theorem e_ix1 {xs : List D} : dIx (.lst xs) (.int 1) = xs[1]? := atI_n xs 1
theorem e_ix2 {xs : List D} : dIx (.lst xs) (.int 2) = xs[2]? := atI_n xs 2
theorem e_ix3 {xs : List D} : dIx (.lst xs) (.int 3) = xs[3]? := atI_n xs 3
theorem e_ixt0 {xs : List D} : dIx (.tup xs) (.int 0) = xs[0]? := atI_n xs 0
theorem e_ixt1 {xs : List D} : dIx (.tup xs) (.int 1) = xs[1]? := atI_n xs 1
theorem e_ixt2 {xs : List D} : dIx (.tup xs) (.int 2) = xs[2]? := atI_n xs 2
theorem e_ixt3 {xs : List D} : dIx (.tup xs) (.int 3) = xs[3]? := atI_n xs 3
theorem ixn_n (l k : Nat) : ixN l (k : Int) = if k < l then some k else none := by
  unfold ixN
  by_cases h : k < l
  · have h2 : (k : Int) < (l : Int) := by omega
    have h3 : ¬ (k : Int) < 0 := by omega
    simp [h2, h3, h]
  · have h2 : ¬ (k : Int) < (l : Int) := by omega
    have h3 : ¬ (k : Int) < 0 := by omega
    simp [h2, h3, h]
theorem ixn0 {l : Nat} : ixN l 0 = if 0 < l then some 0 else none := ixn_n l 0
theorem ixn1 {l : Nat} : ixN l 1 = if 1 < l then some 1 else none := ixn_n l 1
theorem ixn2 {l : Nat} : ixN l 2 = if 2 < l then some 2 else none := ixn_n l 2
theorem ixn3 {l : Nat} : ixN l 3 = if 3 < l then some 3 else none := ixn_n l 3
def sgn (c : Nat) : Str := ⟨#[c]⟩
theorem e_ixs {z : Str} {k : Nat} : dIx (.str z) (.int (k : Int)) = if z.length ≤ sizeLine then (z.cps.toList[k]?).map fun c => .str (sgn c) else none := by
  show (if z.length ≤ sizeLine then (atI z.cps.toList (k : Int)).map fun c => D.str (sgn c) else none) = _
  rw [atI_n]
theorem e_ixs0 {z : Str} : dIx (.str z) (.int 0) = if z.length ≤ sizeLine then (z.cps.toList[0]?).map fun c => .str (sgn c) else none := e_ixs (k := 0)
theorem plains_str (ws : List Str) : plains (ws.map D.str) = true := by
  induction ws with
  | nil => rfl
  | cons a r ih => show (true && plains (r.map D.str)) = true; rw [ih]; rfl
theorem deps_str (ws : List Str) : deps (ws.map D.str) = 0 := by
  induction ws with
  | nil => rfl
  | cons a r ih => show max 0 (deps (r.map D.str)) = 0; rw [ih]; rfl
theorem cok_strs (ws : List Str) : cok (.lst (ws.map D.str)) = true := by
  show (plains (ws.map D.str) && decide (deps (ws.map D.str) + 1 ≤ 64)) = true
  rw [plains_str, deps_str]; rfl
theorem any_str (ws : List Str) (s : Str) : ((ws.map D.str).any fun z => same z (.str s)) = decide (s ∈ ws) := by
  induction ws with
  | nil => rfl
  | cons a r ih =>
    rw [List.map_cons, List.any_cons, ih, same_s]
    by_cases h : a = s
    · subst h; simp
    · have : ¬ s = a := fun e => h e.symm
      simp [h, this]
theorem e_inw {ws : List Str} {s : Str} : dIn (.str s) (.lst (ws.map D.str)) = some (.bl (decide (s ∈ ws))) := by
  show ((if cok (.str s) && cok (.lst (ws.map D.str)) then some ((ws.map D.str).any fun z => same z (.str s)) else none).map D.bl) = _
  rw [cok_strs, any_str]; rfl
theorem e_ninw {ws : List Str} {s : Str} : dNotIn (.str s) (.lst (ws.map D.str)) = some (.bl (!decide (s ∈ ws))) := by
  show ((if cok (.str s) && cok (.lst (ws.map D.str)) then some ((ws.map D.str).any fun z => same z (.str s)) else none).map fun b => D.bl !b) = _
  rw [cok_strs, any_str]; rfl
theorem flat_strs (ws : List Str) : (ws.map D.str).all flat = true := by
  rw [List.all_eq_true]; intro x hx
  rw [List.mem_map] at hx
  obtain ⟨s, _, rfl⟩ := hx; rfl
theorem e_inwt {ws : List Str} {s : Str} : dIn (.str s) (.tup (ws.map D.str)) = some (.bl (decide (s ∈ ws))) := by
  show ((if flat (.str s) && (ws.map D.str).all flat then some ((ws.map D.str).any fun z => same z (.str s)) else none).map D.bl) = _
  rw [flat_strs, any_str]; rfl
theorem e_ninwt {ws : List Str} {s : Str} : dNotIn (.str s) (.tup (ws.map D.str)) = some (.bl (!decide (s ∈ ws))) := by
  show ((if flat (.str s) && (ws.map D.str).all flat then some ((ws.map D.str).any fun z => same z (.str s)) else none).map fun b => D.bl !b) = _
  rw [flat_strs, any_str]; rfl
theorem mod_nat (r : Int) (k : Nat) (h : 0 < k) : ∃ j : Nat, j < k ∧ r % (k : Int) = j := by
  have h1 : 0 ≤ r % (k : Int) := Int.emod_nonneg _ (by omega)
  have h2 : r % (k : Int) < k := Int.emod_lt_of_pos _ (by omega)
  exact ⟨(r % (k : Int)).toNat, by omega, by omega⟩
end Fz
set_option Elab.async false
set_option linter.all false
set_option maxRecDepth 100000
set_option maxHeartbeats 2000000
namespace Fz
open PySem L2
def W (l : List Nat) : Str := ⟨l.toArray⟩
theorem W_len {l : List Nat} : (W l).length = l.length := by show l.toArray.size = _; simp
theorem W_app {a b : List Nat} : W a ++ W b = W (a ++ b) := by
  show Str.append (W a) (W b) = _
  unfold Str.append W
  simp
theorem sgn_W {c : Nat} : sgn c = W [c] := rfl
theorem mod_natC {r k : Int} (h : 0 < k) : r % k = (((r % k).toNat : Nat) : Int) ∧ (r % k).toNat < k.toNat := by
  have h1 : 0 ≤ r % k := Int.emod_nonneg _ (by omega)
  have h2 : r % k < k := Int.emod_lt_of_pos _ (by omega)
  omega
theorem e_ixlm {xs : List D} {r k : Int} (h : 0 < k) (hk : k.toNat ≤ xs.length) : dIx (.lst xs) (.int (r % k)) = some (xs.getD (r % k).toNat .non) := by
  obtain ⟨e, h2⟩ := mod_natC (r := r) h
  have h4 : (r % k).toNat < xs.length := by omega
  have h3 : dIx (.lst xs) (.int (((r % k).toNat : Nat) : Int)) = some (xs.getD (r % k).toNat .non) := by rw [e_ixn]; simp [h4]
  rw [← e] at h3
  exact h3
theorem getD_mem {α : Type} {xs : List α} {i : Nat} {d : α} (h : i < xs.length) : xs.getD i d ∈ xs := by
  have : xs.getD i d = xs[i] := by simp [h]
  rw [this]; exact List.getElem_mem h
theorem vw_d {x : D} : vw (.d x) = x := rfl
theorem vw_ol {x : List D} : vw (.ol x) = .lst x := rfl
theorem vw_oi {c : Nat} {x : List D} : vw (.oi c x) = .obj c x := rfl
theorem vw_od {x y : List D} : vw (.od x y) = .dct x y := rfl
theorem wh_d {n : Nat → Nat} {x : D} : wholeB n (.d x) = true := rfl
theorem wh_ol {n : Nat → Nat} {x : List D} : wholeB n (.ol x) = true := rfl
theorem wh_od {n : Nat → Nat} {x y : List D} : wholeB n (.od x y) = true := rfl
theorem wh_oi {n : Nat → Nat} {c : Nat} {x : List D} : wholeB n (.oi c x) = (x.length == n c) := rfl
theorem own_no : isOwned none = false := rfl
theorem own_d {x : D} : isOwned (some (.d x)) = false := rfl
theorem e_tys {s : Str} : tyOk "str" (.str s) = true := rfl
def wl (g : D → Sl → Option Sl) (c : M Bool) (e : M D) (vs : List Nat) (ds acc : List D) (s : Sl) (k : List D → Sl → Prop) : Prop := match lcL g c e vs ds acc s with
  | some (ys, s') => k ys s'
  | none => False
def kLcB (st : Sl) (vs : List Nat) (Q : Oc R → Sl → Prop) : List D → Sl → Prop := fun ys s' => Q (.v (.ol ys)) (backS st s' vs)
def kLcU (g : D → Sl → Option Sl) (c : M Bool) (e : M D) (vs : List Nat) (ds : List D) (s : Sl) (Q : Oc R → Sl → Prop) : Unit → Prop := fun _ => wl g c e vs ds [] (wipeS s vs) (kLcB s vs Q)
theorem kLcU_a {g : D → Sl → Option Sl} {c : M Bool} {e : M D} {vs : List Nat} {ds : List D} {s : Sl} {Q : Oc R → Sl → Prop} : kLcU g c e vs ds s Q () = wl g c e vs ds [] (wipeS s vs) (kLcB s vs Q) := rfl
theorem kLcB_a {st s' : Sl} {vs : List Nat} {Q : Oc R → Sl → Prop} {ys : List D} : kLcB st vs Q ys s' = Q (.v (.ol ys)) (backS st s' vs) := rfl
def kLc (g : D → Sl → Option Sl) (c : M Bool) (e : M D) (vs : List Nat) (Q : Oc R → Sl → Prop) : Oc (List D) → Sl → Prop := vx Q fun ds s => wc (vs.all (fun i => !isOwned (s.getD i none)) = true) (kLcU g c e vs ds s Q)
theorem kLc_v {g : D → Sl → Option Sl} {c : M Bool} {e : M D} {vs : List Nat} {Q : Oc R → Sl → Prop} {ds : List D} {s : Sl} : kLc g c e vs Q (.v ds) s = wc (vs.all (fun i => !isOwned (s.getD i none)) = true) (kLcU g c e vs ds s Q) := rfl
theorem n_rLc {it : M (List D)} {g : D → Sl → Option Sl} {c : M Bool} {e : M D} {vs : List Nat} {st : Sl} {Q : Oc R → Sl → Prop} : wp (rLc it g c e vs) st Q = wp it st (kLc g c e vs Q) := by
  unfold wp rLc
  cases it st with
  | none => rfl
  | some p =>
    obtain ⟨o, s⟩ := p
    cases o with
    | x c => rfl
    | v ds =>
      simp only [kLc_v, wc, wa, kLcU_a, wl]
      by_cases h : (vs.all (fun i => !isOwned (s.getD i none))) = true
      · simp only [h, if_true, true_and]
        cases lcL g c e vs ds [] (wipeS s vs) with
        | none => rfl
        | some p => rfl
      · simp only [h, if_false, false_and]; simp
theorem wl_inv {g : D → Sl → Option Sl} {c : M Bool} {e : M D} {vs : List Nat} {k : List D → Sl → Prop} (I : List D → List D → Sl → Prop) {ds acc : List D} {s : Sl} (h0 : I ds acc s)
    (hs : ∀ d r acc s, I (d :: r) acc s → wo (g d s) fun s1 => wp c s1 fun o s2 => (o = .v true ∧ wp e s2 fun o s3 => ∃ y, o = .v y ∧ acc.length < sizeLine ∧ I r (acc ++ [y]) (wipeS s3 vs)) ∨ (o = .v false ∧ I r acc (wipeS s2 vs)))
    (h1 : ∀ acc s, I [] acc s → k acc s) : wl g c e vs ds acc s k := by
  induction ds generalizing acc s with
  | nil => exact h1 _ _ h0
  | cons d r ih =>
    obtain ⟨s1, e1, h⟩ := hs d r acc s h0
    unfold wl lcL
    rw [e1]
    simp only []
    unfold wp at h
    revert h
    cases hc : c s1 with
    | none => exact fun h => h.elim
    | some p =>
      obtain ⟨o, s2⟩ := p
      intro h
      rcases h with ⟨rfl, h⟩ | ⟨rfl, h⟩
      · simp only []
        revert h
        cases he : e s2 with
        | none => exact fun h => h.elim
        | some p =>
          obtain ⟨o, s3⟩ := p
          rintro ⟨y, rfl, hl, h⟩
          simp only [hl, if_true]
          exact ih h
      · exact ih h
theorem wl_map {α : Type} {g : D → Sl → Option Sl} {e : M D} {vs : List Nat} {k : List D → Sl → Prop} {xs : List α} (p : α → D) (f : α → D) {acc : List D} {s : Sl} (hl : acc.length + xs.length ≤ sizeLine)
    (hs : ∀ x ∈ xs, wo (g (p x) s) fun s1 => wp e s1 fun o s3 => o = .v (f x) ∧ wipeS s3 vs = s)
    (h1 : k (acc ++ xs.map f) s) : wl g cYes e vs (xs.map p) acc s k := by
  induction xs generalizing acc with
  | nil => simp at h1; exact h1
  | cons d r ih =>
    obtain ⟨s1, e1, h⟩ := hs d (.head _)
    unfold wl
    rw [List.map_cons]
    unfold lcL
    rw [e1]
    simp only [cYes, ret]
    unfold wp at h
    revert h
    cases he : e s1 with
    | none => exact fun h => h.elim
    | some p =>
      obtain ⟨o, s3⟩ := p
      rintro ⟨rfl, h⟩
      simp only [List.length_cons] at hl
      have hl2 : acc.length < sizeLine := by omega
      simp only [hl2, if_true, h]
      refine ih (acc := acc ++ [f d]) (by simp; omega) (fun x hx => hs x (.tail _ hx)) ?_
      simpa using h1
end Fz
set_option Elab.async false
set_option linter.all false
set_option maxRecDepth 100000
set_option maxHeartbeats 2000000
namespace Fz
open PySem L2 PySem.Spec PyProof.Rows
section
variable {prog : Program} {w : World} {A : Around} {Z : Result → Shared → Prop} {E : Value → Shared → Prop} {it : Addr} {tr wr : List Addr} {n : Nat} {P : Nat → Value → Prop} {G : Nat → Heap → Prop}
end
def maxOf (i : Int) : List Int → Int
  | [] => i
  | a :: r => r.foldl max a
def dInts : List D → Option (List Int)
  | [] => some []
  | .int i :: ds => (dInts ds).map (i :: ·)
  | _ => none
def dSum : List D → Option D
  | [.lst xs] => (dInts xs).map fun ns => .int ns.sum
  | _ => none
def dMax2 : List D → Option D
  | [.int i, .int j] => some (.int (max i j))
  | _ => none
def eMaxD (fa : M (List D)) (fb : M D) : M D := bnd fa fun xs => bnd fb fun y => opt (match xs, y with
  | [.lst xs], .int i => (dInts xs).map fun ns => .int (maxOf i ns)
  | _, _ => none)
def dIsc (tab : Nat → Option Bool) : D → Option D
  | .obj c _ => (tab c).map .bl
  | _ => none
structure InsOk (K : PySem.W.Frag) (C : Addr) : Prop where
  ha : PySem.W.findIn K (.ref C) "__class__" = some (some (.builtin "object.__class__"))
  hn : PySem.W.specialIn K (.builtin "object.__class__") "__get__" = some (some (.builtin "getset_descriptor.__get__"))
  htk : PySem.W.takesIn K (.builtin "object.__class__") = some true
  hm : PySem.W.mroIn K C (.type "object") = some true
section
variable {ι : Type} {T : Tab} {E : L2.St → XK} {X : ι → Cx} {kp : Nat → Bool} {pos apos : Pos} {e a b c o : Expr} {es : List Expr} {fa fb fc : M D} {fs : M (List D)} {fl : M (List Arg)} {r : M R} {x m : Str} {te ta : TE} {t : TA}
end
end Fz
set_option Elab.async false
set_option linter.all false
set_option maxRecDepth 100000
set_option maxHeartbeats 2000000
namespace Fz
open PySem L2
def eVarO (n : Nat → Nat) (i : Nat) : M D := fun st => match st[i]? with
  | some (some r) => if wholeB n r = true then some (.v (vw r), st.set i (some (.d (vw r)))) else none
  | _ => none
theorem semE_varO {T : Tab} {E : L2.St → XK} {i : Nat} : SemE T E (tVar i) (eVarO (fun c => (T.flds c).length) i) := by
  intro st σ B F H S o s h Q hQ
  unfold eVarO at h
  split at h
  · rename_i r hi
    split at h
    · rename_i hw
      cases h
      obtain ⟨v, hv, _⟩ := S.rel i _ hi
      obtain ⟨B1, e1, S1, hr⟩ := S.freeze hi (whole_of hw)
      exact ⟨v, hv, hQ B1 H e1 S1 v (hr v hv)⟩
    · cases h
  · cases h
theorem xe_varO {ι : Type} {T : Tab} {E : L2.St → XK} {X : ι → Cx} {x : Str} {pos : Pos} (i : Nat) (hN : ∀ j, (X j).N[i]? = some x := by intro j; rfl) (hv : ∀ j, Vis (X j).env.scope x := by intro j; first | exact Or.inl rfl | exact Or.inr (Or.inl rfl) | exact Or.inr (Or.inr rfl))
    (hd : (x == ("__debug__" : Str)) = false := by decide +kernel) (hcd : (x == ("__classdict__" : Str)) = false := by decide +kernel) : XE T E X (.Name x pos) (eVarO (fun c => (T.flds c).length) i) := ⟨_, fun j => pe_var (hN j) (hv j) hd hcd, semE_varO⟩
def vro (n : Nat → Nat) (o : Option (Option R)) (i : Nat) (st : Sl) (Q : Oc D → Sl → Prop) : Prop := match o with
  | some (some r) => wc (wholeB n r = true) (ku Q (vw r) (stt st i (some (.d (vw r)))))
  | _ => False
theorem vro_r {n : Nat → Nat} {r : R} {i : Nat} {st : Sl} {Q : Oc D → Sl → Prop} : vro n (some (some r)) i st Q = wc (wholeB n r = true) (ku Q (vw r) (stt st i (some (.d (vw r))))) := rfl
theorem n_eVarO {n : Nat → Nat} {i : Nat} {st : Sl} {Q : Oc D → Sl → Prop} : wp (eVarO n i) st Q = vro n (gt st i) i st Q := by
  unfold wp eVarO vro
  rw [gt_eq]
  cases gt st i with
  | none => rfl
  | some o => cases o with
    | none => rfl
    | some r =>
      simp only [wc, wa, ku, stt_eq]
      by_cases h : wholeB n r = true
      · simp [h]
      · simp [h]
def dLIndex : D → List D → Option D
  | .lst xs, [y] => if (cok (.lst xs) && cok y) = true then (xs.findIdx? fun z => same z y).map fun i => .int (i : Nat) else none
  | _, _ => none
theorem p_lindex {T : Tab} : PrimM T (rIndexD T.K) dLIndex := by
  intro x xs z v vs B H Q e hx hy hz k
  unfold dLIndex at hz
  split at hz
  · rename_i ds y
    split at hz
    · rename_i hc
      have hc := (Bool.and_eq_true _ _).mp hc
      cases hf : ds.findIdx? (fun z => same z y) with
      | none => rw [hf] at hz; cases hz
      | some i =>
        rw [hf] at hz; cases hz
        obtain ⟨hi, h1, h2⟩ := List.findIdx?_eq_some_iff_getElem.mp hf
        obtain ⟨u, rfl, ru⟩ := reps1 hy
        have hx0 := hx
        unfold Rep at hx
        obtain ⟨a, us, rfl, _, _⟩ := hx
        refine ⟨a, u, py y, pys ds, i, py ds[i], rfl, rfl, dp_of e (.lst ds) (cok_plain hc.1) hx0, dp_of e y (cok_plain hc.2) ru, cok_shaped hc.1 hx0, cok_shaped hc.2 ru, ?_, h1, fun m z2 hm hz2 => ?_, k _ B H (.refl e) rfl⟩
        · rw [pys_map]; simp [hi]
        · rw [pys_map] at hz2
          have hml : m < ds.length := by omega
          simp [hml] at hz2
          subst hz2
          have := h2 m hm
          simpa [same] using this
    · cases hz
  · cases hz
theorem xe_lindex {ι : Type} {T : Tab} {E : L2.St → XK} {X : ι → Cx} {pos apos : Pos} {e o : Expr} {fa : M D} {fs : M (List D)} (hu : Rm X) (ho : XE T E X o fa) (ha : XA T E X [e] fs) (hK : ∀ j, (X j).K = T.K := by intro j; rfl) (k : MtOk X o e [] "index" apos pos := by exact ⟨fun j => rfl, fun j => rfl, rfl, fun j => rfl, fun j => rfl⟩) : XE T E X (.Call (.Attribute o "index" apos) [e] [] pos) (eMt "list" dLIndex fa fs) :=
  xe_mt PySem.F.plainAttrs_list PySem.F.slot_list_index PySem.F.type_list_index p_lindex (fun j => by rw [← hK j]; exact mt_indexD (hu j)) ho ha hK k
theorem e_tyl {xs : List D} : tyOk "list" (.lst xs) = true := rfl
theorem wd_krn {b : Bool} {Q : Oc D → Sl → Prop} {s : Sl} : wd b (krn Q s) = Q (.v (.bl !b)) s := rfl
def dMaxD (xs : List D) (y : D) : Option D := match xs, y with
  | [.lst xs], .int i => (dInts xs).map fun ns => .int (maxOf i ns)
  | _, _ => none
theorem dMaxD_i {xs : List D} {i : Int} : dMaxD [.lst xs] (.int i) = (dInts xs).map fun ns => .int (maxOf i ns) := rfl
def kMx2 (xs : List D) (Q : Oc D → Sl → Prop) : Oc D → Sl → Prop := vx Q fun y s => wo (dMaxD xs y) (kr Q s)
theorem kMx2_v (xs : List D) (Q : Oc D → Sl → Prop) (y : D) (s : Sl) : kMx2 xs Q (.v y) s = wo (dMaxD xs y) (kr Q s) := rfl
def kMx1 (fb : M D) (Q : Oc D → Sl → Prop) : Oc (List D) → Sl → Prop := vx Q fun xs s => wp fb s (kMx2 xs Q)
theorem kMx1_v (fb : M D) (Q : Oc D → Sl → Prop) (xs : List D) (s : Sl) : kMx1 fb Q (.v xs) s = wp fb s (kMx2 xs Q) := rfl
theorem n_eMaxD {st : Sl} {fa : M (List D)} {fb : M D} {Q : Oc D → Sl → Prop} : wp (eMaxD fa fb) st Q = wp fa st (kMx1 fb Q) := by
  unfold eMaxD
  rw [wp_bnd]
  refine congrArg _ ?_
  funext o s
  cases o with
  | x c => rfl
  | v xs =>
    show wp (bnd fb _) s Q = wp fb s (kMx2 xs Q)
    rw [wp_bnd]
    refine congrArg _ ?_
    funext o s
    cases o with
    | x c => rfl
    | v y => exact wp_opt
theorem dSum_i {xs : List D} : dSum [.lst xs] = (dInts xs).map fun ns => .int ns.sum := rfl
theorem dInts_nil : dInts [] = some [] := rfl
theorem dInts_cons {i : Int} {xs : List D} : dInts (.int i :: xs) = (dInts xs).map (i :: ·) := rfl
theorem maxOf_nil {i : Int} : maxOf i [] = i := rfl
theorem maxOf_one {i a : Int} : maxOf i [a] = a := rfl
theorem maxOf_two {i a b : Int} : maxOf i [a, b] = max a b := rfl
theorem dMax2_i {i j : Int} : dMax2 [.int i, .int j] = some (.int (max i j)) := rfl
theorem isc_o {tab : Nat → Option Bool} {c : Nat} {fs : List D} : dIsc tab (.obj c fs) = (tab c).map .bl := rfl
theorem e_slt1 {x : D} {xs : List D} : dSl (.tup (x :: xs)) (some 1) none = some (.tup xs) := by
  show some (D.tup (cutD (x :: xs) (some 1) none)) = _
  unfold cutD
  have h : HT.sIx (x :: xs).length 0 (some (1 : Int)) = 1 := by
    have := HT.sIx_nat (x :: xs).length 0 1
    simpa using this
  rw [h, HT.sIx_none]
  simp
theorem cast0 : ((0 : Nat) : Int) = 0 := rfl
theorem cast1 : ((1 : Nat) : Int) = 1 := rfl
theorem cast2 : ((2 : Nat) : Int) = 2 := rfl
theorem cast3 : ((3 : Nat) : Int) = 3 := rfl
theorem isT {b : Bool} : dIs (.bl b) (.bl true) = some (.bl b) := by cases b <;> rfl
end Fz
set_option Elab.async false
set_option linter.all false
set_option maxRecDepth 100000
set_option maxHeartbeats 2000000
namespace Fz
open PySem L2
end Fz
set_option Elab.async false
set_option linter.all false
set_option maxRecDepth 100000
set_option maxHeartbeats 2000000
namespace Fz
open PySem L2 PySem.Spec PyProof.Rows
def dStrs : List D → Option (List Str)
  | [] => some []
  | .str s :: ds => (dStrs ds).map (s :: ·)
  | _ => none
def dStr : List D → Option D
  | [.int i] => if 0 ≤ i ∧ i < 2 ^ 62 then some (.str (Str.ofString (toString i))) else none
  | _ => none
theorem num_cps (n : Nat) : (Str.ofString (toString ((n : Nat) : Int))).cps.toList = TL.numL n := TL.tl_num n
theorem p_str {T : Tab} : PrimN T (fun xs H Q => ∃ i, xs = [V.int i] ∧ i.natAbs.log2 < 1920 ∧ Q (.str (toString i)) H) dStr := by
  intro xs z vs B H Q e hx hz k
  unfold dStr at hz
  split at hz
  · rename_i i
    split at hz
    · rename_i hi
      cases hz
      obtain ⟨v, rfl, r⟩ := reps1 hx
      cases rep_int r
      obtain ⟨n, rfl⟩ : ∃ n : Nat, i = n := ⟨i.toNat, by omega⟩
      refine ⟨(n : Int), rfl, ?_, k _ B H (.refl e) ⟨rfl, ?_⟩⟩
      · by_cases h0 : n = 0
        · subst h0; decide
        · have : n < 2 ^ 62 := by omega
          have := (Nat.log2_lt h0).mpr this
          show Nat.log2 n < 1920
          omega
      · rw [strOk_mem, num_cps]
        intro c hc
        have := TL.numL_digits n c hc
        omega
    · cases hz
  · cases hz
section
variable {ι : Type} {T : Tab} {E : L2.St → XK} {X : ι → Cx} {kp : Nat → Bool} {pos apos : Pos} {e a b c o : Expr} {es : List Expr} {fa fb fc : M D} {fs : M (List D)}
theorem xe_strc {p : Pos} (hm : ∀ j, (X j).mg "str" = none) (ha : XA T E X [e] fs) (hg : ∀ j, Gl (X j) "str" := by intro j; rfl) (he : ∀ j, starEach [e] (X j).env = (false, eval e (X j).env) :: starEach [] (X j).env := by intro j; rfl) (hpl : ∀ j, (backTo pos (starEach [] (X j).env)).any (·.1) = false := by intro j; rfl) : XE T E X (.Call (.Name "str" p) [e] [] pos) (eOp dStr fs) :=
  xe_callTy (fun j => call_str_int) p_str hm (by decide +kernel) ha hg (by decide +kernel) (by decide +kernel) he hpl
end
end Fz
set_option Elab.async false
set_option linter.all false
set_option maxRecDepth 100000
set_option maxHeartbeats 2000000
namespace Fz
open PySem L2
def mkE (c nf : Nat) (Q : Oc R → Sl → Prop) : Oc R → Sl → Prop
  | .v (.d .non), some (.oi c2 fs) :: s => wc (c2 = c ∧ fs.length = nf) (ku Q (.oi c fs) s)
  | .x k, _ :: s => Q (.x k) s
  | _, _ => False
theorem mkE_v {c nf c2 : Nat} {Q : Oc R → Sl → Prop} {fs : List D} {s : Sl} : mkE c nf Q (.v (.d .non)) (some (.oi c2 fs) :: s) = wc (c2 = c ∧ fs.length = nf) (ku Q (.oi c fs) s) := rfl
def kMkU (c nf : Nat) (F : Fn) (as : List Arg) (Q : Oc R → Sl → Prop) (s : Sl) : Unit → Prop := fun _ => wp (callF F (.o 0 :: as.map upA)) (some (.oi c []) :: s) (mkE c nf Q)
theorem kMkU_a {c nf : Nat} {F : Fn} {as : List Arg} {Q : Oc R → Sl → Prop} {s : Sl} : kMkU c nf F as Q s () = wp (callF F (.o 0 :: as.map upA)) (some (.oi c []) :: s) (mkE c nf Q) := rfl
def kMk (c nf n : Nat) (F : Fn) (Q : Oc R → Sl → Prop) : Oc (List Arg) → Sl → Prop := vx Q fun as s => wc (as.length + 1 = n) (kMkU c nf F as Q s)
theorem kMk_v {c nf n : Nat} {F : Fn} {Q : Oc R → Sl → Prop} {as : List Arg} {s : Sl} : kMk c nf n F Q (.v as) s = wc (as.length + 1 = n) (kMkU c nf F as Q s) := rfl
theorem n_rMake {c nf n : Nat} {F : Fn} {fl : M (List Arg)} {st : Sl} {Q : Oc R → Sl → Prop} : wp (rMake c nf n F fl) st Q = wp fl st (kMk c nf n F Q) := by
  unfold rMake
  rw [wp_bnd]
  refine congrArg _ ?_
  funext o s
  cases o with
  | x k => rfl
  | v as =>
    show wp (fun st => if as.length + 1 = n then _ else none) s Q = wc (as.length + 1 = n) (kMkU c nf F as Q s)
    unfold wc wa kMkU wp
    by_cases h : as.length + 1 = n
    · simp only [h, if_true, true_and]
      cases callF F (.o 0 :: as.map upA) (some (.oi c []) :: s) with
      | none => rfl
      | some p =>
        obtain ⟨o, s2⟩ := p
        cases o with
        | x k =>
          cases s2 with
          | nil => rfl
          | cons a s2 => rfl
        | v r =>
          cases r with
          | d x =>
            cases x <;> try rfl
            cases s2 with
            | nil => rfl
            | cons a s2 =>
              cases a with
              | none => rfl
              | some r2 =>
                cases r2 <;> try rfl
                rename_i c2 fs
                simp only [mkE, wc, wa, ku]
                by_cases h2 : c2 = c ∧ fs.length = nf
                · simp [h2]
                · simp [h2]
          | _ => rfl
    · simp only [h, if_false, false_and]
theorem upA_o {i : Nat} : upA (.o i) = .o (i + 1) := rfl
theorem upA_v {x : D} : upA (.v x) = .v x := rfl
end Fz
set_option Elab.async false
set_option linter.all false
set_option maxRecDepth 100000
set_option maxHeartbeats 2000000
namespace Fz
open PySem PySem.Spec PyProof.Rows L2
section
variable {P : Program} {w : World} {K : Type} [DecidableEq K] {knd : KeyKind P w K}
def Apart (knd : KeyKind P w K) (l : List (Int × Value)) : Prop := l.Pairwise fun e f => ∀ k, knd.is k e.2 = true → knd.is k f.2 = false
theorem Apart.perm {l l' : List (Int × Value)} (h : Apart knd l) (p : l.Perm l') : Apart knd l' :=
  (p.pairwise_iff (fun {e f} h k q => by
    cases c : knd.is k e.2 with
    | false => rfl
    | true => exact absurd (h k c) (by rw [q]; exact Bool.noConfusion))).mp h
def SetG (knd : KeyKind P w K) (h : Heap) (a : Addr) (S : K → Bool) (n : Nat) : Prop :=
  ∃ o es ep t, h.get? a = some o ∧ o.ExactSet ∧ o.data = .set es ep t ∧ ElemsOf knd es.toList ∧ (∀ k, S k = true ↔ ∃ e ∈ es.toList, knd.is k e.2 = true) ∧ es.size < scanBound ∧ t.fits es.size = true ∧ es.size = n ∧
    Apart knd es.toList ∧ Ris t.place.toList ∧ (w.params.followText "set-order" = true ∨ t.led = true)
theorem SetG.at {h h' : Heap} {a : Addr} {S : K → Bool} {n : Nat} (R : SetG knd h a S n) (k : ∀ o, h.get? a = some o → h'.get? a = some o) : SetG knd h' a S n := by
  obtain ⟨o, es, ep, t, ho, r⟩ := R
  exact ⟨o, es, ep, t, k o ho, r⟩
theorem SetG.congr {h : Heap} {a : Addr} {S S' : K → Bool} {n : Nat} (R : SetG knd h a S n) (e : ∀ k, S' k = S k) : SetG knd h a S' n := by
  rw [show S' = S from funext e]; exact R
variable {A : Around} {E : Value → Shared → Prop} {s : Shared} {a : Addr} {S : K → Bool} {n : Nat}
end
section
variable {prog : Program} {w : World} {K : Type} [DecidableEq K] {knd : PySem.KeyKind prog w K}
def Some (ks : List K) (i : Nat) : K → Bool := fun k => (ks.take i).any fun x => decide (x = k)
theorem Some.succ {ks : List K} {i : Nat} {k : K} (h : ks[i]? = some k) (j : K) : Some ks (i + 1) j = (Some ks i j || decide (j = k)) := by
  unfold Some
  have hl : i < ks.length := by
    by_cases c : i < ks.length
    · exact c
    · rw [List.getElem?_eq_none (by omega)] at h; cases h
  rw [List.take_add_one, h]
  simp only [Option.toList_some, List.any_append, List.any_cons, List.any_nil, Bool.or_false]
  congr 1
  exact decide_eq_decide.mpr eq_comm
end
section
variable {prog : Program} {w : World} {A : Around} {E : Value → Shared → Prop} {s : Shared}
end
end Fz
set_option Elab.async false
set_option linter.all false
set_option maxRecDepth 100000
set_option maxHeartbeats 2000000
namespace Fz
open PySem PySem.Spec PyProof.Rows L2
section
variable {P : Program} {w : World} {A : Around} {E : Value → Shared → Prop} {s : Shared} {a : Addr}
end
end Fz
set_option Elab.async false
set_option linter.all false
set_option maxRecDepth 100000
set_option maxHeartbeats 2000000
namespace Fz
open PySem PySem.Spec PyProof.Rows L2
section
variable {X : Cx} {e : Expr} {es : List Expr} {t : TA}
end
section
variable {ι : Type} {T : Tab} {E : L2.St → XK} {X : ι → Cx} {pos : Pos} {e : Expr} {fs : M (List D)}
end
end Fz
set_option Elab.async false
set_option linter.all false
set_option maxRecDepth 100000
set_option maxHeartbeats 2000000
namespace Fz
open PySem L2 PySem.Spec PyProof.Rows
def rDct0 : M R := fun st => some (.v (.od [] []), st)
theorem dct_of {T : Tab} {B H : Hp} {p : Addr} {ep : Nat} {kvs : List (Key × V)} {ks : List D} (h : H p = some (dG T.w p ep (ofK kvs))) (ok : DGOk p (ofK kvs)) (k : DKeys ks (kvs.map (·.1))) : DctAt T B H p ks (kvs.map (·.2)) := by
  refine ⟨ep, _, h, ok, ?_, by unfold ofK; rw [List.map_map]; rfl⟩
  clear h ok
  induction kvs generalizing ks with
  | nil =>
    cases ks with
    | nil => unfold KReps; rfl
    | cons d ds => unfold DKeys at k; obtain ⟨_, _, e, _⟩ := k; cases e
  | cons kv kvs ih =>
    cases ks with
    | nil => unfold DKeys at k; cases k
    | cons d ds =>
      unfold DKeys at k
      obtain ⟨q, r, e, k1, k2⟩ := k
      simp only [List.map_cons, List.cons.injEq] at e
      obtain ⟨rfl, rfl⟩ := e
      show KReps T B (d :: ds) (.v kv.1 :: (ofK kvs).map (·.1))
      unfold KReps
      exact ⟨_, _, rfl, k1, ih k2⟩
theorem semR_dct0 {T : Tab} {E : L2.St → XK} : SemR T E (tToG T.w tDNewK) rDct0 := by
  intro st σ B F H S o s h Q hQ
  cases h
  refine fun p hp => ⟨p, [], rfl, upd_same, fun ep ok => ?_⟩
  rw [upd_upd]
  exact hQ _ B _ (.refl _) (S.alloc hp dg_notTup (relR_od (xs := []) (dct_of upd_same ok rfl) reps_nil))
theorem xr_dct0 {ι : Type} {T : Tab} {E : L2.St → XK} {X : ι → Cx} {pos : Pos} (hW : ∀ j, (X j).w = T.w := by intro j; rfl) : XR T E X (.Dict [] [] pos) rDct0 := ⟨_, fun j => by rw [← hW j]; exact pe_toG pe_dnewK, semR_dct0⟩
theorem n_rDct0 {st : Sl} {Q : Oc R → Sl → Prop} : wp rDct0 st Q = Q (.v (.od [] [])) st := rfl
end Fz
set_option Elab.async false
set_option linter.all false
set_option maxRecDepth 100000
set_option maxHeartbeats 2000000
namespace Fz
open PySem L2 PySem.Spec PyProof.Rows
def gRev : D → Option (List D)
  | .lst xs => some xs.reverse
  | _ => none
def rRev (fa : M D) : M R := bnd fa fun x => opt ((gRev x).map .ol)
theorem reps_reverse {T : Tab} {B : Hp} : ∀ {ds : List D} {vs : List V}, Reps T B ds vs → Reps T B ds.reverse vs.reverse
  | [], vs, r => by unfold Reps at r; subst r; exact reps_nil
  | d :: ds, vs, r => by
    unfold Reps at r
    obtain ⟨v, u, rfl, h1, h2⟩ := r
    rw [List.reverse_cons, List.reverse_cons]
    exact (reps_reverse h2).append (reps_cons h1 reps_nil)
theorem semR_rev {T : Tab} {E : L2.St → XK} {te : TE} {fa : M D} (ha : SemE T E te fa) : SemR T E (tRevL T.K te) (rRev fa) := by
  intro st σ B F H S o s h Q hQ
  rcases bnd_some h with ⟨c, e1, rfl⟩ | ⟨a, s1, e1, e2⟩
  · exact ha st σ B F H S _ _ e1 _ hQ
  · obtain ⟨z, hz, rfl, rfl⟩ := opt_some e2
    refine ha st σ B F H S _ _ e1 _ fun B1 H1 x1 S1 v hv => ?_
    cases a with
    | lst xs =>
      cases hz
      unfold Rep at hv
      obtain ⟨p, ys, rfl, h2, h3⟩ := hv
      exact ⟨p, ys, rfl, S1.exB.sqL h2, fun l hl => hQ _ B1 _ x1 (S1.alloc hl (fun _ z => nomatch z) (relR_ol upd_same (reps_reverse h3)))⟩
    | _ => cases hz
theorem xr_rev {ι : Type} {T : Tab} {E : L2.St → XK} {X : ι → Cx} {e : Expr} {fa : M D} {k : Nat} {p1 p2 p3 pos : Pos} (ha : XE T E X e fa) (hK : ∀ j, (X j).K = T.K := by intro j; rfl) : XR T E X (.Subscript e (.Slice none none (some (.UnaryOp .USub (.Constant (.int 1) k p1) p2)) p3) pos) (rRev fa) :=
  let ⟨_, a1, a2⟩ := ha; ⟨_, fun j => by rw [← hK j]; exact pe_revL (a1 j), semR_rev a2⟩
def kRev (Q : Oc R → Sl → Prop) : Oc D → Sl → Prop := vx Q fun x s => wo (gRev x) (krl Q s)
theorem kRev_v (Q : Oc R → Sl → Prop) (x : D) (s : Sl) : kRev Q (.v x) s = wo (gRev x) (krl Q s) := rfl
theorem kRev_x (Q : Oc R → Sl → Prop) (c : Nat) (s : Sl) : kRev Q (.x c) s = Q (.x c) s := rfl
theorem n_rRev {fa : M D} {st : Sl} {QR : Oc R → Sl → Prop} : wp (rRev fa) st QR = wp fa st (kRev QR) := by
  unfold rRev; rw [wp_bnd]; simp only [wp_opt]; unfold kRev
  congr 1; congr 1; funext x s
  cases gRev x with
  | none => (simp only [Option.map_none]; rw [wo_none, wo_none])
  | some z => (simp only [Option.map_some]; rw [wo_some, wo_some, krl_a])
theorem gRev_l {xs : List D} : gRev (.lst xs) = some xs.reverse := rfl
end Fz
set_option Elab.async false
set_option linter.all false
set_option maxRecDepth 100000
set_option maxHeartbeats 2000000
namespace Fz
open PySem L2 PySem.Spec PyProof.Rows
def ExQ (cls : Value) (a : Addr) : HO := .ext fun h => ∃ (oe : Obj) (vs : Array Value), h.get? a = some oe ∧ Zc cls none oe ∧ oe.data = .fields vs
def xoT (K : PySem.W.Frag) (cls : Nat → Str) : Nat → Addr → List V → HO := fun k a xs => match xs with
  | [] => ExQ (.ref (He.ga K (cls k))) a
  | _ => .ext fun _ => False
section
variable {X : Cx} {x n : Str} {c : Value} {i : Nat} {body suite orelse : List Stmt} {b₀ : Stmt} {np pos pos' : Pos} {tb : WX → TS} {ts u : TS} {Wout : WX}
end
end Fz
set_option Elab.async false
set_option linter.all false
set_option maxRecDepth 100000
set_option maxHeartbeats 2000000
namespace Fz
open PySem L2 PySem.Spec PyProof.Rows
structure RoomQ (k : Nat) (A : Around) : Prop where
  dp : A.depth + 3 * k + 5 < recursionLimit
  un : A.units + 16 * k + 200 < cLine
theorem RoomQ.mono {j k : Nat} {A : Around} (r : RoomQ k A) (h : j ≤ k) : RoomQ j A := ⟨by have := r.dp; omega, by have := r.un; omega⟩
theorem RoomQ.deeper {k : Nat} {A : Around} (r : RoomQ (k + 1) A) (env : Env) : RoomQ k (A.deeper env) :=
  ⟨by have := r.dp; show A.depth + 1 + 3 * k + 5 < _; omega, by have := r.un; show A.units + 3 + 16 * k + 200 < _; omega⟩
theorem roomQ_of {k : Nat} {A : Around} (r : Room k A) : RoomQ k A := ⟨r.dp, r.un⟩
structure FnQ (P : Program) (w : World) (K : PySem.W.Frag) (mg : Str → Option Value) (base : Heap) (k : Nat) (f : Addr) (fd : FuncData) (ps : List Str) (sp : Sp) : Prop where
  len : ∀ vs H Q E, sp vs H Q E → vs.length = ps.length
  run : ∀ (A : Around) (outer : List Env) (s : Shared) (H : Hp) (args : Args) (us : List Value) (vs : List V) (Q : VK) (E : XK), RoomQ k A → Env0 P w K mg base A outer s H → BindsTo s fd args (ps.zip us) → Vals vs us → sp vs H Q E →
    codeAny (model P w) A (.call (.ref f) args) (CR (L2.CX P w) outer P w H s Q E) s
theorem FnQ.ok {P : Program} {w : World} {K : PySem.W.Frag} {mg : Str → Option Value} {base : Heap} {k : Nat} {f : Addr} {fd : FuncData} {ps : List Str} {sp : Sp} (F : FnQ P w K mg base k f fd ps sp) : FnOk P w K mg base (L2.CX P w) k f fd ps sp :=
  ⟨F.len, fun A outer s H args us vs Q E hr => F.run A outer s H args us vs Q E (roomQ_of hr)⟩
theorem FnQ.mono {P : Program} {w : World} {K : PySem.W.Frag} {mg : Str → Option Value} {base : Heap} {j k : Nat} {f : Addr} {fd : FuncData} {ps : List Str} {sp : Sp} (F : FnQ P w K mg base j f fd ps sp) (h : j ≤ k) : FnQ P w K mg base k f fd ps sp :=
  ⟨F.len, fun A outer s H args us vs Q E hr => F.run A outer s H args us vs Q E (hr.mono h)⟩
def TkX {ι : Type} (X : ι → Cx) (E : L2.St → XK) : Prop := ∀ j, Takes (X j) (fun cls d σ H => E σ cls d H)
abbrev TrI {ι : Type} (X : ι → Cx) (W : WX) : Type := { q : ι × List (Addr × Obj) × (Value → Shared → Prop) // Takes ((X q.1).tr q.2.1 q.2.2) W ∧ PassesOwn (model (X q.1).prog (X q.1).w) (X q.1).A (X q.1).env q.2.2 }
abbrev TrX {ι : Type} (X : ι → Cx) (W : WX) : TrI X W → Cx := fun q => (X q.1.1).tr q.1.2.1 q.1.2.2
theorem tk_tr {ι : Type} {X : ι → Cx} {W : WX} : TkX (TrX X W) (WE W) := fun q => q.2.1
section
variable {P : Program} {w : World} {T : Tab} {mg : Str → Option Value} {base : Heap} {x m : Str} {n c k j : Nat} {F : Fn} {ι : Type} {X : ι → Cx} {E : L2.St → XK}
structure Here (P : Program) (w : World) (T : Tab) (mg : Str → Option Value) (base : Heap) (Y : Cx) : Prop where
  p : Y.prog = P
  w : Y.w = w
  k : Y.K = T.K
  m : Y.mg = mg
  b : Y.base = base
theorem pass_tk (tk : TkX X E) (hc : ∀ i, Here P w T mg base (X i)) (i : ι) (σ : L2.St) : PassesAt (L2.CX P w) (X i) σ (E σ) := by
  have h := passAt (tk i) σ
  rw [(hc i).p, (hc i).w] at h
  exact h
theorem FnG.at (G : FnG P w T mg base x n F j) (hc : ∀ i, Here P w T mg base (X i)) (hr : ∀ i, Room k (X i).A) (tk : TkX X E) (h : j ≤ k) (i : ι) : FunAt (X i) T E x n F [] := by
  obtain ⟨f, fd, ps, a, b, c, d⟩ := G.ex
  refine ⟨f, fd, ps, _, j, ?_, ?_, ?_, ?_, (hr i).mono h, pass_tk tk hc i⟩
  · rw [(hc i).m]; exact a
  · rw [(hc i).k]; exact b
  · rw [(hc i).k]; exact c
  · rw [(hc i).p, (hc i).w, (hc i).k, (hc i).m, (hc i).b]; exact d
theorem MtG.at (G : MtG P w T mg base c m n F j) (hc : ∀ i, Here P w T mg base (X i)) (hr : ∀ i, Room k (X i).A) (tk : TkX X E) (h : j ≤ k) (i : ι) : MethAt (X i) T E c m n F := by
  obtain ⟨f, fd, ps, a, b, d⟩ := G.ex
  refine ⟨f, fd, ps, _, j, ?_, ?_, ?_, ?_, (hr i).mono h, pass_tk tk hc i, G.nf⟩
  · rw [(hc i).k]; exact G.cl.cls
  · rw [(hc i).k]; exact a
  · rw [(hc i).k]; exact b
  · rw [(hc i).p, (hc i).w, (hc i).k, (hc i).m, (hc i).b]; exact d
theorem MtT.at {tab : Nat → Option Fn} (G : MtT P w T mg base m n j tab) (hc : ∀ i, Here P w T mg base (X i)) (hr : ∀ i, Room k (X i).A) (tk : TkX X E) (h : j ≤ k) : ∀ (i : ι) c F, tab c = some F → MethAt (X i) T E c m n F := fun i c F hc' => (G c F hc').at hc hr tk h i
theorem MkG.at (G : MkG P w T mg base x c n F j) (hc : ∀ i, Here P w T mg base (X i)) (hr : ∀ i, Room k (X i).A) (tk : TkX X E) (h : j + 1 ≤ k) (i : ι) : MakeAt (X i) T E x c n F := by
  obtain ⟨f, fd, ps, a, b, b', d⟩ := G.ex
  refine ⟨f, fd, ps, _, j, ?_, ?_, ?_, ?_, (hr i).mono h, pass_tk tk hc i⟩
  · rw [(hc i).m]; exact a
  · rw [(hc i).k]; exact b
  · rw [(hc i).k]; exact b'
  · rw [(hc i).p, (hc i).w, (hc i).k, (hc i).m, (hc i).b]; exact d
theorem here_def {N : List Str} {qual : Str} {st : Stmt} {f : Addr} {cdv : Value} {A : Around} {outer : List Env} {s : Shared} {H : Hp} {E : XK} (i : Unit) : Here P w T mg base (CxD P w T mg base N qual st f cdv A outer s H E i) := ⟨rfl, rfl, rfl, rfl, rfl⟩
theorem here_tr {W : WX} (h : ∀ i, Here P w T mg base (X i)) (q : TrI X W) : Here P w T mg base (TrX X W q) := let ⟨a, b, c, d, e⟩ := h q.1.1; ⟨a, b, c, d, e⟩
theorem room_tr {W : WX} (h : ∀ i, Room k (X i).A) (q : TrI X W) : Room k (TrX X W q).A := h q.1.1
structure FnGQ (P : Program) (w : World) (T : Tab) (mg : Str → Option Value) (base : Heap) (x : Str) (n : Nat) (F : Fn) (k : Nat) : Prop where
  ex : ∃ f fd ps, mg x = some (.ref f) ∧ PySem.W.keepIn T.K (.ref f) = true ∧ Binds T.K fd ps [] ∧ FnQ P w T.K mg base k f fd ps (sp T n F)
theorem FnGQ.g (G : FnGQ P w T mg base x n F k) : FnG P w T mg base x n F k := let ⟨f, fd, ps, a, b, c, d⟩ := G.ex; ⟨f, fd, ps, a, b, c, d.ok⟩
theorem FnGQ.mono (G : FnGQ P w T mg base x n F j) (h : j ≤ k) : FnGQ P w T mg base x n F k := let ⟨f, fd, ps, a, b, c, d⟩ := G.ex; ⟨f, fd, ps, a, b, c, d.mono h⟩
end
structure FunAtQ (Y : Cx) (T : Tab) (E : L2.St → XK) (x : Str) (n : Nat) (F : Fn) : Prop where
  ex : ∃ f fd ps k, Y.mg x = some (.ref f) ∧ PySem.W.keepIn Y.K (.ref f) = true ∧ Binds Y.K fd ps [] ∧ FnQ Y.prog Y.w Y.K Y.mg Y.base k f fd ps (sp T n F) ∧ RoomQ k Y.A ∧ (∀ σ, PassesAt (L2.CX Y.prog Y.w) Y σ (E σ))
section
variable {X : Cx} {k : Nat} {f : Addr} {fd : FuncData} {ps : List Str} {sp : Sp} {E : L2.St → XK} {x : Str} {p pos : Pos} {e : Expr} {es : List Expr} {t : TA}
end
section
variable {ι : Type} {T : Tab} {E : L2.St → XK} {X : ι → Cx} {kp : Nat → Bool} {pos apos : Pos} {e a b c o : Expr} {es : List Expr} {fa fb fc : M D} {fs : M (List D)} {fl : M (List Arg)} {r : M R} {x m : Str} {st : Sl} {σ : L2.St} {B F H B' H' : Hp}
theorem FnGQ.q {P : Program} {w : World} {mg : Str → Option Value} {base : Heap} {n k j : Nat} {F : Fn} (G : FnGQ P w T mg base x n F j) (hc : ∀ i, Here P w T mg base (X i)) (hr : ∀ i, RoomQ k (X i).A) (ps : ∀ i σ, PassesAt (L2.CX P w) (X i) σ (E σ)) (h : j ≤ k) (i : ι) : FunAtQ (X i) T E x n F := by
  obtain ⟨f, fd, ps', a, b, c, d⟩ := G.ex
  refine ⟨f, fd, ps', j, ?_, ?_, ?_, ?_, (hr i).mono h, fun σ => ?_⟩
  · rw [(hc i).m]; exact a
  · rw [(hc i).k]; exact b
  · rw [(hc i).k]; exact c
  · rw [(hc i).p, (hc i).w, (hc i).k, (hc i).m, (hc i).b]; exact d
  · rw [(hc i).p, (hc i).w]; exact ps i σ
def sRaise (c : Nat) : MS := fun st => some (.x c, st)
structure GExc (T : Tab) (mg : Str → Option Value) (x : Str) (c : Nat) : Prop where
  g : mg x = some (.ref (T.cls c))
  kp : PySem.W.keepIn T.K (.ref (T.cls c)) = true
  ex : ∃ bmB newId initId, ExcBaseFacts "ValueError" newId initId bmB ∧ PySem.W.excIn T.K (T.cls c) bmB newId = true
  sb : PySem.W.subIn T.K (.ref (T.cls c)) (.type "BaseException") = some true
  ty : PySem.W.typeIn T.K (.ref (T.cls c)) = some (.type "type")
def sTry (i : Option Nat) (body : MS) (mt : Nat → Option Bool) (suite orelse : MS) : MS := fun st => match body st with
  | some (.x c, s) => (match mt c with
    | some true => (match i with
      | some i => (match suite (s.set i (some (.d (.ext c [])))) with
        | some (.x _, _) => none
        | some (.rt r, s2) => some (.rt r, s2)
        | some (f, s2) => some (f, s2.set i none)
        | none => none)
      | none => (match suite s with
        | some (.x _, _) => none
        | r => r))
    | some false => some (.x c, s)
    | none => none)
  | some (.nx, s) => orelse s
  | r => r
def dIsq (tab : Nat → Option Bool) : D → Option D
  | .ext c [] => (tab c).map .bl
  | _ => none
end
end Fz
set_option Elab.async false
set_option linter.all false
set_option maxRecDepth 100000
set_option maxHeartbeats 2000000
namespace Fz
open PySem L2 PySem.Spec PyProof.Rows
section
variable {P : Program} {w : World} {T : Tab} {mg : Str → Option Value} {base : Heap} {N : List Str} {qual : Str} {st : Stmt} {f : Addr} {cdv : Value} {A : Around} {outer : List Env} {s : Shared} {H : Hp} {E : XK} {x m : Str} {n c k j : Nat} {F : Fn} {W : WX}
theorem FnG.t (G : FnG P w T mg base x n F j) (hr : Room k (A.deeper (envOfC qual (defScope st) s.heap.objs.size f cdv))) (h : j ≤ k) (i : TrI (CxD P w T mg base N qual st f cdv A outer s H E) W) : FunAt (TrX (CxD P w T mg base N qual st f cdv A outer s H E) W i) T (WE W) x n F [] :=
  G.at (here_tr here_def) (room_tr fun _ => hr) tk_tr h i
theorem MtT.t {tab : Nat → Option Fn} (G : MtT P w T mg base m n j tab) (hr : Room k (A.deeper (envOfC qual (defScope st) s.heap.objs.size f cdv))) (h : j ≤ k) (i : TrI (CxD P w T mg base N qual st f cdv A outer s H E) W) : ∀ c F, tab c = some F → MethAt (TrX (CxD P w T mg base N qual st f cdv A outer s H E) W i) T (WE W) c m n F :=
  G.at (here_tr here_def) (room_tr fun _ => hr) tk_tr h i
theorem MkG.t (G : MkG P w T mg base x c n F j) (hr : Room k (A.deeper (envOfC qual (defScope st) s.heap.objs.size f cdv))) (h : j + 1 ≤ k) (i : TrI (CxD P w T mg base N qual st f cdv A outer s H E) W) : MakeAt (TrX (CxD P w T mg base N qual st f cdv A outer s H E) W i) T (WE W) x c n F :=
  G.at (here_tr here_def) (room_tr fun _ => hr) tk_tr h i
end
section
variable {w : World} {K : PySem.W.Frag} {h : Heap} {mg : Str → Option Value}
end
section
variable {X : Cx}
end
def sAug (i : Nat) (g : D → D → Option D) (m : M D) : MS := fun st => match st[i]? with
  | some (some (.d x)) => (match m st with
    | some (.v y, s) => (match g x y with
      | some z => some (.nx, s.set i (some (.d z)))
      | none => none)
    | some (.x c, s) => some (.x c, s)
    | none => none)
  | _ => none
section
variable {ι : Type} {T : Tab} {E : L2.St → XK} {X : ι → Cx} {kp : Nat → Bool} {pos : Pos} {e : Expr} {fa : M D} {te : TE} {x : Str}
theorem semS_aug {i : Nat} {ti : TIp} {g : D → D → Option D} (hk : kp i = false) (hp : Prim2 T ti g) (h : SemE T E te fa) : SemS T E kp (tAug i te ti) (sAug i g fa) := by
  intro st σ B F H S fl s hf D hD
  unfold sAug at hf
  split at hf
  · rename_i d hi
    obtain ⟨v, hv, rv⟩ := S.rel i _ hi
    refine ⟨v, hv, ?_⟩
    split at hf
    · rename_i y s1 e1
      split at hf
      · rename_i z hz
        cases hf
        refine h st σ B F H S _ _ e1 _ fun B1 H1 x1 S1 u hu => ?_
        refine hp d y z v u B1 H1 _ S1.exB (Rep.mono x1 d rv) hu hz fun r B2 H2 x2 hr => ?_
        exact hD _ B2 H2 (x1.trans x2.b) (Kp.set hk) (Sim.store ((S1.ext x2).push hr) i)
      · cases hf
    · rename_i c s1 e1
      cases hf
      exact h st σ B F H S _ _ e1 _ fun d B1 H1 x1 S1 => hD d σ B1 H1 x1 (Kp.refl _ _) S1
    · cases hf
  · cases hf
def dAddIS : D → D → Option D
  | .int i, .int j => some (.int (i + j))
  | .str a, .str b => if a.length + b.length ≤ sizeLine then some (.str (a ++ b)) else none
  | _, _ => none
def rAddIS : TIp := fun x y H Q => ipI (fun i j => i + j) x y H Q ∨ (∃ i j, x = .str i ∧ y = .str j ∧ i.length + j.length ≤ sizeLine ∧ Q (.str (i ++ j)) H)
theorem ip_addIS {Y : Cx} : PIp Y .Add rAddIS := by
  intro pins s σ H x y v u Q I r1 r2 h
  rcases h with h | h
  · exact ip_add pins s σ H x y v u Q I r1 r2 h
  · exact iop_add_str pins s σ H x y v u Q I r1 r2 h
theorem p_addIS : Prim2 T rAddIS dAddIS := by
  intro x y z vx vy B H Q e hx hy hz k
  unfold dAddIS at hz
  split at hz
  · cases hz
    cases rep_int hx; cases rep_int hy
    exact .inl ⟨_, _, rfl, rfl, k _ B H (.refl e) rfl⟩
  · split at hz
    · rename_i hl
      cases hz
      obtain ⟨rfl, o1⟩ := rep_str hx
      obtain ⟨rfl, o2⟩ := rep_str hy
      exact .inr ⟨_, _, rfl, rfl, hl, k _ B H (.refl e) ⟨rfl, strOk_app o1 o2⟩⟩
    · cases hz
  · cases hz
theorem xs_aug (i : Nat) {pos' : Pos} (ha : XE T E X e fa) (hN : ∀ j, (X j).N.Nodup) (hk : kp i = false := by rfl) (hi : ∀ j, (X j).N[i]? = some x := by intro j; rfl) (hx : ∀ j, Loc (X j).env.scope x := by intro j; first | exact Or.inl rfl | exact Or.inr rfl) (hf : ∀ j, (X j).fn x = true ∨ (X j).env.scope.names.lookup x = some .local := by intro j; first | exact .inl rfl | exact .inr rfl) :
    XS T E X kp (.AugAssign (.Name x pos') .Add e pos) (sAug i dAddIS fa) :=
  let ⟨_, a1, a2⟩ := ha; ⟨_, fun j => ps_aug (hN j) (hi j) (hx j) (a1 j) ip_addIS (hf j), semS_aug hk p_addIS a2⟩
end
def kTrS (i : Option Nat) (Q : Fl → Sl → Prop) : Fl → Sl → Prop
  | .x _, _ => False
  | .rt r, s => Q (.rt r) s
  | f, s => Q f (match i with | some i => stt s i none | none => s)
theorem kTrS_rt {i : Option Nat} {Q : Fl → Sl → Prop} {r : R} {s : Sl} : kTrS i Q (.rt r) s = Q (.rt r) s := rfl
theorem kTrS_nx {i : Nat} {Q : Fl → Sl → Prop} {s : Sl} : kTrS (some i) Q .nx s = Q .nx (stt s i none) := rfl
theorem kTrS_ct {i : Nat} {Q : Fl → Sl → Prop} {s : Sl} : kTrS (some i) Q .ct s = Q .ct (stt s i none) := rfl
theorem kTrS_nx0 {Q : Fl → Sl → Prop} {s : Sl} : kTrS none Q .nx s = Q .nx s := rfl
def uTr (i : Option Nat) (suite : MS) (Q : Fl → Sl → Prop) (c : Nat) (s : Sl) : Bool → Prop
  | true => ws suite (match i with | some i => stt s i (some (.d (.ext c []))) | none => s) (kTrS i Q)
  | false => Q (.x c) s
theorem uTr_f {i : Option Nat} {suite : MS} {Q : Fl → Sl → Prop} {c : Nat} {s : Sl} : uTr i suite Q c s false = Q (.x c) s := rfl
theorem uTr_t {i : Nat} {suite : MS} {Q : Fl → Sl → Prop} {c : Nat} {s : Sl} : uTr (some i) suite Q c s true = ws suite (stt s i (some (.d (.ext c [])))) (kTrS (some i) Q) := rfl
theorem uTr_t0 {suite : MS} {Q : Fl → Sl → Prop} {c : Nat} {s : Sl} : uTr none suite Q c s true = ws suite s (kTrS none Q) := rfl
def kTr (i : Option Nat) (mt : Nat → Option Bool) (suite orelse : MS) (Q : Fl → Sl → Prop) : Fl → Sl → Prop
  | .x c, s => wo (mt c) (uTr i suite Q c s)
  | .nx, s => ws orelse s Q
  | f, s => Q f s
theorem kTr_x {i : Option Nat} {mt : Nat → Option Bool} {suite orelse : MS} {Q : Fl → Sl → Prop} {c : Nat} {s : Sl} : kTr i mt suite orelse Q (.x c) s = wo (mt c) (uTr i suite Q c s) := rfl
theorem kTr_nx {i : Option Nat} {mt : Nat → Option Bool} {suite orelse : MS} {Q : Fl → Sl → Prop} {s : Sl} : kTr i mt suite orelse Q .nx s = ws orelse s Q := rfl
theorem kTr_rt {i : Option Nat} {mt : Nat → Option Bool} {suite orelse : MS} {Q : Fl → Sl → Prop} {r : R} {s : Sl} : kTr i mt suite orelse Q (.rt r) s = Q (.rt r) s := rfl
theorem n_sTry {i : Option Nat} {mt : Nat → Option Bool} {body suite orelse : MS} {st : Sl} {QS : Fl → Sl → Prop} : ws (sTry i body mt suite orelse) st QS = ws body st (kTr i mt suite orelse QS) := by
  unfold ws sTry
  cases body st with
  | none => rfl
  | some p =>
    obtain ⟨f, s⟩ := p
    cases f with
    | nx => rfl
    | rt r => rfl
    | bk => rfl
    | ct => rfl
    | x c =>
      show _ = wo (mt c) (uTr i suite QS c s)
      dsimp only
      cases mt c with
      | none => rw [wo_none]
      | some b =>
        rw [wo_some]
        cases b with
        | false => rfl
        | true =>
          cases i with
          | none =>
            rw [uTr_t0]; unfold ws
            cases e : suite s with
            | none => simp only [e]
            | some p => obtain ⟨f, s2⟩ := p; cases f <;> simp only [e] <;> rfl
          | some i =>
            rw [uTr_t, ← stt_eq]; unfold ws
            dsimp only
            cases e : suite (s.set i (some (.d (.ext c [])))) with
            | none => simp only [e]
            | some p => obtain ⟨f, s2⟩ := p; cases f <;> simp only [e, stt_eq] <;> rfl
theorem n_sRaise {c : Nat} {st : Sl} {QS : Fl → Sl → Prop} : ws (sRaise c) st QS = QS (.x c) st := rfl
def kAug2 (i : Nat) (g : D → D → Option D) (x : D) (Q : Fl → Sl → Prop) (s : Sl) : D → Prop := fun z => Q .nx (stt s i (some (.d z)))
theorem kAug2_a {i : Nat} {g : D → D → Option D} {x : D} {Q : Fl → Sl → Prop} {s : Sl} {z : D} : kAug2 i g x Q s z = Q .nx (stt s i (some (.d z))) := rfl
def kAug (i : Nat) (g : D → D → Option D) (x : D) (Q : Fl → Sl → Prop) : Oc D → Sl → Prop := vs Q fun y s => wo (g x y) (kAug2 i g x Q s)
theorem kAug_v {i : Nat} {g : D → D → Option D} {x y : D} {Q : Fl → Sl → Prop} {s : Sl} : kAug i g x Q (.v y) s = wo (g x y) (kAug2 i g x Q s) := rfl
theorem kAug_x {i c : Nat} {g : D → D → Option D} {x : D} {Q : Fl → Sl → Prop} {s : Sl} : kAug i g x Q (.x c) s = Q (.x c) s := rfl
def gD (o : Option (Option R)) (k : D → Prop) : Prop := match o with
  | some (some (.d x)) => k x
  | _ => False
theorem gD_d {x : D} {k : D → Prop} : gD (some (some (.d x))) k = k x := rfl
def kAug1 (i : Nat) (g : D → D → Option D) (m : M D) (st : Sl) (Q : Fl → Sl → Prop) : D → Prop := fun x => wp m st (kAug i g x Q)
theorem kAug1_a {i : Nat} {g : D → D → Option D} {m : M D} {st : Sl} {Q : Fl → Sl → Prop} {x : D} : kAug1 i g m st Q x = wp m st (kAug i g x Q) := rfl
theorem n_sAug {i : Nat} {g : D → D → Option D} {m : M D} {st : Sl} {QS : Fl → Sl → Prop} : ws (sAug i g m) st QS = gD (gt st i) (kAug1 i g m st QS) := by
  unfold ws sAug
  rw [gt_eq]
  cases e : gt st i with
  | none => rfl
  | some o =>
    cases o with
    | none => rfl
    | some r =>
      cases r with
      | d x =>
        rw [gD_d, kAug1_a]; unfold wp
        dsimp only
        cases m st with
        | none => rfl
        | some p =>
          obtain ⟨o, s⟩ := p
          cases o with
          | x c => rfl
          | v y =>
            show _ = wo (g x y) (kAug2 i g x QS s)
            dsimp only
            cases g x y with
            | none => rw [wo_none]
            | some z => rw [wo_some, kAug2_a, ← stt_eq]
      | _ => rfl
theorem dAddIS_i {i j : Int} : dAddIS (.int i) (.int j) = some (.int (i + j)) := rfl
theorem dIsq_e {tab : Nat → Option Bool} {c : Nat} : dIsq tab (.ext c []) = (tab c).map .bl := rfl
end Fz
namespace Fz
open PySem L2 PySem.Spec PyProof.Rows
end Fz
namespace Fz
open PySem L2
theorem smallI_n {n : Nat} (h : n ≤ 1000000000) : smallI (n : Int) = true := by
  unfold smallI
  rw [decide_eq_true_eq]
  omega
theorem dR1_n {n : Nat} (h : n ≤ 1000000000) : dR1 [.int (n : Int)] = some (rngD 0 n) := by
  rw [dR1_i, smallI_n h, Int.toNat_natCast]; rfl
end Fz
namespace Fz
open PySem L2 PySem.Spec PyProof.Rows
section
variable {ι : Type} {T : Tab} {E : L2.St → XK} {X : ι → Cx} {pos : Pos} {a b : Expr} {fa fb : M D}
end
end Fz
namespace Fz
open PySem L2
end Fz
namespace Fz
theorem mkE_x {c nf k : Nat} {Q : Oc R → Sl → Prop} {o : Option R} {s : Sl} : mkE c nf Q (.x k) (o :: s) = Q (.x k) s := rfl
end Fz
set_option Elab.async false
set_option linter.all false
set_option maxRecDepth 100000
set_option maxHeartbeats 2000000
namespace Fz
open PySem L2 PySem.Spec PyProof.Rows
section
variable {prog : Program} {w : World} {h : Heap} {T : Tab} {H : Hp}
end
structure Nicp (p : PyData) (n k : Nat) : Prop where
  sh : p.leavesShort 24 = true
  wt : p.weight ≤ n
  dp : p.depth ≤ k
  ok : PyData.strOk p.shown = true
structure Nicps (ps : List PyData) (n k : Nat) : Prop where
  sh : PyData.leavesShortAll 24 ps = true
  wt : PyData.weightAll ps ≤ n
  dp : PyData.depthAll ps ≤ k
  ok : ∀ t ∈ PyData.shownAll ps, PyData.strOk t = true
theorem Nicp.len {p : PyData} {n k : Nat} (h : Nicp p n k) (hn : n ≤ 600000) : p.shown.length ≤ sizeLine := by
  have a := PyData.shown_le 24 (by decide) p h.sh
  have := h.wt
  have e : sizeLine = 16777216 := by decide
  omega
end Fz
set_option Elab.async false
set_option linter.all false
set_option maxRecDepth 100000
set_option maxHeartbeats 4000000
namespace PySem.AutoSeq1
open PySem
end PySem.AutoSeq1
namespace Fz
open PySem L2 PySem.Spec PyProof.Rows
section
variable {ι : Type} {T : Tab} {E : L2.St → XK} {X : ι → Cx} {pos : Pos} {a b : Expr} {fa fb : M D}
end
end Fz
set_option Elab.async false
set_option linter.all false
set_option maxRecDepth 100000
set_option maxHeartbeats 4000000
namespace PySem.AutoSeq1
open PySem
end PySem.AutoSeq1
namespace Fz
open PySem L2 PySem.Spec PyProof.Rows
end Fz
set_option Elab.async false
set_option linter.all false
set_option maxRecDepth 100000
set_option maxHeartbeats 1000000
namespace Fz
open PySem L2 PySem.Spec PyProof.Rows
section
variable {prog : Program} {w : World} {A : Around} {E : Value → Shared → Prop} {s : Shared}
end
end Fz
set_option Elab.async false
set_option linter.all false
set_option maxRecDepth 100000
set_option maxHeartbeats 2000000
namespace Fz
open PySem L2
def ixR : Option (Option R) → D → Option D
  | some (some (.ol xs)), y => dIx (.lst xs) y
  | some (some (.d x)), y => dIx x y
  | _, _ => none
def eIxO (i : Nat) (fb : M D) : M D := fun st => match st[i]? with
  | some (some _) => bnd fb (fun y s => opt (ixR s[i]? y) s) st
  | _ => none
section
variable {T : Tab} {E : L2.St → XK} {fb : M D} {tb : TE}
theorem semE_ixO {i : Nat} (hb : SemE T E tb fb) : SemE T E (tOp (rIx T.K) (tVar i) tb) (eIxO i fb) := by
  intro st σ B F H S o s h Q hQ
  unfold eIxO at h
  split at h
  · rename_i r0 hi0
    obtain ⟨v, hv, _⟩ := S.rel i _ hi0
    refine ⟨v, hv, ?_⟩
    refine okx_bnd h hQ (fun o1 s1 e1 q => hb st σ B F H S o1 s1 e1 _ q) fun y s1 B1 H1 _ h2 e1 S1 hQ1 u hu => ?_
    obtain ⟨z, hz, rfl, rfl⟩ := opt_some h2
    cases hs : s[i]? with
    | none => rw [hs] at hz; cases hz
    | some q =>
      rw [hs] at hz
      cases q with
      | none => cases hz
      | some r =>
        obtain ⟨v', hv', rel⟩ := S1.rel i r hs
        rw [hv] at hv'; cases hv'
        cases r with
        | ol xs =>
          have hz : dIx (.lst xs) y = some z := hz
          obtain ⟨a, ys, rfl, h3, h4⟩ := rel
          cases y with
          | int i =>
            have hz : atI xs i = some z := hz
            cases rep_int hu
            obtain ⟨w, g1, g2⟩ := atI_reps h4 hz
            exact .inl ⟨a, ys, _, w, rfl, rfl, .inl (.inl h3), g1, hQ1 B1 H1 (Ex.refl _) S1 w g2⟩
          | _ => cases hz
        | d x => exact p_ix x y z v u B1 H1 Q S1.exB rel hu hz fun u B3 H3 e3 hu => hQ1 B3 H3 e3.b (S1.ext e3) u hu
        | _ => cases hz
  · cases h
end
section
variable {ι : Type} {T : Tab} {E : L2.St → XK} {X : ι → Cx} {pos p2 : Pos} {b : Expr} {fb : M D} {x : Str}
theorem xe_ixO (i : Nat) (hb : XE T E X b fb) (hs : PlainIx b := by exact fun _ _ => rfl) (hK : ∀ j, (X j).K = T.K := by intro j; rfl) (hN : ∀ j, (X j).N[i]? = some x := by intro j; rfl) (hv : ∀ j, Vis (X j).env.scope x := by intro j; first | exact Or.inl rfl | exact Or.inr (Or.inl rfl) | exact Or.inr (Or.inr rfl))
    (hd : (x == ("__debug__" : Str)) = false := by decide +kernel) (hcd : (x == ("__classdict__" : Str)) = false := by decide +kernel) : XE T E X (.Subscript (.Name x p2) b pos) (eIxO i fb) :=
  let ⟨_, b1, b2⟩ := hb; ⟨_, fun j => pe_ix (by rw [← hK j]; exact ix_seq) (pe_var (hN j) (hv j) hd hcd) (b1 j) hs, semE_ixO b2⟩
end
def kIxO (i : Nat) (Q : Oc D → Sl → Prop) : Oc D → Sl → Prop := vx Q fun y s => wo (ixR (gt s i) y) (kr Q s)
theorem kIxO_v {i : Nat} {Q : Oc D → Sl → Prop} {y : D} {s : Sl} : kIxO i Q (.v y) s = wo (ixR (gt s i) y) (kr Q s) := rfl
theorem kIxO_x {i : Nat} {Q : Oc D → Sl → Prop} {c : Nat} {s : Sl} : kIxO i Q (.x c) s = Q (.x c) s := rfl
theorem n_eIxO {i : Nat} {fb : M D} {st : Sl} {Q : Oc D → Sl → Prop} : wp (eIxO i fb) st Q = isR (gt st i) (wp fb st (kIxO i Q)) := by
  rw [← gt_eq]
  unfold eIxO isR
  cases h : st[i]? with
  | none => simp only [wp, h]
  | some o => cases o with
    | none => simp only [wp, h]
    | some r =>
      have e : wp (bnd fb fun y s => opt (ixR s[i]? y) s) st Q = wp fb st (kIxO i Q) := by
        rw [wp_bnd]
        refine congrArg _ ?_
        funext o s
        cases o with
        | x c => rfl
        | v y =>
          show wp (opt (ixR s[i]? y)) s Q = wo (ixR (gt s i) y) (kr Q s)
          rw [gt_eq]
          exact wp_opt
      rw [← e]
      simp only [wp, h]
theorem ixR_ol {xs : List D} {y : D} : ixR (some (some (.ol xs))) y = dIx (.lst xs) y := rfl
theorem ixR_d {x y : D} : ixR (some (some (.d x))) y = dIx x y := rfl
end Fz
set_option Elab.async false
set_option linter.all false
set_option maxRecDepth 100000
set_option maxHeartbeats 1000000
namespace Fz
open PySem L2 PySem.Spec PyProof.Rows
section
variable {prog : Program} {w : World} {A : Around} {E : Value → Shared → Prop} {s : Shared}
end
end Fz
set_option Elab.async false
set_option linter.all false
set_option maxRecDepth 100000
set_option maxHeartbeats 2000000
namespace Fz
open PySem L2 PySem.Spec PyProof.Rows
section
variable {ι : Type} {T : Tab} {E : L2.St → XK} {X : ι → Cx} {pos : Pos} {a b : Expr} {fa fb : M D}
end
end Fz
set_option Elab.async false
set_option linter.all false
set_option maxRecDepth 100000
set_option maxHeartbeats 2000000
namespace Fz
open PySem L2
def rngC (lo c : Int) (n : Nat) : List D := (List.range n).map fun (i : Nat) => D.int (lo + (i : Nat) * c)
section
variable {T : Tab} {E : L2.St → XK} {ta : TA} {fs : M (List D)}
def dR3 : List D → Option (List D)
  | [.int i, .int j, .int c] => if c ≠ 0 ∧ c.natAbs < 1073741824 ∧ Builtin.Range.small i j c = true ∧ Builtin.Range.rangeSize i j c = ((Builtin.Range.rangeSize i j c).toNat : Int) then some (rngC i c (Builtin.Range.rangeSize i j c).toNat) else none
  | _ => none
def iR3 (fa : M (List D)) : M (List D) := bnd fa fun xs => opt (dR3 xs)
end
def kR3 (Q : Oc (List D) → Sl → Prop) : Oc (List D) → Sl → Prop := vx Q fun xs s => wo (dR3 xs) (kr Q s)
theorem kR3_v {Q : Oc (List D) → Sl → Prop} {xs : List D} {s : Sl} : kR3 Q (.v xs) s = wo (dR3 xs) (kr Q s) := rfl
theorem n_iR3 {fa : M (List D)} {st : Sl} {Q : Oc (List D) → Sl → Prop} : wp (iR3 fa) st Q = wp fa st (kR3 Q) := by
  unfold iR3
  rw [wp_bnd]
  refine congrArg _ ?_
  funext o s
  cases o with
  | x c => rfl
  | v xs => exact wp_opt
end Fz
set_option Elab.async false
set_option linter.all false
set_option maxRecDepth 100000
set_option maxHeartbeats 2000000
namespace Fz
open PySem L2
def rMethX (c0 n : Nat) (tab : Nat → Option Fn) (fa : M D) (fl : M (List Arg)) : M R := fun st => match fa st with
  | some (.x c, s) => if (tab c0).isSome = true then some (.x c, s) else none
  | _ => rMeth n tab fa fl st
section
variable {ι : Type} {T : Tab} {E : L2.St → XK} {X : ι → Cx} {pos apos : Pos} {o : Expr} {fa : M D} {fl : M (List Arg)} {m : Str} {ta : TE} {t : TA}
end
def kMeX (c0 n : Nat) (tab : Nat → Option Fn) (fl : M (List Arg)) (Q : Oc R → Sl → Prop) : Oc D → Sl → Prop := fun o s => match o with
  | .v x => kMeth n tab fl Q (.v x) s
  | .x c => wc ((tab c0).isSome = true) (fun _ => Q (.x c) s)
theorem kMeX_v {c0 n : Nat} {tab : Nat → Option Fn} {fl : M (List Arg)} {Q : Oc R → Sl → Prop} {x : D} {s : Sl} : kMeX c0 n tab fl Q (.v x) s = kMeth n tab fl Q (.v x) s := rfl
theorem kMeX_x {c0 n : Nat} {tab : Nat → Option Fn} {fl : M (List Arg)} {Q : Oc R → Sl → Prop} {c : Nat} {s : Sl} : kMeX c0 n tab fl Q (.x c) s = ((tab c0).isSome = true ∧ Q (.x c) s) := rfl
theorem n_rMethX {c0 n : Nat} {tab : Nat → Option Fn} {fa : M D} {fl : M (List Arg)} {st : Sl} {Q : Oc R → Sl → Prop} : wp (rMethX c0 n tab fa fl) st Q = wp fa st (kMeX c0 n tab fl Q) := by
  have base := n_rMeth (n := n) (tab := tab) (fl := fl) (fa := fa) (st := st) (QR := Q)
  unfold wp at base ⊢
  unfold rMethX
  cases h : fa st with
  | none =>
    rw [h] at base
    exact base
  | some p =>
    obtain ⟨o, s⟩ := p
    cases o with
    | x c =>
      by_cases hs : (tab c0).isSome = true
      · simp only [hs, if_true]
        show Q (.x c) s = ((tab c0).isSome = true ∧ Q (.x c) s)
        simp [hs]
      · simp only [hs, if_false]
        show False = ((tab c0).isSome = true ∧ Q (.x c) s)
        simp [hs]
    | v x =>
      rw [h] at base
      exact base
end Fz
set_option Elab.async false
set_option linter.all false
set_option maxRecDepth 100000
set_option maxHeartbeats 2000000
namespace Fz
open PySem L2 PySem.Spec PyProof.Rows
section
variable {ι : Type} (T : Tab) (E : L2.St → XK) (X : ι → Cx)
end
section
variable {X : Cx} {o e : Expr} {es : List Expr} {to : TE} {t : TA} {name : Str} {apos cpos : Pos} {Ty id : String} {r : V → List V → Hp → VK → Prop}
structure FnOkT (P : Program) (w : World) (K : PySem.W.Frag) (mg : Str → Option Value) (base : Heap) (CX : CXT) (k : Nat) (f : Addr) (fd : FuncData) (ps : List Str) (sp : Sp) : Prop where
  len : ∀ vs H Q E, sp vs H Q E → vs.length = ps.length
  run : ∀ (A : Around) (outer : List Env) (s : Shared) (H : Hp) (args : Args) (us : List Value) (vs : List V) (Q : VK) (E : XK), 1 ≤ s.toks → Room k A → Env0 P w K mg base A outer s H → BindsTo s fd args (ps.zip us) → Vals vs us → sp vs H Q E →
    codeAny (model P w) A (.call (.ref f) args) (CR CX outer P w H s Q E) s
section
variable {P : Program} {w : World} {K : PySem.W.Frag} {mg : Str → Option Value} {base : Heap} {CX : CXT} {k : Nat} {f : Addr} {fd : FuncData} {ps : List Str} {sp sp' : Sp}
end
section
variable {X : Cx} {CX : CXT} {k : Nat} {f : Addr} {fd : FuncData} {ps : List Str} {sp : Sp} {dvs : List V} {ds : List Value} {E : L2.St → XK} {x : Str} {p pos : Pos} {e : Expr} {es : List Expr} {t : TA}
end
section
variable {X : Cx} {pos : Pos}
end
end
section
variable {ι : Type} {T : Tab} {E : L2.St → XK} {X : ι → Cx} {kp : Nat → Bool} {pos apos : Pos} {e a b c o tg : Expr} {es : List Expr} {fa fb fc : M D} {fs : M (List D)} {fl : M (List Arg)} {r : M R} {x m : Str} {te ta to : TE} {t : TA}
variable {st : Stmt} {rest : List Stmt} {f g : MS}
structure FunAtT (Y : Cx) (T : Tab) (E : L2.St → XK) (x : Str) (n : Nat) (F : Fn) : Prop where
  ex : ∃ f fd ps CX k, Y.mg x = some (.ref f) ∧ PySem.W.keepIn Y.K (.ref f) = true ∧ Binds Y.K fd ps [] ∧ FnOkT Y.prog Y.w Y.K Y.mg Y.base CX k f fd ps (sp T n F) ∧ Room k Y.A ∧ (∀ σ, PassesAt CX Y σ (E σ))
end
section
variable {P : Program} {w : World} {T : Tab} {mg : Str → Option Value} {base : Heap} {x m qual : Str} {st : Stmt} {N ps : List Str} {k n : Nat} {kp : Nat → Bool} {body : MS} {F : Fn}
structure FnGT (P : Program) (w : World) (T : Tab) (mg : Str → Option Value) (base : Heap) (x : Str) (n : Nat) (F : Fn) (k : Nat) : Prop where
  ex : ∃ f fd ps, mg x = some (.ref f) ∧ PySem.W.keepIn T.K (.ref f) = true ∧ Binds T.K fd ps [] ∧ FnOkT P w T.K mg base (L2.CX P w) k f fd ps (sp T n F)
theorem FnOkT.mono {CX : CXT} {f : Addr} {fd : FuncData} {sp : Sp} {j : Nat} {K : PySem.W.Frag} (F : FnOkT P w K mg base CX j f fd ps sp) (h : j ≤ k) : FnOkT P w K mg base CX k f fd ps sp :=
  ⟨F.len, fun A outer s H args us vs Q E h0 hr => F.run A outer s H args us vs Q E h0 (hr.mono h)⟩
variable {f : Addr} {cdv : Value} {A : Around} {outer : List Env} {s : Shared} {H : Hp} {E : XK}
theorem FnGT.d {j : Nat} (G : FnGT P w T mg base x n F j) (hr : Room k (A.deeper (envOfC qual (defScope st) s.heap.objs.size f cdv))) (h : j ≤ k) (i : Unit) : FunAtT (CxD P w T mg base N qual st f cdv A outer s H E i) T (fun _ => E) x n F :=
  let ⟨f, fd, ps, a, b, c, d⟩ := G.ex; ⟨f, fd, ps, _, j, a, b, c, d, hr.mono h, fun σ => pass_def σ⟩
end
end Fz
set_option Elab.async false
set_option linter.all false
set_option maxRecDepth 100000
set_option maxHeartbeats 2000000
namespace Fz
open PySem L2
def kids : R → List R
  | .nl cs => cs
  | .nt cs => cs
  | .ni _ cs => cs
  | .nd _ cs => cs
  | _ => []
def setKids : R → List R → R
  | .nl _, cs => .nl cs
  | .nt _, cs => .nt cs
  | .ni c _, cs => .ni c cs
  | .nd ks _, cs => .nd ks cs
  | r, _ => r
def rAt : R → List Nat → Option R
  | r, [] => some r
  | r, k :: p => (kids r)[k]?.bind fun c => rAt c p
def rSet : R → List Nat → R → R
  | _, [], q => q
  | r, k :: p, q => match (kids r)[k]? with
    | some c => setKids r ((kids r).set k (rSet c p q))
    | none => r
def VAt (H : Hp) : V → List Nat → V → Prop
  | v, [], u => u = v
  | v, k :: p, u => ∃ a xs w, v = .ref a ∧ HeldAt H a xs ∧ xs[k]? = some w ∧ VAt H w p u
section
variable {T : Tab} {B B' H H' : Hp}
theorem RelRs.length : ∀ {cs : List R} {xs : List V}, RelRs T B H cs xs → cs.length = xs.length
  | [], xs, h => by unfold RelRs at h; subst h; rfl
  | c :: cs, xs, h => by unfold RelRs at h; obtain ⟨y, t, rfl, _, h3, _⟩ := h; simp [RelRs.length h3]
theorem RelRs.get : ∀ {cs : List R} {xs : List V} {k : Nat} {c : R}, RelRs T B H cs xs → cs[k]? = some c → ∃ w, xs[k]? = some w ∧ RelR T B H c w ∧ ∀ b, Ow H c w b → OwL H cs xs b
  | [], xs, k, c, h, e => by simp at e
  | c0 :: cs, xs, k, c, h, e => by
    unfold RelRs at h
    obtain ⟨y, t, rfl, h2, h3, _⟩ := h
    cases k with
    | zero => simp at e; subst e; exact ⟨y, rfl, h2, fun b z => by unfold OwL; exact ⟨y, t, rfl, .inl z⟩⟩
    | succ k =>
      obtain ⟨w, g1, g2, g3⟩ := RelRs.get (k := k) h3 (by simpa using e)
      exact ⟨w, by simpa using g1, g2, fun b z => by unfold OwL; exact ⟨y, t, rfl, .inr (g3 b z)⟩⟩
theorem RelRs.set (e : Ex B B') (tk : Tk H H') {X : Addr → Prop} {c' : R} {w : V} : ∀ {cs : List R} {xs : List V} {k : Nat} {c : R}, RelRs T B H cs xs → cs[k]? = some c → xs[k]? = some w → RelR T B' H' c' w → (∀ b, Ow H' c' w b → Ow H c w b ∨ X b) → (∀ b, X b → ¬ OwL H cs xs b) →
    (∀ b o, ¬ Ow H c w b → OwL H cs xs b → H b = some o → H' b = some o) → RelRs T B' H' (cs.set k c') xs ∧ ∀ b, OwL H' (cs.set k c') xs b → OwL H cs xs b ∨ X b
  | [], xs, k, c, h, e1, e2, h1, h2, h3, h4 => by simp at e1
  | c0 :: cs, xs, k, c, h, e1, e2, h1, h2, h3, h4 => by
    unfold RelRs at h
    obtain ⟨y, t, rfl, g2, g3, g4⟩ := h
    cases k with
    | zero =>
      simp at e1 e2; subst e1; subst e2
      have kt : ∀ p o, OwL H cs t p → H p = some o → H' p = some o := fun p o z q => h4 p o (fun z' => g4 p z' z) (by unfold OwL; exact ⟨y, t, rfl, .inr z⟩) q
      have bt : ∀ b, OwL H' cs t b → OwL H cs t b := fun b => OwL.back tk g3 kt
      refine ⟨?_, fun b z => ?_⟩
      · show RelRs T B' H' (c' :: cs) (y :: t)
        unfold RelRs
        refine ⟨y, t, rfl, h1, g3.keep e tk kt, fun b z1 z2 => ?_⟩
        have z2 := OwL.back tk g3 kt z2
        rcases h2 b z1 with z | z
        · exact g4 b z z2
        · exact h3 b z (by unfold OwL; exact ⟨y, t, rfl, .inr z2⟩)
      · have z : OwL H' (c' :: cs) (y :: t) b := z
        unfold OwL at z
        obtain ⟨y', t', e', z⟩ := z
        cases e'
        rcases z with z | z
        · rcases h2 b z with q | q
          · exact .inl (by unfold OwL; exact ⟨y, t, rfl, .inl q⟩)
          · exact .inr q
        · exact .inl (by unfold OwL; exact ⟨y, t, rfl, .inr (OwL.back tk g3 kt z)⟩)
    | succ k =>
      have e1 : cs[k]? = some c := by simpa using e1
      have e2 : t[k]? = some w := by simpa using e2
      obtain ⟨w', q1, _, q3⟩ := RelRs.get g3 e1
      rw [e2] at q1; cases q1
      have ky : ∀ p o, Ow H c0 y p → H p = some o → H' p = some o := fun p o z q => h4 p o (fun z' => g4 p z (q3 p z')) (by unfold OwL; exact ⟨y, t, rfl, .inl z⟩) q
      obtain ⟨r1, r2⟩ := RelRs.set e tk g3 e1 e2 h1 h2 (fun b z z' => h3 b z (by unfold OwL; exact ⟨y, t, rfl, .inr z'⟩)) (fun b o n z q => h4 b o n (by unfold OwL; exact ⟨y, t, rfl, .inr z⟩) q)
      refine ⟨?_, fun b z => ?_⟩
      · show RelRs T B' H' (c0 :: cs.set k c') (y :: t)
        unfold RelRs
        refine ⟨y, t, rfl, g2.keep e tk ky, r1, fun b z1 z2 => ?_⟩
        have z1 := Ow.back tk g2 ky z1
        rcases r2 b z2 with z | z
        · exact g4 b z1 z
        · exact h3 b z (by unfold OwL; exact ⟨y, t, rfl, .inl z1⟩)
      · have z : OwL H' (c0 :: cs.set k c') (y :: t) b := z
        unfold OwL at z
        obtain ⟨y', t', e', z⟩ := z
        cases e'
        rcases z with z | z
        · exact .inl (by unfold OwL; exact ⟨y, t, rfl, .inl (Ow.back tk g2 ky z)⟩)
        · rcases r2 b z with q | q
          · exact .inl (by unfold OwL; exact ⟨y, t, rfl, .inr q⟩)
          · exact .inr q
theorem node {r : R} {v : V} {k : Nat} {c : R} (h : RelR T B H r v) (hc : (kids r)[k]? = some c) : ∃ a xs, v = .ref a ∧ HeldAt H a xs ∧ RelRs T B H (kids r) xs ∧ (∀ b, OwL H (kids r) xs b → Ow H r v b) ∧
    (∀ {B' H' : Hp} {X : Addr → Prop} {cs' : List R}, Ex B B' → Tk H H' → (Ow H r v a → ∀ o, ¬ OwL H (kids r) xs a → H a = some o → H' a = some o) → (∀ b, X b → ¬ Ow H r v b) → cs'.length = (kids r).length → RelRs T B' H' cs' xs → (∀ b, OwL H' cs' xs b → OwL H (kids r) xs b ∨ X b) →
      RelR T B' H' (setKids r cs') v ∧ ∀ b, Ow H' (setKids r cs') v b → Ow H r v b ∨ X b) := by
  have nx : ∀ {cs : List R} {xs : List V} {H' : Hp} {X : Addr → Prop} {cs' : List R} {a : Addr}, ¬ OwL H cs xs a → (∀ b, OwL H' cs' xs b → OwL H cs xs b ∨ X b) → ¬ X a → ¬ OwL H' cs' xs a := fun n s x z => (s _ z).elim n x
  cases r with
  | d _ => simp [kids] at hc
  | ol _ => simp [kids] at hc
  | oi _ _ => simp [kids] at hc
  | od _ _ => simp [kids] at hc
  | nl cs =>
    unfold RelR at h
    obtain ⟨a, ys, rfl, h2, h3, h4⟩ := h
    have ho : ∀ b, OwL H cs ys b → Ow H (.nl cs) (.ref a) b := fun b z => by unfold Ow; exact .inr ⟨a, ys, rfl, .inl h2, z⟩
    refine ⟨a, ys, rfl, .inl h2, h3, ho, fun e tk k x l r s => ?_⟩
    have k' := k (by unfold Ow; exact .inl rfl) _ h4 h2
    have na := nx h4 s fun z => x a z (by unfold Ow; exact .inl rfl)
    refine ⟨by show RelR _ _ _ (.nl _) _; unfold RelR; exact ⟨a, ys, rfl, k', r, na⟩, fun b z => ?_⟩
    have z : Ow _ (.nl _) (.ref a) b := z
    unfold Ow at z
    rcases z with z | ⟨a', xs', e1, e2, e3⟩
    · exact .inl (by unfold Ow; exact .inl z)
    · cases e1; cases HeldAt.inj (.inl k') e2
      exact (s b e3).imp (ho b) id
  | nt cs =>
    unfold RelR at h
    obtain ⟨a, ys, rfl, h2, h3⟩ := h
    have ho : ∀ b, OwL H cs ys b → Ow H (.nt cs) (.ref a) b := fun b z => by unfold Ow; exact ⟨a, ys, rfl, .inr (.inl h2.2), z⟩
    refine ⟨a, ys, rfl, .inr (.inl h2.2), h3, ho, fun e tk k x l r s => ?_⟩
    have k' := tk _ _ h2.2
    refine ⟨by show RelR _ _ _ (.nt _) _; unfold RelR; exact ⟨a, ys, rfl, ⟨e a _ h2.1, k'⟩, r⟩, fun b z => ?_⟩
    have z : Ow _ (.nt _) (.ref a) b := z
    unfold Ow at z
    obtain ⟨a', xs', e1, e2, e3⟩ := z
    cases e1; cases HeldAt.inj (.inr (.inl k')) e2
    exact (s b e3).imp (ho b) id
  | ni c0 cs =>
    unfold RelR at h
    obtain ⟨a, dx, fvs, rfl, h2, h5, h3, h4⟩ := h
    have ho : ∀ b, OwL H cs (fvs.map (·.2)) b → Ow H (.ni c0 cs) (.ref a) b := fun b z => by unfold Ow; exact .inr ⟨a, _, rfl, .inr (.inr (.inl ⟨_, _, _, h2, rfl⟩)), z⟩
    refine ⟨a, _, rfl, .inr (.inr (.inl ⟨_, _, _, h2, rfl⟩)), h3, ho, fun e tk k x l r s => ?_⟩
    have k' := k (by unfold Ow; exact .inl rfl) _ h4 h2
    have na := nx h4 s fun z => x a z (by unfold Ow; exact .inl rfl)
    refine ⟨by show RelR _ _ _ (.ni _ _) _; unfold RelR; exact ⟨a, dx, fvs, rfl, k', by rw [h5]; exact congrArg (List.take · _) l.symm, r, na⟩, fun b z => ?_⟩
    have z : Ow _ (.ni _ _) (.ref a) b := z
    unfold Ow at z
    rcases z with z | ⟨a', xs', e1, e2, e3⟩
    · exact .inl (by unfold Ow; exact .inl z)
    · cases e1; cases HeldAt.inj (.inr (.inr (.inl ⟨_, _, _, k', rfl⟩))) e2
      exact (s b e3).imp (ho b) id
  | nd ks cs =>
    unfold RelR at h
    obtain ⟨a, ys, rfl, h2, h3, h4⟩ := h
    have ho : ∀ b, OwL H cs ys b → Ow H (.nd ks cs) (.ref a) b := fun b z => by unfold Ow; exact .inr ⟨a, ys, rfl, h2.held, z⟩
    refine ⟨a, ys, rfl, h2.held, h3, ho, fun e tk k x l r s => ?_⟩
    have k' := h2.keep e fun o z => k (by unfold Ow; exact .inl rfl) o h4 z
    have na := nx h4 s fun z => x a z (by unfold Ow; exact .inl rfl)
    refine ⟨by show RelR _ _ _ (.nd _ _) _; unfold RelR; exact ⟨a, ys, rfl, k', r, na⟩, fun b z => ?_⟩
    have z : Ow _ (.nd _ _) (.ref a) b := z
    unfold Ow at z
    rcases z with z | ⟨a', xs', e1, e2, e3⟩
    · exact .inl (by unfold Ow; exact .inl z)
    · cases e1; cases HeldAt.inj k'.held e2
      exact (s b e3).imp (ho b) id
theorem at_val : ∀ {p : List Nat} {r q : R} {v u : V}, RelR T B H r v → rAt r p = some q → VAt H v p u → RelR T B H q u ∧ ∀ b, Ow H q u b → Ow H r v b
  | [], r, q, v, u, h, e, z => by cases e; cases z; exact ⟨h, fun _ z => z⟩
  | k :: p, r, q, v, u, h, e, z => by
    unfold rAt at e
    obtain ⟨c, hc, e⟩ := Option.bind_eq_some_iff.mp e
    obtain ⟨a, xs, rfl, h1, h2, h3, _⟩ := node h hc
    obtain ⟨w, g1, g2, g3⟩ := h2.get hc
    obtain ⟨a', xs', w', z1, z2, z3, z4⟩ := z
    cases z1; cases HeldAt.inj h1 z2
    rw [g1] at z3; cases z3
    obtain ⟨k2, k3⟩ := at_val g2 e z4
    exact ⟨k2, fun b z => h3 b (g3 b (k3 b z))⟩
theorem at_put (e : Ex B B') (tk : Tk H H') {X : Addr → Prop} {q q' : R} {u : V} : ∀ {p : List Nat} {r : R} {v : V}, RelR T B H r v → rAt r p = some q → VAt H v p u → RelR T B' H' q' u → (∀ b, Ow H' q' u b → Ow H q u b ∨ X b) → (∀ b, X b → ¬ Ow H r v b) →
    (∀ b o, ¬ Ow H q u b → Ow H r v b → H b = some o → H' b = some o) → RelR T B' H' (rSet r p q') v ∧ ∀ b, Ow H' (rSet r p q') v b → Ow H r v b ∨ X b
  | [], r, v, h, e1, z, h1, h2, h3, h4 => by cases e1; cases z; exact ⟨h1, h2⟩
  | k :: p, r, v, h, e1, z, h1, h2, h3, h4 => by
    unfold rAt at e1
    obtain ⟨c, hc, e1⟩ := Option.bind_eq_some_iff.mp e1
    obtain ⟨a, xs, rfl, g1, g2, g3, g4⟩ := node h hc
    obtain ⟨w, w1, w2, w3⟩ := g2.get hc
    obtain ⟨a', xs', w', z1, z2, z3, z4⟩ := z
    cases z1; cases HeldAt.inj g1 z2
    rw [w1] at z3; cases z3
    obtain ⟨_, qs⟩ := at_val w2 e1 z4
    obtain ⟨k1, k2⟩ := at_put e tk w2 e1 z4 h1 h2 (fun b z z' => h3 b z (g3 b (w3 b z'))) fun b o n z => h4 b o n (g3 b (w3 b z))
    obtain ⟨l1, l2⟩ := RelRs.set e tk g2 hc w1 k1 k2 (fun b z z' => h3 b z (g3 b z')) fun b o n z => h4 b o (fun z => n (qs b z)) (g3 b z)
    unfold rSet
    rw [hc]
    exact g4 e tk (fun ow o n => h4 a o (fun z => n (w3 a (qs a z))) ow) h3 (by rw [List.length_set]) l1 l2
end
end Fz
set_option Elab.async false
set_option linter.all false
set_option maxRecDepth 100000
set_option maxHeartbeats 2000000
namespace Fz
open PySem L2
section
variable {T : Tab} {E : L2.St → XK} {kp : Nat → Bool} {st s' : Sl} {σ σ' : L2.St} {B B' F H H' : Hp} {i : Nat} {r : R} {v : V}
theorem Sim.hid (S : Sim T st σ B F H) (h : st[i]? = some (some r)) (hv : σ[i]? = some (some v)) : Sim T (st.set i none) σ B (addS F H (Ow H r v)) H := by
  have Sf := S.forget i
  have ne : ∀ {j : Nat} {q : R}, (st.set i none)[j]? = some (some q) → i ≠ j ∧ st[j]? = some (some q) := fun {j q} e => by
    rw [List.getElem?_set] at e
    split at e
    · split at e <;> cases e
    · rename_i z; exact ⟨z, e⟩
  refine ⟨Sf.exB, fun b o q => ?_, fun b o q => ?_, Sf.tup, Sf.len, Sf.rel, fun j q u a h1 h2 h3 => ?_, Sf.sep, ⟨fun b o q => ?_, S.tbs.tab⟩⟩
  · by_cases z : Ow H r v b
    · rw [addS_in z] at q; exact q
    · rw [addS_out z] at q; exact S.exF b o q
  · by_cases z : Ow H r v b
    · exact (S.own i r v b h hv z).1
    · rw [addS_out z] at q; exact S.dis b o q
  · obtain ⟨n, g1⟩ := ne h1
    obtain ⟨z1, z2⟩ := S.own j q u a g1 h2 h3
    refine ⟨z1, ?_⟩
    rw [addS_out fun z => S.sep i j r q v u a n h hv g1 h2 z h3]
    exact z2
  · by_cases z : Ow H r v b
    · rw [addS_in z] at q; exact S.ntb h hv z o q
    · rw [addS_out z] at q; exact S.tbs.noF b o q
theorem Sim.unhid (S : Sim T st σ B F H) (h : st[i]? = some (some r)) (hv : σ[i]? = some (some v)) (e : Ex B B') (S' : Sim T s' σ B' (addS F H (Ow H r v)) H') : Sim T (s'.set i (some r)) σ B' F H' ∧ Tk H H' ∧ ∀ b o, Ow H r v b → H b = some o → H' b = some o := by
  have tk : Tk H H' := fun b xs z => S'.exB b _ (e b _ (S.tup b xs z))
  have k : ∀ b o, Ow H r v b → H b = some o → H' b = some o := fun b o z q => S'.exF b o (by rw [addS_in z]; exact q)
  obtain ⟨v', hv', rel⟩ := S.rel i r h
  rw [hv] at hv'; cases hv'
  have bk : ∀ b, Ow H' r v b → Ow H r v b := fun b => Ow.back tk rel k
  have inF : ∀ b, Ow H r v b → ∃ o, addS F H (Ow H r v) b = some o := fun b z => by
    rw [addS_in z]; exact (rel.ow z).1
  have frF : ∀ b, addS F H (Ow H r v) b = none → F b = none := fun b z => by
    by_cases y : Ow H r v b
    · obtain ⟨o, w⟩ := inF b y; rw [w] at z; cases z
    · rwa [addS_out y] at z
  have outF : ∀ b o, F b = some o → addS F H (Ow H r v) b = some o := fun b o z => by
    rw [addS_out fun y => by rw [(S.own i r v b h hv y).2] at z; cases z]; exact z
  have at_ : ∀ {j : Nat} {q : R}, (s'.set i (some r))[j]? = some (some q) → (i = j ∧ q = r) ∨ (i ≠ j ∧ s'[j]? = some (some q)) := fun {j q} g => by
    rw [List.getElem?_set] at g
    split at g
    · rename_i z
      split at g
      · cases g; exact .inl ⟨z, rfl⟩
      · cases g
    · rename_i z; exact .inr ⟨z, g⟩
  have cross : ∀ {j : Nat} {q : R} {u : V} {b : Addr}, s'[j]? = some (some q) → σ[j]? = some (some u) → Ow H' r v b → Ow H' q u b → False := fun {j q u b} g1 g2 g3 g4 => by
    obtain ⟨o, w⟩ := inF b (bk b g3)
    rw [(S'.own j q u b g1 g2 g4).2] at w; cases w
  refine ⟨⟨S'.exB, fun b o z => S'.exF b o (outF b o z), fun b o z => S'.dis b o (outF b o z), S'.tup, by rw [List.length_set]; exact S'.len, fun j q g => ?_, fun j q u b g1 g2 g3 => ?_, fun j k' q p u w b n g1 g2 g3 g4 g5 g6 => ?_, ⟨S.tbs.noF, S'.tbs.tab⟩⟩, tk, k⟩
  · rcases at_ g with ⟨rfl, rfl⟩ | ⟨_, g⟩
    · exact ⟨v, hv, rel.keep e tk k⟩
    · exact S'.rel j q g
  · rcases at_ g1 with ⟨rfl, rfl⟩ | ⟨_, g1⟩
    · rw [hv] at g2; cases g2
      have z := bk b g3
      obtain ⟨o, w⟩ := inF b z
      exact ⟨S'.dis b o w, (S.own i _ v b h hv z).2⟩
    · obtain ⟨z1, z2⟩ := S'.own j q u b g1 g2 g3
      exact ⟨z1, frF b z2⟩
  · rcases at_ g1 with ⟨e1, e2⟩ | ⟨n1, g1⟩
    · rw [e2] at g5
      rw [← e1, hv] at g2; cases g2
      rcases at_ g3 with ⟨e3, e4⟩ | ⟨_, g3⟩
      · exact n (e1.symm.trans e3)
      · exact cross g3 g4 g5 g6
    · rcases at_ g3 with ⟨e1, e2⟩ | ⟨_, g3⟩
      · rw [e2] at g6
        rw [← e1, hv] at g4; cases g4
        exact cross g1 g2 g6 g5
      · exact S'.sep j k' q p u w b n g1 g2 g3 g4 g5 g6
theorem VAt.keep : ∀ {p : List Nat} {r q : R} {v u : V}, RelR T B H r v → rAt r p = some q → Tk H H' → (∀ b o, Ow H r v b → H b = some o → H' b = some o) → VAt H v p u → VAt H' v p u
  | [], r, q, v, u, h, e, tk, k, z => z
  | j :: p, r, q, v, u, h, e, tk, k, z => by
    unfold rAt at e
    obtain ⟨c, hc, e⟩ := Option.bind_eq_some_iff.mp e
    obtain ⟨a, xs, rfl, h1, h2, h3, _⟩ := node h hc
    obtain ⟨w, g1, g2, g3⟩ := h2.get hc
    obtain ⟨a', xs', w', z1, z2, z3, z4⟩ := z
    cases z1; cases HeldAt.inj h1 z2
    rw [g1] at z3; cases z3
    refine ⟨a, xs, w, rfl, ?_, g1, VAt.keep g2 e tk (fun b o z q => k b o (h3 b (g3 b z)) q) z4⟩
    rcases h1 with h1 | h1 | ⟨C, dx, fs, h1, e'⟩ | ⟨w, ep, es, h1, e'⟩
    · exact .inl (k a _ (own_self h (kids_some hc) (by intro ys z; rw [h1] at z; cases z)) h1)
    · exact .inr (.inl (tk a _ h1))
    · exact .inr (.inr (.inl ⟨C, dx, fs, k a _ (own_self h (kids_some hc) (by intro ys z; rw [h1] at z; cases z)) h1, e'⟩))
    · exact .inr (.inr (.inr ⟨w, ep, es, k a _ (own_self h (kids_some hc) (by intro ys z; rw [h1] at z; unfold dG at z; cases z)) h1, e'⟩))
where
  kids_some {r : R} {k : Nat} {c : R} (h : (kids r)[k]? = some c) : kids r ≠ [] := by intro z; rw [z] at h; simp at h
  own_self {r : R} {a : Addr} (h : RelR T B H r (.ref a)) (hk : kids r ≠ []) (nt : ∀ ys, H a ≠ some (.tup ys)) : Ow H r (.ref a) a := by
    cases r with
    | nl cs => unfold Ow; exact .inl rfl
    | ni c cs => unfold Ow; exact .inl rfl
    | nd ks cs => unfold Ow; exact .inl rfl
    | nt cs => unfold RelR at h; obtain ⟨b, ys, e, h2, _⟩ := h; cases e; exact (nt ys h2.2).elim
    | _ => exact (hk rfl).elim
def KeepArgs (T : Tab) (i : Nat) (ta : TA) (f : M (List D)) : Prop := ∀ st σ B F H r v, Sim T st σ B F H → st[i]? = some (some r) → σ[i]? = some (some v) → ∀ xs s, f st = some (.v xs, s) → ∀ Q : List V → Hp → Prop,
  (∀ B' H' vs, Ex B B' → Sim T s σ B' F H' → s[i]? = some (some r) → Tk H H' → (∀ b o, Ow H r v b → H b = some o → H' b = some o) → Reps T B' xs vs → Q vs H') → ta σ H Q
def aHid (i : Nat) (f : M (List D)) : M (List D) := fun st => match st[i]? with
  | some (some r) => (match f (st.set i none) with
    | some (.v xs, s) => some (.v xs, s.set i (some r))
    | _ => none)
  | _ => none
theorem keep_hid {ta : TA} {f : M (List D)} (h : SemA T E ta f) : KeepArgs T i ta (aHid i f) := by
  intro st σ B F H r v S hi hv xs s e Q hQ
  unfold aHid at e
  rw [hi] at e
  simp only at e
  split at e
  · rename_i ys s0 e0
    cases e
    refine h _ σ B _ H (S.hid hi hv) _ _ e0 Q fun B' H' x S' vs hvs => ?_
    obtain ⟨U, tk, k⟩ := S.unhid hi hv x S'
    refine hQ B' H' vs x U ?_ tk k hvs
    rw [List.getElem?_set_self]
    have := S.len
    have l1 := (List.getElem?_eq_some_iff.mp hv).1
    have l2 := S'.len
    omega
  · cases e
def aFull (n : Nat → Nat) (f : M (List D)) : M (List D) := fun st => match f (vwN n st) with
  | some (.v xs, _) => if imms xs = true then some (.v xs, st) else none
  | _ => none
def Ek (H H' : Hp) : Prop := ∀ a o, H a = some o → ¬ isTb o → H' a = some o
theorem Ek.refl (H : Hp) : Ek H H := fun _ _ h _ => h
theorem Ek.trans {H H1 H2 : Hp} (a : Ek H H1) (b : Ek H1 H2) : Ek H H2 := fun x o h n => b x o (a x o h n) n
theorem Ex.ek {H H' : Hp} (e : Ex H H') : Ek H H' := fun a o h _ => e a o h
def SemP (T : Tab) (i : Nat) (te : TE) (m : Sl → Option (List Nat)) : Prop := ∀ st σ B F H, Sim T st σ B F H → ∀ p, m st = some p → ∀ Q : VK,
  (∀ B' H' u v, Ex B B' → Ek H H' → Sim T st σ B' F H' → σ[i]? = some (some v) → VAt H' v p u → Q u H') → te σ H Q
def pName (i : Nat) : Sl → Option (List Nat) := fun st => match st[i]? with
  | some (some _) => some []
  | _ => none
theorem semP_name : SemP T i (tVar i) (pName i) := by
  intro st σ B F H S p e Q hQ
  unfold pName at e
  split at e
  · rename_i r hi
    cases e
    obtain ⟨v, hv, _⟩ := S.rel i r hi
    exact ⟨v, hv, hQ B H v v (.refl B) (.refl H) S hv rfl⟩
  · cases e
def rGIx (T : Tab) : R2 := fun x y H Q => ∃ a ks xs d j v, x = .ref a ∧ DctAt T H H a ks xs ∧ Rep T H d y ∧ dkOk ks d = true ∧ kpos ks d = some j ∧ xs[j]? = some v ∧ Q v H
def kidAt : R → D → Option Nat
  | .nl cs, .int k => ixN cs.length k
  | .nt cs, .int k => ixN cs.length k
  | .nd ks _, d => if dkOk ks d = true then kpos ks d else none
  | _, _ => none
def pIx (n : Nat → Nat) (i : Nat) (mp : Sl → Option (List Nat)) (fb : M D) : Sl → Option (List Nat) := fun st => match mp st, st[i]? with
  | some p, some (some r) => (match rAt r p, fb (vwN n st) with
    | some q, some (.v d, _) => (kidAt q d).bind fun k => (kids q)[k]?.map fun _ => p ++ [k]
    | _, _ => none)
  | _, _ => none
theorem VAt.snoc {H : Hp} {k : Nat} {w : V} : ∀ {p : List Nat} {v u : V}, VAt H v p u → (∃ a xs, u = .ref a ∧ HeldAt H a xs ∧ xs[k]? = some w) → VAt H v (p ++ [k]) w
  | [], v, u, h, ⟨a, xs, e, h1, h2⟩ => by cases h; exact ⟨a, xs, w, e, h1, h2, rfl⟩
  | j :: p, v, u, h, g => by
    obtain ⟨a, xs, w', e, h1, h2, h3⟩ := h
    exact ⟨a, xs, w', e, h1, h2, VAt.snoc h3 g⟩
def TyAt (T : Tab) (ty : String) (x : V) (H : Hp) : Prop := tyV T.K ty x H ∨ (ty = "dict" ∧ ∃ a w ep es, x = .ref a ∧ H a = some (dG w a ep es))
def tBZ (T : Tab) (ty : String) (r : V → List V → Hp → VK → Prop) (to : TE) (t : TA) : TE := fun σ H Q => to σ H fun x H1 => TyAt T ty x H1 ∧ t σ H1 fun xs H2 => r x xs H2 Q
structure MutOp (T : Tab) (ty : String) (rr : V → List V → Hp → VK → Prop) (op : R → List D → Option (R × D)) : Prop where
  ty : ∀ {q : R} {xs : List D} {q' : R × D} {u : V} {B H : Hp}, op q xs = some q' → RelR T B H q u → TyAt T ty u H
  run : ∀ {q : R} {xs : List D} {q' : R × D} {u : V} {vs : List V} {B H : Hp}, op q xs = some q' → Ex B H → RelR T B H q u → Reps T B xs vs →
    ∃ a, Ow H q u a ∧ ∀ Q : VK, (∀ o w, (∀ zs, o ≠ .tup zs) → RelR T B (upd H a o) q'.1 u → (∀ b, Ow (upd H a o) q'.1 u b → Ow H q u b) → Rep T B q'.2 w → Q w (upd H a o)) → rr u vs H Q
def eMut (i : Nat) (mp : Sl → Option (List Nat)) (fa : M (List D)) (op : R → List D → Option (R × D)) : M D := fun st => match mp st, st[i]? with
  | some p, some (some r) => (match rAt r p, fa st with
    | some q, some (.v xs, s) => (op q xs).map fun q' => (.v q'.2, s.set i (some (rSet r p q'.1)))
    | _, _ => none)
  | _, _ => none
theorem semE_mut {te : TE} {ta : TA} {mp : Sl → Option (List Nat)} {fa : M (List D)} {ty : String} {rr : V → List V → Hp → VK → Prop} {op : R → List D → Option (R × D)} (hp : SemP T i te mp) (ha : KeepArgs T i ta fa) (ho : MutOp T ty rr op) :
    SemE T E (tBZ T ty rr te ta) (eMut i mp fa op) := by
  intro st σ B F H S fl s hf D hD
  unfold eMut at hf
  split at hf
  · rename_i p r e1 hi
    split at hf
    · rename_i q xs s1 e2 e3
      obtain ⟨q', hq, e⟩ := Option.map_eq_some_iff.mp hf
      cases e
      refine hp st σ B F H S p e1 _ fun B1 H1 u v x1 y1 S1 hv z => ?_
      obtain ⟨v', hv', rel1⟩ := S1.rel i r hi
      rw [hv] at hv'; cases hv'
      obtain ⟨relq, _⟩ := at_val rel1 e2 z
      refine ⟨ho.ty hq relq, ?_⟩
      refine ha st σ B1 F H1 r v S1 hi hv xs s1 e3 _ fun B2 H2 vs x2 S2 hi2 tk k hvs => ?_
      obtain ⟨v', hv', rel2⟩ := S2.rel i r hi2
      rw [hv] at hv'; cases hv'
      have z2 := VAt.keep rel1 e2 tk k z
      obtain ⟨relq2, sub2⟩ := at_val rel2 e2 z2
      obtain ⟨a, g1, g5⟩ := ho.run hq S2.exB relq2 hvs
      refine g5 _ fun o w g2 g3 g4 rw' => ?_
      have nt : ∀ xs, H2 a ≠ some (.tup xs) := (relq2.ow g1).2
      have tk' : Tk H2 (upd H2 a o) := fun b xs w => by rw [upd_ne (by intro e; subst e; exact nt xs w)]; exact w
      obtain ⟨r1, r2⟩ := at_put (X := fun _ => False) (Ex.refl B2) tk' rel2 e2 z2 g3 (fun b w => .inl (g4 b w)) (fun _ w => w.elim) fun b ob n _ w => by rw [upd_ne (by intro e; subst e; exact n g1)]; exact w
      exact hD B2 _ (x1.trans x2) (S2.change hi2 hv (sub2 a g1) g2 r1 fun b w => (r2 b w).resolve_right id) w rw'
    · cases hf
  · cases hf
end
end Fz
set_option Elab.async false
set_option linter.all false
set_option maxRecDepth 100000
set_option maxHeartbeats 2000000
namespace Fz
open PySem L2 PySem.Spec PyProof.Rows
section
variable {X : Cx} {T : Tab} {pins : List (Addr × Obj)} {σ : L2.St} {H : Hp} {s : Shared}
theorem tyAt_is {ty : String} {x : V} {v : Value} (hK : X.K = T.K) (I : Inv X pins σ H s) (r : RelV x v) (h : TyAt T ty x H) : s.TypeIs v ty ∧ ∀ a, v = .ref a → ∃ ob, s.heap.get? a = some ob ∧ ob.dict = none := by
  rcases h with h | ⟨rfl, a, w, ep, es, rfl, h⟩
  · exact tyV_is I r (by rw [hK]; exact h)
  · cases (show v = Value.ref a from r)
    obtain ⟨⟨o, en, h1, h2, _⟩, _⟩ := (show ObjOk X.prog X.w H s.heap a (dG w a ep es) from I.hok a _ h)
    exact ⟨⟨o, h1, h2.1⟩, fun b e => by cases e; exact ⟨o, h1, h2.2.1⟩⟩
variable {o e : Expr} {es : List Expr} {to : TE} {t : TA} {name : Str} {apos cpos : Pos} {ty id : String} {r : V → List V → Hp → VK → Prop}
theorem pe_bz (hK : X.K = T.K) (pa : PlainAttrs ty) (slot : Slot ty name id) (hty : typeOf (.builtin id) = pure (.type "method_descriptor")) (hm : MtR X id r) (ho : PE X o to) (ha : PA X (e :: es) t)
    (hbase : attributeBase o name X.env (eval o X.env) = eval o X.env := by rfl)
    (hfew : ((backTo cpos (starEach (e :: es) X.env)).all (fun x => !x.1) && (backToKw cpos (keywordEach [] X.env)).all (fun x => x.1.isSome)
      && decide ((e :: es).length + ([] : List Keyword).length + (if ([] : List Keyword).isEmpty then 0 else 1) < 30)) = true := by rfl)
    (hline : (apos.endLine == cpos.line) = true := by rfl) (hs : starEach (e :: es) X.env = (false, eval e X.env) :: starEach es X.env := by rfl) (hplain : (backTo cpos (starEach es X.env)).any (·.1) = false := by rfl) :
    PE X (.Call (.Attribute o name apos) (e :: es) [] cpos) (tBZ T ty r to t) := by
  refine ⟨fun pins s σ H Q I h => ?_⟩
  refine wpAny_Call_method_late hbase hfew hline rfl (thn (ho.run pins s σ H _ I h) fun v s1 ⟨x, H1, I1, r1, ty, q1⟩ => ?_)
  obtain ⟨h1, h2⟩ := tyAt_is hK I1 r1 ty
  refine ⟨_, id, pa, slot, hty, h1, h2, ?_⟩
  have hA := ha.run cpos pins s1 σ H1 _ I1 q1
  rw [hs] at hA ⊢
  refine Calls.callWith_builtin (by show (false || (backTo cpos (starEach es X.env)).any (·.1)) = false; rw [hplain] <;> rfl) (Calls.evalArgs_plain ?_)
  exact thn hA fun us s2 ⟨vs, H2, I2, r2, q2⟩ => hm pins s2 σ H2 x vs v us Q I2 r1 r2 q2
theorem ix_g (hu : X.A.units + 65 < cLine) (hK : X.K = T.K) (hw : X.w = T.w) : IxR X (rGIx T) := by
  intro value slice pins s σ H x y v u Q I rx ry h hs
  obtain ⟨a, ks, xs, d, j, w, rfl, c, rd, hd, hj, hx, q⟩ := h
  cases (show v = Value.ref a from rx)
  have hT : s.TypeIs (.ref a) "dict" := by
    obtain ⟨ep, es, h1, _⟩ := c
    obtain ⟨⟨o, en, g1, g2, _⟩, _⟩ := (show ObjOk X.prog X.w H s.heap a (dG T.w a ep es) from I.hok a _ h1)
    exact ⟨o, g1, g2.1⟩
  unfold subscriptTail
  refine wpAny_bind ?_
  rw [getitemInPython_of_ne hT.not_modules]
  refine wpAny_bind (wpAny_specialOf hT PySem.F.slot_dict_getitem.lookup ?_)
  have fin : wpAny (model X.prog X.w) X.A (subscripted slice false (.ref a) u) (fun r s₃ => wpAny (model X.prog X.w) X.A (letTemporaryGo value (.ref a) r >>= fun _ => pure r) (EP X pins σ Q) X.xe s₃) X.xe s := by
    rw [hs]
    refine wpAny_operating (g_get (by omega) I hK hw c hd rd ry hj hx fun w' s' I' rw' => ?_)
    exact wpAny_bind (wpAny_letTemporaryGo (wpAny_pure ⟨w, H, I', rw', q⟩))
  first
    | exact wpAny_pure (wpAny_bind fin)
    | exact wpAny_bind (wpAny_pure (wpAny_bind fin))
    | exact wpAny_bind fin
end
section
variable {T : Tab} {B H : Hp} {u : V}
def opApp : R → List D → Option (R × D)
  | .ol xs, [x] => if xs.length < sizeLine then some (.ol (xs ++ [x]), .non) else none
  | .nl cs, [x] => if cs.length < sizeLine then some (.nl (cs ++ [.d x]), .non) else none
  | _, _ => none
theorem rel_ol {a : Addr} {xs : List D} {ys : List V} (h : H a = some (.lst ys)) (r : Reps T B xs ys) : RelR T B H (.ol xs) (.ref a) := by unfold RelR; exact ⟨a, ys, rfl, h, r⟩
theorem own_ol {H' : Hp} {xs xs' : List D} : ∀ b, Ow H' (.ol xs') u b → Ow H (.ol xs) u b := fun b z => by unfold Ow at z ⊢; exact z
def opRev : R → List D → Option (R × D)
  | .ol xs, [] => some (.ol xs.reverse, .non)
  | _, _ => none
theorem Reps.reverse {ds : List D} {xs : List V} (h : Reps T B ds xs) : Reps T B ds.reverse xs.reverse := by
  induction ds generalizing xs with
  | nil => unfold Reps at h; subst h; exact reps_nil
  | cons d ds ih =>
    unfold Reps at h
    obtain ⟨v, r, rfl, h1, h2⟩ := h
    rw [List.reverse_cons, List.reverse_cons]
    exact (ih h2).append (reps_cons h1 reps_nil)
def opClr : R → List D → Option (R × D)
  | .ol _, [] => some (.ol [], .non)
  | .nl _, [] => some (.ol [], .non)
  | _, _ => none
theorem upd_id {H : Hp} {a : Addr} {o : HO} (h : H a = some o) : upd H a o = H := by
  funext b
  by_cases z : b = a
  · subst z; rw [upd_same, h]
  · rw [upd_ne z]
def rGSetd (T : Tab) : V → List V → Hp → VK → Prop := fun x vs H Q => ∃ B a ks xs d y v, x = .ref a ∧ vs = [y, v] ∧ Ex B H ∧ DctAt T B H a ks xs ∧ dkOk ks d = true ∧ Rep T B d y ∧ xs.length < sizeLine ∧
  (∀ j w, kpos ks d = some j → xs[j]? = some w → Q w H) ∧ (kpos ks d = none → ∀ o, (∀ zs, o ≠ .tup zs) → DctAt T B (upd H a o) a (dputK ks d) (dputV ks xs d v) → Q v (upd H a o))
theorem mt_gsetd {X : Cx} (hu : X.A.units + 65 < cLine) (hK : X.K = T.K) (hw : X.w = T.w) : MtR X "dict.setdefault" (rGSetd T) := by
  intro pins s σ H x xs v us Q I rx rs h
  obtain ⟨B, a, ks, xs', d, y, w, rfl, rfl, e, c, hd, ry, hl, q1, q2⟩ := h
  obtain ⟨u1, u2, rfl, r1, r2⟩ := vals2 rs
  cases (show v = Value.ref a from rx)
  exact g_setd (by omega) I hK hw e c hd ry r1 r2 hl (fun j w w' s' h1 h2 h3 I' => ⟨w, H, I', h3, q1 j w h1 h2⟩) fun h1 o s' h2 h3 I' => ⟨_, _, I', r2, q2 h1 o h2 h3⟩
def opSetd : R → List D → Option (R × D)
  | .od ks vs, [d, x] => if dkOk ks d = true ∧ vs.length < sizeLine then (match kpos ks d with
    | some j => (vs[j]?).map fun w => (.od ks vs, w)
    | none => some (.od (ks ++ [d]) (vs ++ [x]), x)) else none
  | _, _ => none
theorem m_setd : MutOp T "dict" (rGSetd T) opSetd where
  ty := fun {q xs q' u B H} h r => by
    unfold opSetd at h
    split at h
    · unfold RelR at r; obtain ⟨a, ys, rfl, ⟨ep, es, h2, _⟩, _⟩ := r; exact .inr ⟨rfl, a, _, ep, es, rfl, h2⟩
    · cases h
  run := fun {q xs q' u vs B H} h e r rs => by
    unfold opSetd at h
    split at h
    · rename_i ks ws d x
      split at h
      · rename_i hc
        unfold RelR at r
        obtain ⟨a, ys, rfl, c, h3⟩ := r
        obtain ⟨y, v, rfl, r1, r2⟩ := reps2 rs
        have same : ∀ {o : HO}, H a = some o → upd H a o = H := fun {o} h => upd_id h
        obtain ⟨o0, ho0⟩ := c.held.some
        refine ⟨a, by unfold Ow; rfl, fun Q q => ⟨B, a, ks, ys, d, y, v, rfl, rfl, e, c, hc.1, r1, by rw [← h3.length]; exact hc.2, fun j w hj hw => ?_, fun hj o ho c' => ?_⟩⟩
        · rw [hj] at h
          obtain ⟨z, hz, e⟩ := Option.map_eq_some_iff.mp h
          cases e
          obtain ⟨w', hw', rw'⟩ := h3.get hz
          rw [hw] at hw'; cases hw'
          have := q o0 w (fun zs z => c.notTup zs (by rw [ho0, z])) (by rw [same ho0]; exact relR_od c h3) (fun b z => by rw [same ho0] at z; exact z) rw'
          rwa [same ho0] at this
        · rw [hj] at h
          cases h
          unfold dputK dputV at c'
          rw [hj] at c'
          exact q o v ho (relR_od c' (h3.append (reps_cons r2 reps_nil))) (fun b z => by unfold Ow at z ⊢; exact z) r2
      · cases h
    · cases h
end
end Fz
set_option Elab.async false
set_option linter.all false
set_option maxRecDepth 100000
set_option maxHeartbeats 2000000
namespace Fz
open PySem L2 PySem.Spec PyProof.Rows
section
variable {ι : Type} {T : Tab} {E : L2.St → XK} {X : ι → Cx} {kp : Nat → Bool} {pos apos cpos p p2 : Pos} {e o a : Expr} {es : List Expr} {fa fb : M D} {fs : M (List D)} {x name : Str} {i : Nat} {mp : Sl → Option (List Nat)}
def XP (T : Tab) (E : L2.St → XK) (X : ι → Cx) (i : Nat) (e : Expr) (m : Sl → Option (List Nat)) : Prop := ∃ te, (∀ j, PE (X j) e te) ∧ SemP T i te m
def XKA (T : Tab) (E : L2.St → XK) (X : ι → Cx) (i : Nat) (es : List Expr) (f : M (List D)) : Prop := ∃ ta, (∀ j, PA (X j) es ta) ∧ KeepArgs T i ta f
theorem xp_name (i : Nat) (hN : ∀ j, (X j).N[i]? = some x := by intro j; rfl) (hv : ∀ j, Vis (X j).env.scope x := by intro j; first | exact Or.inl rfl | exact Or.inr (Or.inl rfl) | exact Or.inr (Or.inr rfl))
    (hd : (x == ("__debug__" : Str)) = false := by decide +kernel) (hcd : (x == ("__classdict__" : Str)) = false := by decide +kernel) : XP T E X i (.Name x pos) (pName i) := ⟨_, fun j => pe_var (hN j) (hv j) hd hcd, semP_name⟩
theorem xk_hid (h : XA T E X es fs) : XKA T E X i es (aHid i fs) := let ⟨_, a1, a2⟩ := h; ⟨_, a1, keep_hid a2⟩
def aNo : M (List D) := ret []
theorem keep_no : KeepArgs T i tNil aNo := by
  intro st σ B F H r v S hi hv xs s e Q hQ
  cases e
  exact hQ B H [] (.refl B) S hi (Tk.refl H) (fun _ _ _ z => z) reps_nil
def pFld (i : Nat) (ix : Nat → Option Nat) (mp : Sl → Option (List Nat)) : Sl → Option (List Nat) := fun st => match mp st, st[i]? with
  | some p, some (some r) => (match rAt r p with
    | some (.ni c cs) => (ix c).bind fun k => (cs[k]?).map fun _ => p ++ [k]
    | _ => none)
  | _, _ => none
theorem xe_mut {ty id : String} {rr : V → List V → Hp → VK → Prop} {op : R → List D → Option (R × D)} (pa : PlainAttrs ty) (slot : Slot ty name id) (hty : typeOf (.builtin id) = pure (.type "method_descriptor")) (hm : ∀ j, MtR (X j) id rr) (mo : MutOp T ty rr op)
    (hp : XP T E X i o mp) (ha : XKA T E X i (e :: es) fs) (hK : ∀ j, (X j).K = T.K := by intro j; rfl) (hbase : ∀ j, attributeBase o name (X j).env (eval o (X j).env) = eval o (X j).env := by intro j; rfl)
    (hfew : ∀ j, ((backTo cpos (starEach (e :: es) (X j).env)).all (fun x => !x.1) && (backToKw cpos (keywordEach [] (X j).env)).all (fun x => x.1.isSome)
      && decide ((e :: es).length + ([] : List Keyword).length + (if ([] : List Keyword).isEmpty then 0 else 1) < 30)) = true := by intro j; rfl)
    (hline : (apos.endLine == cpos.line) = true := by rfl) (hs : ∀ j, starEach (e :: es) (X j).env = (false, eval e (X j).env) :: starEach es (X j).env := by intro j; rfl) (hplain : ∀ j, (backTo cpos (starEach es (X j).env)).any (·.1) = false := by intro j; rfl) :
    XE T E X (.Call (.Attribute o name apos) (e :: es) [] cpos) (eMut i mp fs op) := by
  obtain ⟨_, a1, a2⟩ := hp
  obtain ⟨_, b1, b2⟩ := ha
  exact ⟨_, fun j => pe_bz (hK j) pa slot hty (hm j) (a1 j) (b1 j) (hbase j) (hfew j) hline (hs j) (hplain j), semE_mut a2 b2 mo⟩
end
end Fz
set_option Elab.async false
set_option linter.all false
set_option maxRecDepth 100000
set_option maxHeartbeats 2000000
namespace Fz
open PySem L2 PySem.Spec PyProof.Rows
def dIxD : D → D → Option D
  | .dct ks vs, d => if dkOk ks d = true then (kpos ks d).bind fun j => vs[j]? else none
  | _, _ => none
def dNotInD : D → D → Option D
  | d, .dct ks _ => if dkOk ks d = true then some (.bl !(kpos ks d).isSome) else none
  | _, _ => none
def rGNotIn (T : Tab) : R2 := fun y x H Q => ∃ a ks xs d, x = .ref a ∧ DctAt T H H a ks xs ∧ dkOk ks d = true ∧ Rep T H d y ∧ Q (.bl !(kpos ks d).isSome) H
theorem op_gnotIn {X : Cx} {T : Tab} (hu : X.A.units + 65 < cLine) (hK : X.K = T.K) (hw : X.w = T.w) : OpR X (compareOp .NotIn) (rGNotIn T) := by
  intro pins s σ H x y v u Q I rx ry h
  obtain ⟨a, ks, xs, d, rfl, c, hd, rd, q⟩ := h
  cases (show u = Value.ref a from ry)
  exact g_notIn (by omega) I hK hw c hd rd rx fun s' I' => ⟨.bl _, H, I', rfl, q⟩
theorem p_notInD {T : Tab} : Prim2 T (rGNotIn T) dNotInD := by
  intro x y z vx vy B H Q e hx hy hz k
  unfold dNotInD at hz
  split at hz
  · split at hz
    · rename_i hd
      cases hz
      rw [rep_dct] at hy
      obtain ⟨a, xs, rfl, c, _⟩ := hy
      exact ⟨a, _, xs, _, rfl, c.keep e fun o z => e a o z, hd, Rep.mono e _ hx, k _ B H (.refl e) rfl⟩
    · cases hz
  · cases hz
theorem p_ixD {T : Tab} : Prim2 T (rGIx T) dIxD := by
  intro x y z vx vy B H Q e hx hy hz k
  unfold dIxD at hz
  split at hz
  · split at hz
    · rename_i hd
      obtain ⟨j, hj, hv⟩ := Option.bind_eq_some_iff.mp hz
      rw [rep_dct] at hx
      obtain ⟨a, xs, rfl, c, r⟩ := hx
      obtain ⟨w, hw, rw'⟩ := r.get hv
      exact ⟨a, _, xs, _, j, w, rfl, c.keep e fun o z => e a o z, Rep.mono e _ hy, hd, hj, hw, k _ B H (.refl e) rw'⟩
    · cases hz
  · cases hz
def dListD : List D → Option (List D)
  | [.dct ks _] => some ks
  | _ => none
def rGList (T : Tab) : List V → Hp → VK → Prop := fun xs H Q => ∃ a ep es, xs = [.ref a] ∧ H a = some (dG T.w a ep es) ∧ DGOk a es ∧ ∀ p, H p = none → Q (.ref p) (upd H p (.lst (es.map fun e => e.1.vv)))
theorem call_glist {X : Cx} {T : Tab} (hw : X.w = T.w) (hc : X.calm = true) : CallR X (.type "list") (rGList T) := by
  intro pins s σ H xs us Q I r h
  obtain ⟨a, ep, es, rfl, h1, h2, q⟩ := h
  obtain ⟨u, rfl, rx⟩ := r.one
  cases (show u = Value.ref a from rx)
  rw [← hw] at h1
  obtain ⟨en, raw, pr⟩ := dg_raw I.hok h1
  have l := ent_len pr
  have z := h2.len
  refine PySem.W.kdl_call (KdlSrc.rawDict (prog := X.prog) (w := X.w) h2.sm) (I.ok.hd hc) raw (by omega) fun h' tk acc' c' kp e it => ?_
  have hl : acc'.size = es.length := by rw [it.1, l]
  have rv : Vals (es.map fun e => e.1.vv) acc'.toList := by
    have go : ∀ (es : List (KX × V)) (n : Nat) (us : List Value), us.length = es.length → (∀ (j : Nat) v, us[j]? = some v → ∃ hi : n + j < en.size, v = en[n + j].key) → (∀ (j : Nat) (hj : j < es.length), ∃ hi : n + j < en.size, (es[j]).1.is en[n + j].key) → Vals (es.map fun e => e.1.vv) us := fun es => by
      induction es with
      | nil => intro n us hu _ _; cases us with
        | nil => exact .nil
        | cons _ _ => cases hu
      | cons e es ih =>
        intro n us hu h1 h2
        cases us with
        | nil => cases hu
        | cons u us =>
          refine .cons ?_ (ih (n + 1) us (by simpa using hu) (fun j v e => ?_) (fun j hj => ?_))
          · obtain ⟨hi, e1⟩ := h1 0 u rfl
            obtain ⟨hi', e2⟩ := h2 0 (by simp)
            rw [e1]; exact KX.rel e2
          · obtain ⟨hi, e1⟩ := h1 (j + 1) v (by simpa using e)
            exact ⟨by omega, by rw [e1]; congr 1; congr 1; omega⟩
          · obtain ⟨hi, e1⟩ := h2 (j + 1) (by simp; omega)
            refine ⟨by omega, ?_⟩
            have e0 : (e :: es)[j + 1]'(by simp; omega) = es[j]'hj := rfl
            rw [e0] at e1
            have e3 : en[n + (j + 1)] = en[n + 1 + j]'(by omega) := by congr 1; omega
            rw [e3] at e1
            exact e1
    refine go es 0 acc'.toList (by rw [Array.length_toList]; exact hl) (fun j v e => ?_) fun j hj => ?_
    · obtain ⟨hi, e1⟩ := it.2 j v (by rw [← Array.getElem?_toList]; exact e)
      exact ⟨by omega, by rw [e1]; congr 1; congr 1; omega⟩
    · obtain ⟨hi, eo⟩ := ent_get pr hj
      refine ⟨by omega, ?_⟩
      have e3 : en[0 + j]'(by omega) = en[j]'(by omega) := by congr 1; omega
      rw [e3]; exact eo.2.1
  have hz : (es.map fun e => e.1.vv).length ≤ sizeLine := by rw [List.length_map]; exact h2.len
  refine ⟨.ref s.heap.objs.size, _, I.laid (t' := tk) (o := .lst (es.map fun e => e.1.vv)) kp (Nat.le_refl _) ?_, rfl, q _ (I.hok.fresh (Nat.le_refl _))⟩
  exact ⟨hz, acc'.toList, c', rv, by rw [Array.toArray_toList]; exact e⟩
theorem krep_vv {T : Tab} {B : Hp} : ∀ {ks : List D} {es : List KX}, KReps T B ks es → ks.all (fun d => match d with | .str s => PyData.strOk s | _ => true) = true → Reps T B ks (es.map KX.vv)
  | [], es, h, _ => by unfold KReps at h; subst h; exact reps_nil
  | d :: ds, es, h, hs => by
    unfold KReps at h
    obtain ⟨x, r, rfl, h1, h2⟩ := h
    rw [List.all_cons] at hs
    have hs := (Bool.and_eq_true _ _).mp hs
    refine reps_cons ?_ (krep_vv h2 hs.2)
    cases x with
    | v k =>
      have h1 : DKey d k := h1
      cases d <;> first | exact h1.elim | skip
      · cases (show k = _ from h1); unfold Rep; rfl
      · cases (show k = _ from h1); unfold Rep; exact ⟨rfl, hs.1⟩
    | t k a => exact h1.2
def okKs (ks : List D) : Bool := ks.all fun d => match d with
  | .str s => PyData.strOk s
  | _ => true
def iDk (fa : M D) : M (List D) := bnd fa fun x => opt (match x with
  | .dct ks _ => if okKs ks = true then some ks else none
  | _ => none)
def iDv (fa : M D) : M (List D) := bnd fa fun x => opt (match x with
  | .dct _ vs => some vs
  | _ => none)
def iDi (fa : M D) : M (List D) := bnd fa fun x => opt (match x with
  | .dct ks vs => if okKs ks = true ∧ ks.length = vs.length then some (zipD ks vs) else none
  | _ => none)
section
variable {T : Tab} {E : L2.St → XK} {fa : M D} {te : TE}
theorem semI_di (h : SemE T E te fa) : SemI T E (iGItems T.w te) (iDi fa) := by
  intro st σ B F H S o s hf R hR
  refine okx_bnd hf hR (fun o1 s1 e1 q => h st σ B F H S o1 s1 e1 _ q) fun a s1 B1 H1 _ h2 e1 S1 hR1 v hv => ?_
  obtain ⟨z, hz, rfl, rfl⟩ := opt_some h2
  split at hz
  · split at hz
    · rename_i hok
      cases hz
      rw [rep_dct] at hv
      obtain ⟨d, xs, rfl, ⟨ep, es, g1, g2, g3, rfl⟩, r⟩ := hv
      have rk := krep_vv g3 hok.1
      have l := r.length
      rw [List.length_map] at l
      have l2 := hok.2
      refine ⟨d, ep, es, rfl, S1.exB d _ g1, g2.sm, hR1 B1 H1 (Ex.refl _) S1 _ ⟨fun i H hi e => ⟨e d _ g1, by rw [zipD_len] at hi; omega⟩, fun H e => ⟨e d _ g1, by rw [zipD_len]; omega⟩, fun i d' H x H' B1' hd e1 e2 hy => ?_⟩⟩
      obtain ⟨p, e, he, rfl, hp, rfl⟩ := hy
      obtain ⟨x, y, hx, hy, rfl⟩ := zipD_get hd
      obtain ⟨w, hw, rw'⟩ := rk.get hx
      rw [List.getElem?_map, List.getElem?_map, he] at hw
      cases hw
      obtain ⟨w, hw, rw2⟩ := r.get hy
      rw [List.getElem?_map, he] at hw
      cases hw
      have wx := Ext.newT (o := .tup [e.1.vv, e.2]) e2 hp
      exact ⟨_, wx, rep_tup upd_same (reps_cons (Rep.mono (e1.trans wx.b) _ rw') (reps_cons (Rep.mono (e1.trans wx.b) _ rw2) reps_nil))⟩
    · cases hz
  · cases hz
end
section
variable {ι : Type} {T : Tab} {E : L2.St → XK} {X : ι → Cx} {pos apos cpos : Pos} {a b e tg : Expr} {fa fb : M D} {fs : M (List D)}
theorem xe_ixD (hu : Rm X) (ha : XE T E X a fa) (hb : XE T E X b fb) (hs : PlainIx b := by exact fun _ _ => rfl) (hK : ∀ j, (X j).K = T.K := by intro j; rfl) (hW : ∀ j, (X j).w = T.w := by intro j; rfl) : XE T E X (.Subscript a b pos) (eBin dIxD fa fb) :=
  let ⟨_, a1, a2⟩ := ha; let ⟨_, b1, b2⟩ := hb; ⟨_, fun j => pe_ix (ix_g (by have := hu j; omega) (hK j) (hW j)) (a1 j) (b1 j) hs, semE_op p_ixD a2 b2⟩
theorem xt_notInD (hu : Rm X) (hm : behindInMarks .NotIn b = false := by rfl) (ha : XE T E X a fa) (hb : XE T E X b fb) (hK : ∀ j, (X j).K = T.K := by intro j; rfl) (hW : ∀ j, (X j).w = T.w := by intro j; rfl) : XT T E X (.Compare a [.NotIn] [b] pos) (eTst (eBin dNotInD fa fb)) := xt_cmp (fun j => op_gnotIn (by have := hu j; omega) (hK j) (hW j)) p_notInD hm ha hb
theorem p_listD {T : Tab} : PrimL T (rGList T) (fun xs => (dListD xs).bind fun ks => if okKs ks = true then some ks else none) := by
  intro xs zs vs B H Q e hx hz k
  obtain ⟨ks, hk, hz⟩ := Option.bind_eq_some_iff.mp hz
  split at hz
  · rename_i ho
    cases hz
    unfold dListD at hk
    split at hk
    · cases hk
      obtain ⟨v, rfl, r⟩ := reps1 hx
      rw [rep_dct] at r
      obtain ⟨a, xs, rfl, ⟨ep, es, g1, g2, g3, rfl⟩, _⟩ := r
      refine ⟨a, ep, es, rfl, e a _ g1, g2, fun p hp => k p _ B H (.refl e) hp ?_⟩
      have := krep_vv g3 ho
      rw [List.map_map] at this
      exact this
    · cases hk
  · cases hz
theorem xr_listD {p : Pos} (hm : ∀ j, (X j).mg "list" = none) (ha : XA T E X [e] fs) (hW : ∀ j, (X j).w = T.w := by intro j; rfl) (hc : ∀ j, (X j).calm = true := by intro j; rfl) (hg : ∀ j, Gl (X j) "list" := by intro j; rfl) (he : ∀ j, starEach [e] (X j).env = (false, eval e (X j).env) :: starEach [] (X j).env := by intro j; rfl) (hpl : ∀ j, (backTo pos (starEach [] (X j).env)).any (·.1) = false := by intro j; rfl) : XR T E X (.Call (.Name "list" p) [e] [] pos) (rOp (fun xs => (dListD xs).bind fun ks => if okKs ks = true then some ks else none) fs) :=
  xr_callTy (fun j => call_glist (hW j) (hc j)) p_listD hm (by decide +kernel) ha hg (by decide +kernel) (by decide +kernel) he hpl
theorem xi_di {elts : List Expr} {kk : Nat} {tpos : Pos} (h : XE T E X e fa) (hW : ∀ j, (X j).w = T.w := by intro j; rfl) (hbase : ∀ j, attributeBase e "items" (X j).env (eval e (X j).env) = eval e (X j).env := by intro j; rfl) (hline : (apos.endLine == cpos.line) = true := by rfl) : XI T E X (.Tuple elts kk tpos) (.Call (.Attribute e "items" apos) [] [] cpos) (iDi fa) := let ⟨_, a1, a2⟩ := h; ⟨_, fun j => by rw [← hW j]; exact pi_gitems (a1 j) (hbase j) hline, semI_di a2⟩
end
end Fz
set_option Elab.async false
set_option linter.all false
set_option maxRecDepth 100000
set_option maxHeartbeats 2000000
namespace Fz
open PySem L2 PySem.Spec PyProof.Rows
def rSetG (T : Tab) : V → V → V → Hp → (Hp → Prop) → Prop := fun o i v H Q => ∃ B a ks xs d, o = .ref a ∧ Ex B H ∧ DctAt T B H a ks xs ∧ Rep T B d i ∧ dkOk ks d = true ∧ xs.length < sizeLine ∧
  ∀ ob, (∀ zs, ob ≠ .tup zs) → DctAt T B (upd H a ob) a (dputK ks d) (dputV ks xs d v) → Q (upd H a ob)
theorem set_g {X : Cx} {T : Tab} (hu : X.A.units + 65 < cLine) (hK : X.K = T.K) (hw : X.w = T.w) : PSet X (rSetG T) := by
  intro pins s σ H o i v ov iv u Q I ro ri rv h
  obtain ⟨B, a, ks, xs, d, rfl, e, c, rd, hd, hl, q⟩ := h
  cases (show ov = Value.ref a from ro)
  exact g_set (by omega) I hK hw e c hd rd ri rv hl fun ob s' h1 h2 I' => ⟨_, I', q ob h1 h2⟩
def rSetA (T : Tab) : V → V → V → Hp → (Hp → Prop) → Prop := fun o i v H Q => rSetL o i v H Q ∨ rSetG T o i v H Q
theorem set_A {X : Cx} {T : Tab} (hu : X.A.units + 65 < cLine) (hK : X.K = T.K) (hw : X.w = T.w) : PSet X (rSetA T) := by
  intro pins s σ H o i v ov iv u Q I ro ri rv h
  rcases h with h | h
  · exact set_list pins s σ H o i v ov iv u Q I ro ri rv h
  · exact set_g hu hK hw pins s σ H o i v ov iv u Q I ro ri rv h
section
variable {T : Tab} {E : L2.St → XK} {kp : Nat → Bool} {B B' H H' : Hp} {u v : V} {q : R}
theorem Sim.pushN {st : Sl} {σ : L2.St} {F : Hp} {w : Option V} (S : Sim T st σ B F H) : Sim T (none :: st) (w :: σ) B F H := by
  refine ⟨S.exB, S.exF, S.dis, S.tup, by simp [S.len], fun i r h => ?_, fun i r v a h1 h2 h3 => ?_, fun i j r q v u a n h1 h2 h3 h4 h5 h6 => ?_, S.tbs⟩
  · cases i with
    | zero => cases h
    | succ i => exact S.rel i r (by simpa using h)
  · cases i with
    | zero => cases h1
    | succ i => exact S.own i r v a (by simpa using h1) (by simpa using h2) h3
  · cases i with
    | zero => cases h1
    | succ i =>
      cases j with
      | zero => cases h3
      | succ j => exact S.sep i j r q v u a (by omega) (by simpa using h1) (by simpa using h2) (by simpa using h3) (by simpa using h4) h5 h6
theorem relRs_snocR (rq : RelR T B H q v) : ∀ {cs : List R} {xs : List V}, RelRs T B H cs xs → (∀ b, Ow H q v b → ¬ OwL H cs xs b) → RelRs T B H (cs ++ [q]) (xs ++ [v]) ∧ ∀ b, OwL H (cs ++ [q]) (xs ++ [v]) b → OwL H cs xs b ∨ Ow H q v b
  | [], xs, h, n => by
    unfold RelRs at h; subst h
    refine ⟨?_, fun b z => ?_⟩
    · show RelRs T B H [q] [v]
      unfold RelRs
      exact ⟨v, [], rfl, rq, by unfold RelRs; rfl, fun b _ z => by unfold OwL at z; exact z⟩
    · have z : OwL H [q] [v] b := z
      unfold OwL at z
      obtain ⟨y', t', e, z⟩ := z
      cases e
      rcases z with z | z
      · exact .inr z
      · exact .inl z
  | c :: cs, xs, h, n => by
    unfold RelRs at h
    obtain ⟨y, t, rfl, h2, h3, h4⟩ := h
    obtain ⟨g1, g2⟩ := relRs_snocR rq h3 fun b z z' => n b z (by unfold OwL; exact ⟨y, t, rfl, .inr z'⟩)
    refine ⟨?_, fun b z => ?_⟩
    · show RelRs T B H (c :: (cs ++ [q])) (y :: (t ++ [v]))
      unfold RelRs
      refine ⟨y, _, rfl, h2, g1, fun b z1 z2 => ?_⟩
      rcases g2 b z2 with z | z
      · exact h4 b z1 z
      · exact n b z (by unfold OwL; exact ⟨y, t, rfl, .inl z1⟩)
    · have z : OwL H (c :: (cs ++ [q])) (y :: (t ++ [v])) b := z
      unfold OwL at z
      obtain ⟨y', t', e, z⟩ := z
      cases e
      rcases z with z | z
      · exact .inl (by unfold OwL; exact ⟨y, t, rfl, .inl z⟩)
      · exact (g2 b z).imp (fun z => by unfold OwL; exact ⟨y, t, rfl, .inr z⟩) id
theorem relRs_setV (rq : RelR T B H q v) : ∀ {cs : List R} {xs : List V} {k : Nat}, RelRs T B H cs xs → (∀ b, Ow H q v b → ¬ OwL H cs xs b) → RelRs T B H (cs.set k q) (xs.set k v) ∧ ∀ b, OwL H (cs.set k q) (xs.set k v) b → OwL H cs xs b ∨ Ow H q v b
  | [], xs, k, h, n => by
    unfold RelRs at h; subst h
    exact ⟨by show RelRs T B H [] []; unfold RelRs; rfl, fun b z => .inl z⟩
  | c :: cs, xs, k, h, n => by
    unfold RelRs at h
    obtain ⟨y, t, rfl, h2, h3, h4⟩ := h
    cases k with
    | zero =>
      refine ⟨?_, fun b z => ?_⟩
      · show RelRs T B H (q :: cs) (v :: t)
        unfold RelRs
        exact ⟨v, t, rfl, rq, h3, fun b z1 z2 => n b z1 (by unfold OwL; exact ⟨y, t, rfl, .inr z2⟩)⟩
      · have z : OwL H (q :: cs) (v :: t) b := z
        unfold OwL at z
        obtain ⟨y', t', e, z⟩ := z
        cases e
        rcases z with z | z
        · exact .inr z
        · exact .inl (by unfold OwL; exact ⟨y, t, rfl, .inr z⟩)
    | succ k =>
      obtain ⟨g1, g2⟩ := relRs_setV (k := k) rq h3 fun b z z' => n b z (by unfold OwL; exact ⟨y, t, rfl, .inr z'⟩)
      refine ⟨?_, fun b z => ?_⟩
      · show RelRs T B H (c :: cs.set k q) (y :: t.set k v)
        unfold RelRs
        refine ⟨y, _, rfl, h2, g1, fun b z1 z2 => ?_⟩
        rcases g2 b z2 with z | z
        · exact h4 b z1 z
        · exact n b z (by unfold OwL; exact ⟨y, t, rfl, .inl z1⟩)
      · have z : OwL H (c :: cs.set k q) (y :: t.set k v) b := z
        unfold OwL at z
        obtain ⟨y', t', e, z⟩ := z
        cases e
        rcases z with z | z
        · exact .inl (by unfold OwL; exact ⟨y, t, rfl, .inl z⟩)
        · exact (g2 b z).imp (fun z => by unfold OwL; exact ⟨y, t, rfl, .inr z⟩) id
theorem relRs_d : ∀ {ds : List D} {xs : List V}, Reps T B ds xs → RelRs T B H (ds.map .d) xs ∧ ∀ b, ¬ OwL H (ds.map .d) xs b
  | [], xs, h => by unfold Reps at h; subst h; exact ⟨by show RelRs T B H [] []; unfold RelRs; rfl, fun b z => by have z : OwL H [] [] b := z; unfold OwL at z; exact z⟩
  | d :: ds, xs, h => by
    unfold Reps at h
    obtain ⟨y, t, rfl, h1, h2⟩ := h
    obtain ⟨g1, g2⟩ := relRs_d h2
    refine ⟨?_, fun b z => ?_⟩
    · show RelRs T B H (.d d :: ds.map .d) (y :: t)
      unfold RelRs
      exact ⟨y, t, rfl, by unfold RelR; exact h1, g1, fun b z _ => by unfold Ow at z; exact z⟩
    · have z : OwL H (.d d :: ds.map .d) (y :: t) b := z
      unfold OwL at z
      obtain ⟨y', t', e, z⟩ := z
      cases e
      rcases z with z | z
      · unfold Ow at z; exact z
      · exact g2 b z
def opSet : R → D → R → Option R
  | .ol xs, .int k, .d x => (ixN xs.length k).map fun j => .ol (xs.set j x)
  | .nl cs, .int k, q => (ixN cs.length k).map fun j => .nl (cs.set j q)
  | .od ks vs, d, .d x => if dkOk ks d = true ∧ vs.length < sizeLine then some (.od (dputK ks d) (dputV ks vs d x)) else none
  | .od ks vs, d, q => if dkOk ks d = true ∧ vs.length < sizeLine then some (.nd (dputK ks d) (dputV ks (vs.map .d) d q)) else none
  | .nd ks cs, d, q => if dkOk ks d = true ∧ cs.length < sizeLine then some (.nd (dputK ks d) (dputV ks cs d q)) else none
  | _, _, _ => none
theorem reps_dput {ks vs : List D} {d x : D} {xs : List V} {y : V} (h : Reps T B vs xs) (r : Rep T B x y) : Reps T B (dputV ks vs d x) (dputV ks xs d y) := by
  unfold dputV
  cases kpos ks d with
  | some j => exact h.set r
  | none => exact h.append (reps_cons r reps_nil)
theorem relRs_dput {ks : List D} {d : D} {cs : List R} {xs : List V} (rq : RelR T B H q v) (h : RelRs T B H cs xs) (n : ∀ b, Ow H q v b → ¬ OwL H cs xs b) : RelRs T B H (dputV ks cs d q) (dputV ks xs d v) ∧ ∀ b, OwL H (dputV ks cs d q) (dputV ks xs d v) b → OwL H cs xs b ∨ Ow H q v b := by
  unfold dputV
  cases kpos ks d with
  | some j => exact relRs_setV rq h n
  | none => exact relRs_snocR rq h n
theorem imm_nk : ∀ {d : D} {k : NestedKey}, nk d = some k → imm d = true := fun {d} => by
  refine D.rec (motive_1 := fun d => ∀ {k : NestedKey}, nk d = some k → imm d = true) (motive_2 := fun ds => ∀ {k : List NestedKey}, nks ds = some k → imms ds = true) ?_ ?_ ?_ ?_ ?_ ?_ ?_ ?_ ?_ ?_ ?_ d
  · exact fun _ => rfl
  · exact fun _ _ _ => rfl
  · exact fun _ _ _ => rfl
  · exact fun _ _ _ => rfl
  · intro ds ih k h
    unfold nk at h
    obtain ⟨l, e, _⟩ := Option.map_eq_some_iff.mp h
    unfold imm
    exact ih e
  · intro ds _ k h; simp [nk] at h
  · intro c ds _ k h; simp [nk] at h
  · intro c ds _ _ k h; simp [nk] at h
  · intro c ds _ k h; simp [nk] at h
  · exact fun _ => rfl
  · intro d ds h1 h2 k h
    unfold nks at h
    obtain ⟨l, e, h⟩ := Option.bind_eq_some_iff.mp h
    obtain ⟨m, e2, _⟩ := Option.map_eq_some_iff.mp h
    unfold imms
    exact (Bool.and_eq_true _ _).mpr ⟨h1 e, h2 e2⟩
theorem imm_dk {ks : List D} {d : D} (h : dkOk ks d = true) : imm d = true := by
  unfold dkOk at h
  rcases (Bool.or_eq_true _ _).mp h with h | h
  · have h := ((Bool.and_eq_true _ _).mp h).1
    cases d <;> first | rfl | cases h
  · have h := ((Bool.and_eq_true _ _).mp h).1
    unfold tupK at h
    split at h
    · rename_i e; exact imm_nk e
    · cases h
theorem set_run {n n' : R} {d : D} {y : V} {Q : Hp → Prop} (h : opSet n d q = some n') (e : Ex B H) (tp : ∀ a xs, H a = some (.tup xs) → B a = some (.tup xs)) (rn : RelR T B H n u) (rq : RelR T B H q v) (dis : ∀ b, Ow H q v b → ¬ Ow H n u b) (rd : Rep T H d y) :
    ∃ a, Ow H n u a ∧ ((∀ o, (∀ zs, o ≠ .tup zs) → RelR T B (upd H a o) n' u → (∀ b, Ow (upd H a o) n' u b → Ow H n u b ∨ Ow H q v b) → Q (upd H a o)) → rSetA T u y v H Q) := by
  have qk : ∀ {a : Addr} {o : HO}, Ow H n u a → RelR T B (upd H a o) q v ∧ ∀ b, Ow (upd H a o) q v b → Ow H q v b := fun {a o} ha => by
    have nt := (rn.ow ha).2
    have tk : Tk H (upd H a o) := fun b zs w => by rw [upd_ne (by intro e; subst e; exact nt zs w)]; exact w
    have kp : ∀ p ob, Ow H q v p → H p = some ob → upd H a o p = some ob := fun p ob w g => by rw [upd_ne (by intro e; subst e; exact dis p w ha)]; exact g
    exact ⟨rq.keep (.refl B) tk kp, fun b => Ow.back tk rq kp⟩
  have ck : ∀ {a : Addr} {o : HO} {cs : List R} {xs : List V}, (∀ zs, H a ≠ some (.tup zs)) → RelRs T B H cs xs → ¬ OwL H cs xs a → RelRs T B (upd H a o) cs xs ∧ ∀ b, OwL (upd H a o) cs xs b → OwL H cs xs b := fun {a o cs xs} nt r na => by
    have tk : Tk H (upd H a o) := fun b zs w => by rw [upd_ne (by intro e; subst e; exact nt zs w)]; exact w
    have kp : ∀ p ob, OwL H cs xs p → H p = some ob → upd H a o p = some ob := fun p ob w g => by rw [upd_ne (by intro e; subst e; exact na w)]; exact g
    exact ⟨r.keep (.refl B) tk kp, fun b => OwL.back tk r kp⟩
  have dict : ∀ {ks : List D} {cs : List R} {a : Addr} {xs : List V}, dkOk ks d = true ∧ cs.length < sizeLine → u = .ref a → Ow H n u a → (∀ b, OwL H cs xs b → Ow H n u b) → DctAt T B H a ks xs → RelRs T B H cs xs → ¬ OwL H cs xs a → n' = .nd (dputK ks d) (dputV ks cs d q) →
      ((∀ o, (∀ zs, o ≠ .tup zs) → RelR T B (upd H a o) n' u → (∀ b, Ow (upd H a o) n' u b → Ow H n u b ∨ Ow H q v b) → Q (upd H a o)) → rSetA T u y v H Q) := fun {ks cs a xs} hc hu ha sub c r na en k => by
    subst hu
    have rdB : Rep T B d y := imm_rep tp d (imm_dk hc.1) rd
    refine .inr ⟨B, a, ks, xs, d, rfl, e, c, rdB, hc.1, by rw [← r.length]; exact hc.2, fun o ho c' => ?_⟩
    obtain ⟨q1, q2⟩ := qk (o := o) ha
    obtain ⟨c1, c2⟩ := ck (o := o) c.notTup r na
    obtain ⟨g1, g2⟩ := relRs_dput (ks := ks) (d := d) q1 c1 fun b z z' => dis b (q2 b z) (sub b (c2 b z'))
    have back : ∀ b, OwL (upd H a o) (dputV ks cs d q) (dputV ks xs d v) b → OwL H cs xs b ∨ Ow H q v b := fun b z => (g2 b z).imp (c2 b) (q2 b)
    refine k o ho ?_ fun b z => ?_
    · rw [en]; unfold RelR
      exact ⟨a, _, rfl, c', g1, fun z => (back a z).elim na fun z => dis a z ha⟩
    · rw [en] at z; unfold Ow at z
      rcases z with z | ⟨a', xs', e1, e2, e3⟩
      · cases z; exact .inl ha
      · cases e1; cases HeldAt.inj c'.held e2
        exact (back b e3).imp (sub b) id
  cases n with
  | ol xs =>
    cases d with
    | int k =>
      cases q with
      | d x =>
        obtain ⟨j, hj, e'⟩ := Option.map_eq_some_iff.mp h
        cases e'
        unfold RelR at rn rq
        obtain ⟨a, ys, rfl, h2, h3⟩ := rn
        cases rep_int rd
        exact ⟨a, by unfold Ow; rfl, fun k => .inl ⟨a, ys, _, j, rfl, rfl, h2, by rw [← h3.length]; exact hj, k _ (fun _ z => nomatch z) (rel_ol upd_same (h3.set rq)) fun b z => .inl (own_ol b z)⟩⟩
      | _ => cases h
    | _ => cases h
  | nl cs =>
    cases d with
    | int k =>
      obtain ⟨j, hj, e'⟩ := Option.map_eq_some_iff.mp h
      cases e'
      have rn' := rn
      unfold RelR at rn
      obtain ⟨a, ys, rfl, h2, h3, h4⟩ := rn
      cases rep_int rd
      have ha : Ow H (.nl cs) (.ref a) a := by unfold Ow; exact .inl rfl
      refine ⟨a, ha, fun k => .inl ⟨a, ys, _, j, rfl, rfl, h2, by rw [← h3.length]; exact hj, ?_⟩⟩
      obtain ⟨q1, q2⟩ := qk (o := .lst (ys.set j v)) ha
      obtain ⟨c1, c2⟩ := ck (o := .lst (ys.set j v)) (fun zs z => by rw [h2] at z; cases z) h3 h4
      have sub : ∀ b, OwL H cs ys b → Ow H (.nl cs) (.ref a) b := fun b z => by unfold Ow; exact .inr ⟨a, ys, rfl, .inl h2, z⟩
      obtain ⟨g1, g2⟩ := relRs_setV (k := j) q1 c1 fun b z z' => dis b (q2 b z) (sub b (c2 b z'))
      have back : ∀ b, OwL (upd H a (.lst (ys.set j v))) (cs.set j q) (ys.set j v) b → OwL H cs ys b ∨ Ow H q v b := fun b z => (g2 b z).imp (c2 b) (q2 b)
      refine k _ (fun _ z => nomatch z) ?_ fun b z => ?_
      · unfold RelR
        exact ⟨a, _, rfl, upd_same, g1, fun z => (back a z).elim h4 fun z => dis a z ha⟩
      · unfold Ow at z
        rcases z with z | ⟨a', xs', e1, e2, e3⟩
        · cases z; exact .inl ha
        · cases e1; cases HeldAt.inj (.inl upd_same) e2
          exact (back b e3).imp (sub b) id
    | _ => cases h
  | od ks vs =>
    have rn' := rn
    unfold RelR at rn
    obtain ⟨a, xs, rfl, c, r⟩ := rn
    have ha : Ow H (.od ks vs) (.ref a) a := by unfold Ow; rfl
    obtain ⟨r1, r2⟩ := relRs_d (H := H) r
    have gen : dkOk ks d = true ∧ vs.length < sizeLine → n' = .nd (dputK ks d) (dputV ks (vs.map .d) d q) → ((∀ o, (∀ zs, o ≠ .tup zs) → RelR T B (upd H a o) n' (.ref a) → (∀ b, Ow (upd H a o) n' (.ref a) b → Ow H (.od ks vs) (.ref a) b ∨ Ow H q v b) → Q (upd H a o)) → rSetA T (.ref a) y v H Q) := fun hc en =>
      dict (cs := vs.map .d) (xs := xs) ⟨hc.1, by rw [List.length_map]; exact hc.2⟩ rfl ha (fun b z => (r2 b z).elim) c r1 (fun z => r2 a z) en
    refine ⟨a, ha, ?_⟩
    cases q with
    | d x =>
      have h : (if dkOk ks d = true ∧ vs.length < sizeLine then some (R.od (dputK ks d) (dputV ks vs d x)) else none) = some n' := h
      split at h
      · rename_i hc
        cases h
        intro k
        unfold RelR at rq
        have rdB : Rep T B d y := imm_rep tp d (imm_dk hc.1) rd
        exact .inr ⟨B, a, ks, xs, d, rfl, e, c, rdB, hc.1, by rw [← r.length]; exact hc.2, fun o ho c' => k o ho (relR_od c' (reps_dput r rq)) fun b z => .inl (by unfold Ow at z ⊢; exact z)⟩
      · cases h
    | _ =>
      have h : (if dkOk ks d = true ∧ vs.length < sizeLine then some (R.nd (dputK ks d) (dputV ks (vs.map .d) d _)) else none) = some n' := h
      split at h
      · rename_i hc
        cases h
        exact gen hc rfl
      · cases h
  | nd ks cs =>
    have rn' := rn
    unfold RelR at rn
    obtain ⟨a, xs, rfl, c, r, na⟩ := rn
    have h : (if dkOk ks d = true ∧ cs.length < sizeLine then some (R.nd (dputK ks d) (dputV ks cs d q)) else none) = some n' := h
    split at h
    · rename_i hc
      cases h
      have ha : Ow H (.nd ks cs) (.ref a) a := by unfold Ow; exact .inl rfl
      exact ⟨a, ha, dict hc rfl ha (fun b z => by unfold Ow; exact .inr ⟨a, xs, rfl, c.held, z⟩) c r na rfl⟩
    · cases h
  | d x => cases d <;> cases h
  | oi c fs => cases d <;> cases h
  | nt cs => cases d <;> cases h
  | ni c cs => cases d <;> cases h
end
end Fz
set_option Elab.async false
set_option linter.all false
set_option maxRecDepth 100000
set_option maxHeartbeats 2000000
namespace Fz
open PySem L2 PySem.Spec PyProof.Rows
def sSetA (n : Nat → Nat) (i : Nat) (mp : Sl → Option (List Nat)) (mi : M D) (m : M R) : MS := fun st => match m st with
  | some (.v q, s1) => (match mp s1, s1[i]?, mi (vwN n s1) with
    | some p, some (some r), some (.v d, _) => ((rAt r p).bind fun nd => opSet nd d q).map fun n' => (.nx, s1.set i (some (rSet r p n')))
    | _, _, _ => none)
  | some (.x c, s) => some (.x c, s)
  | none => none
section
variable {T : Tab} {E : L2.St → XK} {kp : Nat → Bool} {i : Nat}
theorem semS_setA {te to ti : TE} {m : M R} {mp : Sl → Option (List Nat)} {mi : M D} (hm : SemR T E te m) (hp : SemP T i to mp) (hi : SemE T E ti mi) : SemS T E kp (tAsg te (gSub to ti (rSetA T))) (sSetA (fun c => (T.flds c).length) i mp mi m) := by
  intro st σ B F H S fl s hf D hD
  unfold sSetA at hf
  split at hf
  · rename_i q s1 e0
    refine hm st σ B F H S _ _ e0 _ fun v B1 H1 x1 S1 => ?_
    split at hf
    · rename_i p r d s2 e1 e2 e3
      obtain ⟨n', hn, e⟩ := Option.map_eq_some_iff.mp hf
      cases e
      obtain ⟨nd, e4, hs⟩ := Option.bind_eq_some_iff.mp hn
      have Sh : Sim T s1 σ B1 (addS F H1 (Ow H1 q v)) H1 := (S1.hid (i := 0) rfl rfl).pop
      refine hp s1 σ B1 _ H1 Sh p e1 _ fun B2 H2 u w x2 y2 S2 hv z => ?_
      refine hi _ σ (noT T H2) _ H2 S2.full _ _ e3 _ fun B3 H3 x3 S3 y ry => ?_
      have ex := x3.trans S3.exB
      obtain ⟨b1, b2, b3⟩ := S2.back ex S3.tbs S3.exB
      obtain ⟨w', hw', rel2⟩ := S2.rel i r e2
      rw [hv] at hw'; cases hw'
      have z3 : VAt H3 w p u := VAt.keep rel2 e4 (S2.tkB ex) (fun b o w g => S2.atB ex g (S2.ntb e2 hv w o g)) z
      obtain ⟨U, _, _⟩ := S1.unhid (i := 0) (st := some q :: s1) (σ := some v :: σ) rfl rfl (x2.trans b1) (b2.pushN (w := some v))
      have U : Sim T (some q :: s1) (some v :: σ) (tups T B2 H3) F H3 := U
      obtain ⟨w', hw', rel3⟩ := U.pop.rel i r e2
      rw [hv] at hw'; cases hw'
      obtain ⟨reln, sub⟩ := at_val rel3 e4 z3
      have dis : ∀ b, Ow H3 q v b → ¬ Ow H3 r w b := fun b h1 h2 => U.sep 0 (i + 1) q r v w b (by omega) rfl rfl (by simpa using e2) (by simpa using hv) h1 h2
      obtain ⟨a, ha, run⟩ := set_run (d := d) (y := y) (Q := D.nx σ) hs U.exB U.tup reln U.top (fun b h1 h2 => dis b h1 (sub b h2)) (Rep.mono S3.exB d ry)
      refine run fun o ho r1 s1' => ?_
      have nt := (reln.ow ha).2
      have tk' : Tk H3 (upd H3 a o) := fun b xs w => by rw [upd_ne (by intro e; subst e; exact nt xs w)]; exact w
      obtain ⟨g1, g2⟩ := at_put (X := Ow H3 q v) (Ex.refl _) tk' rel3 e4 z3 r1 s1' dis fun b ob n _ w => by rw [upd_ne (by intro e; subst e; exact n ha)]; exact w
      exact hD σ _ _ (x1.trans (x2.trans b1)) (Kp.refl _ _) (U.change2 e2 hv (sub a ha) ho g1 g2)
    · cases hf
  · rename_i c s1 e0
    cases hf
    exact hm st σ B F H S _ _ e0 _ fun d B1 H1 e1 S1 => hD d σ B1 H1 e1 (Kp.refl _ _) S1
  · cases hf
end
section
variable {ι : Type} {T : Tab} {E : L2.St → XK} {X : ι → Cx} {kp : Nat → Bool} {pos sp' : Pos} {e o k : Expr} {fi : M D} {fr : M R} {i : Nat} {mp : Sl → Option (List Nat)}
theorem xs_setA (hu : Rm X) (hv : XR T E X e fr) (hp : XP T E X i o mp) (hi : XE T E X k fi) (hK : ∀ j, (X j).K = T.K := by intro j; rfl) (hW : ∀ j, (X j).w = T.w := by intro j; rfl)
    (ha : ∀ j v, assign (.Subscript o k sp') (X j).env v = (do
      let ov ← holding [v] (eval o (X j).env)
      let iv ← holding [v, ov] (eval k (X j).env)
      standAt sp'
      holding [v, ov, iv] (setItem ov iv v)
      release [v, ov, iv] []) := by intro _ _; rfl)
    (hs : ∀ j, swapsWithSole [.Subscript o k sp'] e pos.line (X j).env = pure false := by intro j; rfl) (hw : ∀ j, swappedStores [.Subscript o k sp'] e (X j).env = pure none := by intro j; rfl) (h1 : ∀ j, (assignEach [.Subscript o k sp'] (X j).env).map (·.2) = [assign (.Subscript o k sp') (X j).env] := by intro j; rfl) : XS T E X kp (.Assign [.Subscript o k sp'] e pos) (sSetA (fun c => (T.flds c).length) i mp fi fr) := by
  obtain ⟨_, a1, a2⟩ := hv
  obtain ⟨_, b1, b2⟩ := hp
  obtain ⟨_, c1, c2⟩ := hi
  exact ⟨_, fun j => ps_asg (a1 j) (pg_sub (b1 j) (c1 j) (set_A (by have := hu j; omega) (hK j) (hW j)) (ha j)) (hs j) (hw j) (h1 j), semS_setA a2 b2 c2⟩
end
theorem Sim.shown {T : Tab} {st s' : Sl} {σ σ' : L2.St} {B B' F H H' : Hp} {r : R} {v : V} (S : Sim T (some r :: st) (some v :: σ) B F H) (e : Ex B B') (S' : Sim T s' σ' B' (addS F H (Ow H r v)) H') : Sim T (some r :: s') (some v :: σ') B' F H' := by
  have tk : Tk H H' := fun b xs z => S'.exB b _ (e b _ (S.tup b xs z))
  have k : ∀ b o, Ow H r v b → H b = some o → H' b = some o := fun b o z q => S'.exF b o (by rw [addS_in z]; exact q)
  have rel := S.top
  have bk : ∀ b, Ow H' r v b → Ow H r v b := fun b => Ow.back tk rel k
  have inF : ∀ b, Ow H r v b → ∃ o, addS F H (Ow H r v) b = some o := fun b z => by
    rw [addS_in z]; exact (rel.ow z).1
  have frF : ∀ b, addS F H (Ow H r v) b = none → F b = none := fun b z => by
    by_cases y : Ow H r v b
    · obtain ⟨o, w⟩ := inF b y; rw [w] at z; cases z
    · rwa [addS_out y] at z
  have outF : ∀ b o, F b = some o → addS F H (Ow H r v) b = some o := fun b o z => by
    rw [addS_out fun y => by rw [(S.own 0 r v b rfl rfl y).2] at z; cases z]; exact z
  have cross : ∀ {j : Nat} {q : R} {u : V} {b : Addr}, s'[j]? = some (some q) → σ'[j]? = some (some u) → Ow H' r v b → Ow H' q u b → False := fun {j q u b} g1 g2 g3 g4 => by
    obtain ⟨o, w⟩ := inF b (bk b g3)
    rw [(S'.own j q u b g1 g2 g4).2] at w; cases w
  refine ⟨S'.exB, fun b o z => S'.exF b o (outF b o z), fun b o z => S'.dis b o (outF b o z), S'.tup, by simp [S'.len], fun j q g => ?_, fun j q u b g1 g2 g3 => ?_, fun i j q p u w b n g1 g2 g3 g4 g5 g6 => ?_, ⟨S.tbs.noF, S'.tbs.tab⟩⟩
  · cases j with
    | zero => cases g; exact ⟨v, rfl, rel.keep e tk k⟩
    | succ j => exact S'.rel j q (by simpa using g)
  · cases j with
    | zero =>
      cases g1; cases g2
      have z := bk b g3
      obtain ⟨o, w⟩ := inF b z
      exact ⟨S'.dis b o w, (S.own 0 r v b rfl rfl z).2⟩
    | succ j =>
      obtain ⟨z1, z2⟩ := S'.own j q u b (by simpa using g1) (by simpa using g2) g3
      exact ⟨z1, frF b z2⟩
  · cases i with
    | zero =>
      cases g1; cases g2
      cases j with
      | zero => exact n rfl
      | succ j => exact cross (by simpa using g3) (by simpa using g4) g5 g6
    | succ i =>
      cases j with
      | zero => cases g3; cases g4; exact cross (by simpa using g1) (by simpa using g2) g6 g5
      | succ j => exact S'.sep i j q p u w b (by omega) (by simpa using g1) (by simpa using g2) (by simpa using g3) (by simpa using g4) g5 g6
def aRNil : M (List R) := ret []
def aRCons (fr : M R) (fs : M (List R)) : M (List R) := fun st => match fr st with
  | some (.v r, s) => (match fs s with
    | some (.v rs, s') => some (.v (r :: rs), s')
    | _ => none)
  | _ => none
def rLstR (f : M (List R)) : M R := fun st => match f st with
  | some (.v rs, s) => if rs.length ≤ sizeLine then some (.v (.nl rs), s) else none
  | _ => none
def rTupR (f : M (List R)) : M R := fun st => match f st with
  | some (.v rs, s) => if rs.length ≤ sizeLine then some (.v (.nt rs), s) else none
  | _ => none
section
variable {T : Tab} {E : L2.St → XK}
theorem Sim.row {st : Sl} {σ : L2.St} {B F H : Hp} : ∀ {rs : List R} {vs : List V}, Sim T (rs.map some ++ st) (vs.map some ++ σ) B F H → rs.length = vs.length → RelRs T B H rs vs ∧ (∀ b, OwL H rs vs b → ∃ (i : Nat) (r : R) (v : V), rs[i]? = some r ∧ vs[i]? = some v ∧ Ow H r v b) ∧ Sim T st σ B F H
  | [], vs, S, l => by
    cases vs with
    | nil => exact ⟨by unfold RelRs; rfl, fun b z => by unfold OwL at z; exact z.elim, S⟩
    | cons _ _ => cases l
  | r :: rs, vs, S, l => by
    cases vs with
    | nil => cases l
    | cons v vs =>
      have S : Sim T (some r :: (rs.map some ++ st)) (some v :: (vs.map some ++ σ)) B F H := S
      obtain ⟨g1, g2, g3⟩ := Sim.row S.pop (by simpa using l)
      refine ⟨?_, fun b z => ?_, g3⟩
      · unfold RelRs
        refine ⟨v, vs, rfl, S.top, g1, fun b z1 z2 => ?_⟩
        obtain ⟨i, q, u, h1, h2, h3⟩ := g2 b z2
        have i1 : i < rs.length := (List.getElem?_eq_some_iff.mp h1).1
        have i2 : i < vs.length := (List.getElem?_eq_some_iff.mp h2).1
        exact S.sep 0 (i + 1) r q v u b (by omega) rfl rfl (by rw [List.getElem?_cons_succ, List.getElem?_append_left (by simpa using i1), List.getElem?_map, h1]; rfl) (by rw [List.getElem?_cons_succ, List.getElem?_append_left (by simpa using i2), List.getElem?_map, h2]; rfl) z1 h3
      · unfold OwL at z
        obtain ⟨y, t, e, z⟩ := z
        cases e
        rcases z with z | z
        · exact ⟨0, r, v, rfl, rfl, z⟩
        · obtain ⟨i, q, u, h1, h2, h3⟩ := g2 b z
          exact ⟨i + 1, q, u, by simpa using h1, by simpa using h2, h3⟩
end
section
variable {ι : Type} {T : Tab} {E : L2.St → XK} {X : ι → Cx} {pos : Pos} {e : Expr} {es : List Expr} {fr : M R} {fs : M (List R)}
end
end Fz
set_option Elab.async false
set_option linter.all false
set_option maxRecDepth 100000
set_option maxHeartbeats 2000000
namespace Fz
open PySem L2 PySem.Spec PyProof.Rows
def catS (ss : List Str) : Str := ss.foldl (· ++ ·) Str.empty
def dCat (xs : List D) : Option D := (dStrs xs).bind fun ss => if (ss.map (·.length)).sum ≤ sizeLine then some (.str (catS ss)) else none
section
variable {T : Tab} {E : L2.St → XK}
def eFStr (fs : M (List D)) : M D := fun st => match fs st with
  | some (.v xs, s) => (dCat xs).map fun x => (.v x, s)
  | _ => none
end
section
variable {ι : Type} {T : Tab} {E : L2.St → XK} {X : ι → Cx} {pos apos : Pos} {e o : Expr} {es : List Expr} {fa : M D} {fs : M (List D)}
end
end Fz
set_option Elab.async false
set_option linter.all false
set_option maxRecDepth 100000
set_option maxHeartbeats 2000000
namespace Fz
open PySem L2
def rFullO (n : Nat → Nat) (f : M R) : M R := fun st => match f (vwN n st) with
  | some (.v (.oi c xs), _) => if imms xs = true then some (.v (.oi c xs), st) else none
  | some (.x c, _) => some (.x c, st)
  | _ => none
section
variable {T : Tab} {E : L2.St → XK}
end
section
variable {α : Type} {st s : Sl} {i : Nat} {n : Nat → Nat} {Q : Oc D → Sl → Prop} {QR : Oc R → Sl → Prop} {QL : Oc (List D) → Sl → Prop} {QA : Oc (List R) → Sl → Prop} {QS : Fl → Sl → Prop} {mp : Sl → Option (List Nat)} {fa fb mi : M D} {fs : M (List D)} {k : List Nat → Prop} {m fr : M R} {frs : M (List R)}
def wsl (o : Option (Option R)) (k : R → Prop) : Prop := match o with
  | some (some r) => k r
  | _ => False
theorem wsl_r {r : R} {k : R → Prop} : wsl (some (some r)) k = k r := rfl
theorem wsl_eq {o : Option (Option R)} {k : R → Prop} : wsl o k ↔ ∃ r, o = some (some r) ∧ k r := by
  unfold wsl
  split
  · rename_i r; exact ⟨fun h => ⟨r, rfl, h⟩, fun ⟨r', e, h⟩ => by cases e; exact h⟩
  · rename_i h; exact ⟨(fun h => h.elim), (fun ⟨r', e, _⟩ => (h r' e).elim)⟩
theorem wp_iff {m : M α} {Q : Oc α → Sl → Prop} : wp m st Q ↔ ∃ o s, m st = some (o, s) ∧ Q o s := by
  unfold wp
  cases m st with
  | none => exact ⟨(fun h => h.elim), (fun ⟨_, _, e, _⟩ => nomatch e)⟩
  | some p => obtain ⟨o, s⟩ := p; exact ⟨fun h => ⟨o, s, rfl, h⟩, fun ⟨o', s', e', h⟩ => by cases e'; exact h⟩
theorem ws_iff {m : MS} {Q : Fl → Sl → Prop} : ws m st Q ↔ ∃ o s, m st = some (o, s) ∧ Q o s := by
  unfold ws
  cases m st with
  | none => exact ⟨(fun h => h.elim), (fun ⟨_, _, e, _⟩ => nomatch e)⟩
  | some p => obtain ⟨o, s⟩ := p; exact ⟨fun h => ⟨o, s, rfl, h⟩, fun ⟨o', s', e', h⟩ => by cases e'; exact h⟩
def va {β : Type} (k : β → Sl → Prop) : Oc β → Sl → Prop
  | .v a, s => k a s
  | .x _, _ => False
def wpl (m : Sl → Option (List Nat)) (st : Sl) (k : List Nat → Prop) : Prop := wo (m st) k
theorem n_pName : wpl (pName i) st k = isR (gt st i) (k []) := by
  unfold wpl wo pName isR
  rw [gt_eq]
  cases gt st i with
  | none => exact propext ⟨(fun ⟨_, e, _⟩ => nomatch e), (fun h => h.elim)⟩
  | some o => cases o with
    | none => exact propext ⟨(fun ⟨_, e, _⟩ => nomatch e), (fun h => h.elim)⟩
    | some r => exact propext ⟨fun ⟨_, e, h⟩ => by cases e; exact h, fun h => ⟨_, rfl, h⟩⟩
def kPx5 (k : List Nat → Prop) (p : List Nat) (j : Nat) : R → Prop := fun _ => k (p ++ [j])
theorem kPx5_a {p : List Nat} {j : Nat} {r : R} : kPx5 k p j r = k (p ++ [j]) := rfl
def kPx4 (k : List Nat → Prop) (p : List Nat) (q : R) : Nat → Prop := fun j => wo (kids q)[j]? (kPx5 k p j)
theorem kPx4_a {p : List Nat} {j : Nat} {q : R} : kPx4 k p q j = wo (kids q)[j]? (kPx5 k p j) := rfl
def kPx3 (k : List Nat → Prop) (p : List Nat) (q : R) : Oc D → Sl → Prop := va fun d _ => wo (kidAt q d) (kPx4 k p q)
theorem kPx3_v {p : List Nat} {d : D} {q : R} : kPx3 k p q (.v d) s = wo (kidAt q d) (kPx4 k p q) := rfl
def kPx2 (n : Nat → Nat) (fb : M D) (st : Sl) (k : List Nat → Prop) (p : List Nat) : R → Prop := fun q => wpe fb (vwN n st) (kPx3 k p q)
theorem kPx2_a {p : List Nat} {q : R} : kPx2 n fb st k p q = wpe fb (vwN n st) (kPx3 k p q) := rfl
def kPx1 (n : Nat → Nat) (fb : M D) (st : Sl) (k : List Nat → Prop) (p : List Nat) : R → Prop := fun r => wo (rAt r p) (kPx2 n fb st k p)
theorem kPx1_a {p : List Nat} {r : R} : kPx1 n fb st k p r = wo (rAt r p) (kPx2 n fb st k p) := rfl
def kPx0 (n : Nat → Nat) (i : Nat) (fb : M D) (st : Sl) (k : List Nat → Prop) : List Nat → Prop := fun p => wsl (gt st i) (kPx1 n fb st k p)
theorem kPx0_a {p : List Nat} : kPx0 n i fb st k p = wsl (gt st i) (kPx1 n fb st k p) := rfl
theorem n_pIx : wpl (pIx n i mp fb) st k = wpl mp st (kPx0 n i fb st k) := by
  apply propext
  unfold wpl
  constructor
  · rintro ⟨p', e, h⟩
    unfold pIx at e
    split at e
    · rename_i p r e1 e2
      split at e
      · rename_i q d s0 e3 e4
        obtain ⟨j, hj, e⟩ := Option.bind_eq_some_iff.mp e
        obtain ⟨c, hc, rfl⟩ := Option.map_eq_some_iff.mp e
        exact ⟨p, e1, wsl_eq.mpr ⟨r, by rw [← gt_eq]; exact e2, q, e3, wp_iff.mpr ⟨.v d, s0, e4, j, hj, c, hc, h⟩⟩⟩
      · cases e
    · cases e
  · rintro ⟨p, e1, h⟩
    obtain ⟨r, e2, q, e3, h⟩ := wsl_eq.mp h
    obtain ⟨o, s0, e4, h⟩ := wp_iff.mp h
    cases o with
    | x c => exact h.elim
    | v d =>
      obtain ⟨j, hj, c, hc, h⟩ := h
      refine ⟨p ++ [j], ?_, h⟩
      unfold pIx
      rw [gt_eq, e1, e2]
      simp only [e3, e4, hj, hc, Option.bind_some, Option.map_some]
def kPf3 (k : List Nat → Prop) (p : List Nat) (cs : List R) : Nat → Prop := fun j => wo cs[j]? (kPx5 k p j)
theorem kPf3_a {p : List Nat} {cs : List R} {j : Nat} : kPf3 k p cs j = wo cs[j]? (kPx5 k p j) := rfl
def kPf2 (ix : Nat → Option Nat) (k : List Nat → Prop) (p : List Nat) : R → Prop
  | .ni c cs => wo (ix c) (kPf3 k p cs)
  | _ => False
theorem kPf2_a {ix : Nat → Option Nat} {p : List Nat} {c : Nat} {cs : List R} : kPf2 ix k p (.ni c cs) = wo (ix c) (kPf3 k p cs) := rfl
def kPf1 (ix : Nat → Option Nat) (k : List Nat → Prop) (p : List Nat) : R → Prop := fun r => wo (rAt r p) (kPf2 ix k p)
theorem kPf1_a {ix : Nat → Option Nat} {p : List Nat} {r : R} : kPf1 ix k p r = wo (rAt r p) (kPf2 ix k p) := rfl
def kPf0 (i : Nat) (ix : Nat → Option Nat) (st : Sl) (k : List Nat → Prop) : List Nat → Prop := fun p => wsl (gt st i) (kPf1 ix k p)
theorem kPf0_a {ix : Nat → Option Nat} {p : List Nat} : kPf0 i ix st k p = wsl (gt st i) (kPf1 ix k p) := rfl
theorem n_pFld {ix : Nat → Option Nat} : wpl (pFld i ix mp) st k = wpl mp st (kPf0 i ix st k) := by
  apply propext
  unfold wpl
  constructor
  · rintro ⟨p', e, h⟩
    unfold pFld at e
    split at e
    · rename_i p r e1 e2
      split at e
      · rename_i c cs e3
        obtain ⟨j, hj, e⟩ := Option.bind_eq_some_iff.mp e
        obtain ⟨c', hc, rfl⟩ := Option.map_eq_some_iff.mp e
        exact ⟨p, e1, wsl_eq.mpr ⟨r, by rw [← gt_eq]; exact e2, _, e3, j, hj, c', hc, h⟩⟩
      · cases e
    · cases e
  · rintro ⟨p, e1, h⟩
    obtain ⟨r, e2, q, e3, h⟩ := wsl_eq.mp h
    cases q with
    | ni c cs =>
      obtain ⟨j, hj, c', hc, h⟩ := h
      refine ⟨p ++ [j], ?_, h⟩
      unfold pFld
      rw [gt_eq, e1, e2]
      simp only [e3, hj, hc, Option.bind_some, Option.map_some]
    | _ => exact h.elim
-- arguments
def kH2 (i : Nat) (r : R) (QL : Oc (List D) → Sl → Prop) : Oc (List D) → Sl → Prop := va fun xs s => QL (.v xs) (stt s i (some r))
theorem kH2_v {r : R} {xs : List D} : kH2 i r QL (.v xs) s = QL (.v xs) (stt s i (some r)) := rfl
def kH1 (i : Nat) (f : M (List D)) (st : Sl) (QL : Oc (List D) → Sl → Prop) : R → Prop := fun r => wpe f (stt st i none) (kH2 i r QL)
theorem kH1_a {r : R} : kH1 i fs st QL r = wpe fs (stt st i none) (kH2 i r QL) := rfl
theorem n_aHid : wp (aHid i fs) st QL = wsl (gt st i) (kH1 i fs st QL) := by
  apply propext
  rw [wp_iff, wsl_eq, ← gt_eq]
  constructor
  · rintro ⟨o, s, e, h⟩
    unfold aHid at e
    split at e
    · rename_i r hr
      split at e
      · rename_i xs s' e'
        cases e
        refine ⟨r, hr, wp_iff.mpr ⟨.v xs, s', by rw [← stt_eq]; exact e', ?_⟩⟩
        show QL (.v xs) (stt s' i (some r))
        rw [← stt_eq]; exact h
      · cases e
    · cases e
  · rintro ⟨r, hr, h⟩
    obtain ⟨o, s, e, h⟩ := wp_iff.mp h
    cases o with
    | x c => exact h.elim
    | v xs =>
      have h : QL (.v xs) (stt s i (some r)) := h
      refine ⟨.v xs, s.set i (some r), ?_, by rw [stt_eq]; exact h⟩
      unfold aHid
      rw [hr]
      simp only
      rw [stt_eq, e]
def kAF (st : Sl) (QL : Oc (List D) → Sl → Prop) : Oc (List D) → Sl → Prop := va fun xs _ => wc (imms xs = true) (kU (fun xs => QL (.v xs) st) xs)
theorem kAF_v {xs : List D} : kAF st QL (.v xs) s = wc (imms xs = true) (kU (fun xs => QL (.v xs) st) xs) := rfl
theorem n_aFull : wp (aFull n fs) st QL = wpe fs (vwN n st) (kAF st QL) := by
  apply propext
  rw [wp_iff]
  show _ ↔ wp fs (vwN n st) (kAF st QL)
  rw [wp_iff]
  constructor
  · rintro ⟨o, s, e, h⟩
    unfold aFull at e
    split at e
    · rename_i xs s' e'
      split at e
      · rename_i hi; cases e; exact ⟨.v xs, s', e', hi, h⟩
      · cases e
    · cases e
  · rintro ⟨o, s, e, h⟩
    cases o with
    | x c => exact h.elim
    | v xs =>
      obtain ⟨h1, h2⟩ := h
      exact ⟨.v xs, st, by unfold aFull; rw [e]; simp only [h1, if_true], h2⟩
theorem n_aNo : wp aNo st QL = QL (.v []) st := rfl
-- eMut
def kM5 (i : Nat) (p : List Nat) (r : R) (s : Sl) (Q : Oc D → Sl → Prop) : R × D → Prop := fun q => Q (.v q.2) (stt s i (some (rSet r p q.1)))
theorem kM5_a {p : List Nat} {r q : R} {d : D} : kM5 i p r s Q (q, d) = Q (.v d) (stt s i (some (rSet r p q))) := rfl
def kM4 (i : Nat) (op : R → List D → Option (R × D)) (p : List Nat) (r q : R) (Q : Oc D → Sl → Prop) : Oc (List D) → Sl → Prop := va fun xs s => wo (op q xs) (kM5 i p r s Q)
theorem kM4_v {op : R → List D → Option (R × D)} {p : List Nat} {r q : R} {xs : List D} : kM4 i op p r q Q (.v xs) s = wo (op q xs) (kM5 i p r s Q) := rfl
def kM3 (i : Nat) (fa : M (List D)) (op : R → List D → Option (R × D)) (st : Sl) (Q : Oc D → Sl → Prop) (p : List Nat) (r : R) : R → Prop := fun q => wp fa st (kM4 i op p r q Q)
theorem kM3_a {op : R → List D → Option (R × D)} {p : List Nat} {r q : R} : kM3 i fs op st Q p r q = wp fs st (kM4 i op p r q Q) := rfl
def kM2 (i : Nat) (fa : M (List D)) (op : R → List D → Option (R × D)) (st : Sl) (Q : Oc D → Sl → Prop) (p : List Nat) : R → Prop := fun r => wo (rAt r p) (kM3 i fa op st Q p r)
theorem kM2_a {op : R → List D → Option (R × D)} {p : List Nat} {r : R} : kM2 i fs op st Q p r = wo (rAt r p) (kM3 i fs op st Q p r) := rfl
def kM1 (i : Nat) (fa : M (List D)) (op : R → List D → Option (R × D)) (st : Sl) (Q : Oc D → Sl → Prop) : List Nat → Prop := fun p => wsl (gt st i) (kM2 i fa op st Q p)
theorem kM1_a {op : R → List D → Option (R × D)} {p : List Nat} : kM1 i fs op st Q p = wsl (gt st i) (kM2 i fs op st Q p) := rfl
theorem n_eMut {op : R → List D → Option (R × D)} : wp (eMut i mp fs op) st Q = wpl mp st (kM1 i fs op st Q) := by
  apply propext
  rw [wp_iff]
  unfold wpl
  constructor
  · rintro ⟨o, s, e, h⟩
    unfold eMut at e
    split at e
    · rename_i p r e1 e2
      split at e
      · rename_i q xs s' e3 e4
        obtain ⟨q', hq, e⟩ := Option.map_eq_some_iff.mp e
        cases e
        refine ⟨p, e1, wsl_eq.mpr ⟨r, by rw [← gt_eq]; exact e2, q, e3, wp_iff.mpr ⟨.v xs, s', e4, q', hq, ?_⟩⟩⟩
        show Q (.v q'.2) (stt s' i _)
        rw [← stt_eq]; exact h
      · cases e
    · cases e
  · rintro ⟨p, e1, h⟩
    obtain ⟨r, e2, q, e3, h⟩ := wsl_eq.mp h
    obtain ⟨o, s', e4, h⟩ := wp_iff.mp h
    cases o with
    | x c => exact h.elim
    | v xs =>
      obtain ⟨q', hq, h⟩ := h
      have h : Q (.v q'.2) (stt s' i (some (rSet r p q'.1))) := h
      refine ⟨.v q'.2, s'.set i (some (rSet r p q'.1)), ?_, by rw [stt_eq]; exact h⟩
      unfold eMut
      rw [gt_eq, e1, e2]
      simp only [e3, e4, hq, Option.map_some]
-- stores
def kSA6 (i : Nat) (r : R) (p : List Nat) (s : Sl) (QS : Fl → Sl → Prop) : R → Prop := fun q => QS .nx (stt s i (some (rSet r p q)))
theorem kSA6_a {r q : R} {p : List Nat} : kSA6 i r p s QS q = QS .nx (stt s i (some (rSet r p q))) := rfl
def kSA5 (i : Nat) (r : R) (p : List Nat) (q : R) (d : D) (s : Sl) (QS : Fl → Sl → Prop) : R → Prop := fun nd => wo (opSet nd d q) (kSA6 i r p s QS)
theorem kSA5_a {r q nd : R} {p : List Nat} {d : D} : kSA5 i r p q d s QS nd = wo (opSet nd d q) (kSA6 i r p s QS) := rfl
def kSA4 (i : Nat) (r : R) (p : List Nat) (q : R) (s : Sl) (QS : Fl → Sl → Prop) : Oc D → Sl → Prop := va fun d _ => wo (rAt r p) (kSA5 i r p q d s QS)
theorem kSA4_v {r q : R} {p : List Nat} {d : D} {s' : Sl} : kSA4 i r p q s QS (.v d) s' = wo (rAt r p) (kSA5 i r p q d s QS) := rfl
def kSA3 (n : Nat → Nat) (i : Nat) (mi : M D) (q : R) (s : Sl) (QS : Fl → Sl → Prop) (p : List Nat) : R → Prop := fun r => wpe mi (vwN n s) (kSA4 i r p q s QS)
theorem kSA3_a {r q : R} {p : List Nat} : kSA3 n i mi q s QS p r = wpe mi (vwN n s) (kSA4 i r p q s QS) := rfl
def kSA2 (n : Nat → Nat) (i : Nat) (mi : M D) (q : R) (s : Sl) (QS : Fl → Sl → Prop) : List Nat → Prop := fun p => wsl (gt s i) (kSA3 n i mi q s QS p)
theorem kSA2_a {q : R} {p : List Nat} : kSA2 n i mi q s QS p = wsl (gt s i) (kSA3 n i mi q s QS p) := rfl
def kSA1 (n : Nat → Nat) (i : Nat) (mp : Sl → Option (List Nat)) (mi : M D) (QS : Fl → Sl → Prop) : Oc R → Sl → Prop
  | .v q, s => wpl mp s (kSA2 n i mi q s QS)
  | .x c, s => QS (.x c) s
theorem kSA1_v {q : R} : kSA1 n i mp mi QS (.v q) s = wpl mp s (kSA2 n i mi q s QS) := rfl
theorem kSA1_x {c : Nat} : kSA1 n i mp mi QS (.x c) s = QS (.x c) s := rfl
theorem n_sSetA : ws (sSetA n i mp mi m) st QS = wp m st (kSA1 n i mp mi QS) := by
  apply propext
  rw [wp_iff, ws_iff]
  constructor
  · rintro ⟨o, s, e, h⟩
    unfold sSetA at e
    split at e
    · rename_i q s1 e0
      refine ⟨.v q, s1, e0, ?_⟩
      split at e
      · rename_i p r d s2 e1 e2 e3
        obtain ⟨n', hn, e⟩ := Option.map_eq_some_iff.mp e
        cases e
        obtain ⟨nd, e4, hs⟩ := Option.bind_eq_some_iff.mp hn
        refine ⟨p, e1, wsl_eq.mpr ⟨r, by rw [← gt_eq]; exact e2, wp_iff.mpr ⟨.v d, s2, e3, nd, e4, n', hs, ?_⟩⟩⟩
        show QS .nx (stt s1 i _)
        rw [← stt_eq]; exact h
      · cases e
    · rename_i c s1 e0
      cases e
      exact ⟨.x c, _, e0, h⟩
    · cases e
  · rintro ⟨o, s1, e0, h⟩
    cases o with
    | x c => exact ⟨.x c, s1, by unfold sSetA; rw [e0], h⟩
    | v q =>
      obtain ⟨p, e1, h⟩ := h
      obtain ⟨r, e2, h⟩ := wsl_eq.mp h
      obtain ⟨o, s2, e3, h⟩ := wp_iff.mp h
      cases o with
      | x c => exact h.elim
      | v d =>
        obtain ⟨nd, e4, n', hs, h⟩ := h
        have h : QS .nx (stt s1 i (some (rSet r p n'))) := h
        refine ⟨.nx, s1.set i (some (rSet r p n')), ?_, by rw [stt_eq]; exact h⟩
        unfold sSetA
        rw [e0]
        simp only
        rw [gt_eq, e1, e2, e3]
        simp only [e4, hs, Option.bind_some, Option.map_some]
-- rows
theorem n_aRNil : wp aRNil st QA = QA (.v []) st := rfl
def kRC2 (r : R) (QA : Oc (List R) → Sl → Prop) : Oc (List R) → Sl → Prop := va fun rs s => QA (.v (r :: rs)) s
theorem kRC2_v {r : R} {rs : List R} : kRC2 r QA (.v rs) s = QA (.v (r :: rs)) s := rfl
def kRC1 (frs : M (List R)) (QA : Oc (List R) → Sl → Prop) : Oc R → Sl → Prop := va fun r s => wp frs s (kRC2 r QA)
theorem kRC1_v {r : R} : kRC1 frs QA (.v r) s = wp frs s (kRC2 r QA) := rfl
theorem n_aRCons : wp (aRCons fr frs) st QA = wp fr st (kRC1 frs QA) := by
  apply propext
  rw [wp_iff, wp_iff]
  constructor
  · rintro ⟨o, s, e, h⟩
    unfold aRCons at e
    split at e
    · rename_i r s1 e1
      split at e
      · rename_i rs s2 e2
        cases e
        exact ⟨.v r, s1, e1, wp_iff.mpr ⟨.v rs, _, e2, h⟩⟩
      · cases e
    · cases e
  · rintro ⟨o, s1, e1, h⟩
    cases o with
    | x c => exact h.elim
    | v r =>
      obtain ⟨o, s2, e2, h⟩ := wp_iff.mp h
      cases o with
      | x c => exact h.elim
      | v rs => exact ⟨.v (r :: rs), s2, by unfold aRCons; rw [e1]; simp only [e2], h⟩
def kRL (QR : Oc R → Sl → Prop) : Oc (List R) → Sl → Prop := va fun rs s => wc (rs.length ≤ sizeLine) (kU (fun rs => QR (.v (.nl rs)) s) rs)
theorem kRL_v {rs : List R} : kRL QR (.v rs) s = wc (rs.length ≤ sizeLine) (kU (fun rs => QR (.v (.nl rs)) s) rs) := rfl
theorem n_rLstR : wp (rLstR frs) st QR = wp frs st (kRL QR) := by
  apply propext
  rw [wp_iff, wp_iff]
  constructor
  · rintro ⟨o, s, e, h⟩
    unfold rLstR at e
    split at e
    · rename_i rs s1 e1
      split at e
      · rename_i hl; cases e; exact ⟨.v rs, _, e1, hl, h⟩
      · cases e
    · cases e
  · rintro ⟨o, s1, e1, h⟩
    cases o with
    | x c => exact h.elim
    | v rs => obtain ⟨h1, h2⟩ := h; exact ⟨.v (.nl rs), s1, by unfold rLstR; rw [e1]; exact if_pos h1, h2⟩
def kRT (QR : Oc R → Sl → Prop) : Oc (List R) → Sl → Prop := va fun rs s => wc (rs.length ≤ sizeLine) (kU (fun rs => QR (.v (.nt rs)) s) rs)
theorem kRT_v {rs : List R} : kRT QR (.v rs) s = wc (rs.length ≤ sizeLine) (kU (fun rs => QR (.v (.nt rs)) s) rs) := rfl
theorem n_rTupR : wp (rTupR frs) st QR = wp frs st (kRT QR) := by
  apply propext
  rw [wp_iff, wp_iff]
  constructor
  · rintro ⟨o, s, e, h⟩
    unfold rTupR at e
    split at e
    · rename_i rs s1 e1
      split at e
      · rename_i hl; cases e; exact ⟨.v rs, _, e1, hl, h⟩
      · cases e
    · cases e
  · rintro ⟨o, s1, e1, h⟩
    cases o with
    | x c => exact h.elim
    | v rs => obtain ⟨h1, h2⟩ := h; exact ⟨.v (.nt rs), s1, by unfold rTupR; rw [e1]; exact if_pos h1, h2⟩
def kFS (Q : Oc D → Sl → Prop) : Oc (List D) → Sl → Prop := va fun xs s => wo (dCat xs) (kr Q s)
theorem kFS_v {xs : List D} : kFS Q (.v xs) s = wo (dCat xs) (kr Q s) := rfl
theorem n_eFStr : wp (eFStr fs) st Q = wp fs st (kFS Q) := by
  apply propext
  rw [wp_iff, wp_iff]
  constructor
  · rintro ⟨o, s, e, h⟩
    unfold eFStr at e
    split at e
    · rename_i xs s1 e1
      obtain ⟨x, hx, e⟩ := Option.map_eq_some_iff.mp e
      cases e
      exact ⟨.v xs, _, e1, x, hx, h⟩
    · cases e
  · rintro ⟨o, s1, e1, h⟩
    cases o with
    | x c => exact h.elim
    | v xs => obtain ⟨x, hx, h⟩ := h; exact ⟨.v x, s1, by unfold eFStr; rw [e1]; simp only [hx, Option.map_some], h⟩
-- dicts walked
def dkO : D → Option (List D)
  | .dct ks _ => if okKs ks = true then some ks else none
  | _ => none
def dvO : D → Option (List D)
  | .dct _ vs => some vs
  | _ => none
def diO : D → Option (List D)
  | .dct ks vs => if okKs ks = true ∧ ks.length = vs.length then some (zipD ks vs) else none
  | _ => none
def kID (g : D → Option (List D)) (QL : Oc (List D) → Sl → Prop) : Oc D → Sl → Prop := vx QL fun x s => wo (g x) (kr QL s)
theorem kID_v {g : D → Option (List D)} {x : D} : kID g QL (.v x) s = wo (g x) (kr QL s) := rfl
theorem kID_x {g : D → Option (List D)} {c : Nat} : kID g QL (.x c) s = QL (.x c) s := rfl
theorem n_bnd {g : D → Option (List D)} : wp (bnd fa fun x => opt (g x)) st QL = wp fa st (kID g QL) := by
  rw [wp_bnd]
  refine congrArg _ ?_
  funext o s
  cases o with
  | x c => rfl
  | v x => exact wp_opt
theorem n_iDk : wp (iDk fa) st QL = wp fa st (kID dkO QL) := by
  have e : iDk fa = bnd fa fun x => opt (dkO x) := by unfold iDk; congr 1
  rw [e, n_bnd]
theorem n_iDv : wp (iDv fa) st QL = wp fa st (kID dvO QL) := by
  have e : iDv fa = bnd fa fun x => opt (dvO x) := by unfold iDv; congr 1
  rw [e, n_bnd]
theorem n_iDi : wp (iDi fa) st QL = wp fa st (kID diO QL) := by
  have e : iDi fa = bnd fa fun x => opt (diO x) := by unfold iDi; congr 1
  rw [e, n_bnd]
def rfo (QR : Oc R → Sl → Prop) (st : Sl) : Oc R → Sl → Prop
  | .v (.oi c xs), _ => wc (imms xs = true) (kU (fun xs => QR (.v (.oi c xs)) st) xs)
  | .x c, _ => QR (.x c) st
  | _, _ => False
theorem rfo_oi {c : Nat} {xs : List D} : rfo QR st (.v (.oi c xs)) s = wc (imms xs = true) (kU (fun xs => QR (.v (.oi c xs)) st) xs) := rfl
theorem rfo_x {c : Nat} : rfo QR st (.x c) s = QR (.x c) st := rfl
theorem n_rFullO : wp (rFullO n fr) st QR = wpe fr (vwN n st) (rfo QR st) := by
  apply propext
  show _ ↔ wp fr (vwN n st) (rfo QR st)
  rw [wp_iff, wp_iff]
  constructor
  · rintro ⟨o, s, e, h⟩
    unfold rFullO at e
    split at e
    · rename_i c xs s1 e1
      split at e
      · rename_i hi; cases e; exact ⟨_, s1, e1, hi, h⟩
      · cases e
    · rename_i c s1 e1
      cases e; exact ⟨_, s1, e1, h⟩
    · cases e
  · rintro ⟨o, s1, e1, h⟩
    cases o with
    | x c => exact ⟨.x c, st, by unfold rFullO; rw [e1], h⟩
    | v r =>
      cases r with
      | oi c xs => obtain ⟨h1, h2⟩ := h; exact ⟨.v (.oi c xs), st, by unfold rFullO; rw [e1]; exact if_pos h1, h2⟩
      | _ => exact h.elim
-- paths and nodes
theorem rAt_nil {r : R} : rAt r [] = some r := rfl
theorem rAt_nl {cs : List R} {j : Nat} {p : List Nat} : rAt (.nl cs) (j :: p) = cs[j]?.bind fun c => rAt c p := rfl
theorem rAt_nt {cs : List R} {j : Nat} {p : List Nat} : rAt (.nt cs) (j :: p) = cs[j]?.bind fun c => rAt c p := rfl
theorem rAt_ni {cs : List R} {c j : Nat} {p : List Nat} : rAt (.ni c cs) (j :: p) = cs[j]?.bind fun c => rAt c p := rfl
theorem rAt_nd {cs : List R} {ks : List D} {j : Nat} {p : List Nat} : rAt (.nd ks cs) (j :: p) = cs[j]?.bind fun c => rAt c p := rfl
theorem rSet_nil {r q : R} : rSet r [] q = q := rfl
def rSets (cs : List R) (j : Nat) (p : List Nat) (q : R) : List R := match cs[j]? with
  | some c => cs.set j (rSet c p q)
  | none => cs
theorem rSet_nl {cs : List R} {j : Nat} {p : List Nat} {q : R} : rSet (.nl cs) (j :: p) q = .nl (rSets cs j p q) := by
  unfold rSets; rw [rSet]; show (match cs[j]? with | some c => _ | none => _) = _; cases cs[j]? <;> rfl
theorem rSet_nt {cs : List R} {j : Nat} {p : List Nat} {q : R} : rSet (.nt cs) (j :: p) q = .nt (rSets cs j p q) := by
  unfold rSets; rw [rSet]; show (match cs[j]? with | some c => _ | none => _) = _; cases cs[j]? <;> rfl
theorem rSet_ni {cs : List R} {c j : Nat} {p : List Nat} {q : R} : rSet (.ni c cs) (j :: p) q = .ni c (rSets cs j p q) := by
  unfold rSets; rw [rSet]; show (match cs[j]? with | some c => _ | none => _) = _; cases cs[j]? <;> rfl
theorem rSet_nd {cs : List R} {ks : List D} {j : Nat} {p : List Nat} {q : R} : rSet (.nd ks cs) (j :: p) q = .nd ks (rSets cs j p q) := by
  unfold rSets; rw [rSet]; show (match cs[j]? with | some c => _ | none => _) = _; cases cs[j]? <;> rfl
theorem rSets_0 {c q : R} {cs : List R} {p : List Nat} : rSets (c :: cs) 0 p q = rSet c p q :: cs := rfl
theorem rSets_s {c q : R} {cs : List R} {p : List Nat} {j : Nat} : rSets (c :: cs) (j + 1) p q = c :: rSets cs j p q := by
  unfold rSets
  show (match cs[j]? with | some _ => _ | none => _) = _
  cases cs[j]? <;> rfl
theorem kids_nl {cs : List R} : kids (.nl cs) = cs := rfl
theorem kids_nt {cs : List R} : kids (.nt cs) = cs := rfl
theorem kids_ni {c : Nat} {cs : List R} : kids (.ni c cs) = cs := rfl
theorem kids_nd {ks : List D} {cs : List R} : kids (.nd ks cs) = cs := rfl
theorem kidAt_nl {cs : List R} {j : Int} : kidAt (.nl cs) (.int j) = ixN cs.length j := rfl
theorem kidAt_nt {cs : List R} {j : Int} : kidAt (.nt cs) (.int j) = ixN cs.length j := rfl
theorem opApp_ol {xs : List D} {x : D} : opApp (.ol xs) [x] = if xs.length < sizeLine then some (.ol (xs ++ [x]), .non) else none := rfl
theorem opRev_ol {xs : List D} : opRev (.ol xs) [] = some (.ol xs.reverse, .non) := rfl
theorem opClr_ol {xs : List D} : opClr (.ol xs) [] = some (.ol [], .non) := rfl
theorem opSet_nl {cs : List R} {j : Int} {q : R} : opSet (.nl cs) (.int j) q = (ixN cs.length j).map fun j => .nl (cs.set j q) := rfl
theorem opSet_ol {xs : List D} {j : Int} {x : D} : opSet (.ol xs) (.int j) (.d x) = (ixN xs.length j).map fun j => .ol (xs.set j x) := rfl
theorem vw_nl {cs : List R} : vw (.nl cs) = .lst (vwL cs) := by unfold vw; rfl
theorem vw_nt {cs : List R} : vw (.nt cs) = .tup (vwL cs) := by unfold vw; rfl
theorem vw_ni {c : Nat} {cs : List R} : vw (.ni c cs) = .obj c (vwL cs) := by unfold vw; rfl
theorem vw_nd {ks : List D} {cs : List R} : vw (.nd ks cs) = .dct ks (vwL cs) := by unfold vw; rfl
theorem vwL_nil : vwL [] = [] := by unfold vwL; rfl
theorem vwL_cons {c : R} {cs : List R} : vwL (c :: cs) = vw c :: vwL cs := by rw [vwL]
theorem wh_nl {cs : List R} : wholeB n (.nl cs) = wholeBL n cs := by rw [wholeB]
theorem wh_nt {cs : List R} : wholeB n (.nt cs) = wholeBL n cs := by rw [wholeB]
theorem wh_ni {c : Nat} {cs : List R} : wholeB n (.ni c cs) = (cs.length == n c && wholeBL n cs) := by rw [wholeB]
theorem wh_nd {ks : List D} {cs : List R} : wholeB n (.nd ks cs) = wholeBL n cs := by rw [wholeB]
theorem whL_nil : wholeBL n [] = true := by rw [wholeBL]
theorem whL_cons {c : R} {cs : List R} : wholeBL n (c :: cs) = (wholeB n c && wholeBL n cs) := by rw [wholeBL]
theorem vwN_nl {cs : List R} {l : Sl} : vwN n (some (.nl cs) :: l) = (if wholeBL n cs = true then some (.d (.lst (vwL cs))) else none) :: vwN n l := by
  show (if wholeB n (.nl cs) = true then some (R.d (vw (.nl cs))) else none) :: _ = _
  rw [wh_nl, vw_nl]; rfl
theorem vwN_nt {cs : List R} {l : Sl} : vwN n (some (.nt cs) :: l) = (if wholeBL n cs = true then some (.d (.tup (vwL cs))) else none) :: vwN n l := by
  show (if wholeB n (.nt cs) = true then some (R.d (vw (.nt cs))) else none) :: _ = _
  rw [wh_nt, vw_nt]; rfl
theorem vwN_nd {ks : List D} {cs : List R} {l : Sl} : vwN n (some (.nd ks cs) :: l) = (if wholeBL n cs = true then some (.d (.dct ks (vwL cs))) else none) :: vwN n l := by
  show (if wholeB n (.nd ks cs) = true then some (R.d (vw (.nd ks cs))) else none) :: _ = _
  rw [wh_nd, vw_nd]; rfl
theorem vwN_ni {c : Nat} {cs : List R} {l : Sl} : vwN n (some (.ni c cs) :: l) = (if (cs.length == n c && wholeBL n cs) = true then some (.d (.obj c (vwL cs))) else none) :: vwN n l := by
  show (if wholeB n (.ni c cs) = true then some (R.d (vw (.ni c cs))) else none) :: _ = _
  rw [wh_ni, vw_ni]; rfl
end
def gListD (xs : List D) : Option (List D) := (dListD xs).bind fun ks => if okKs ks = true then some ks else none
end Fz
set_option Elab.async false
set_option linter.all false
set_option maxRecDepth 100000
set_option maxHeartbeats 2000000
namespace Fz
open PySem L2 PySem.Spec PyProof.Rows
section
variable {M : Model} {A : Around} {E : Value → Shared → Prop} {s : Shared} {env : Env}
end
end Fz
set_option Elab.async false
set_option linter.all false
set_option maxRecDepth 100000
set_option maxHeartbeats 2000000
namespace Fz
open PySem L2 PySem.Spec PyProof.Rows
end Fz
set_option Elab.async false
set_option linter.all false
set_option maxRecDepth 100000
set_option maxHeartbeats 4000000
namespace Fz
open PySem L2 PySem.Spec PyProof.Rows
end Fz
set_option Elab.async false
set_option linter.all false
set_option maxRecDepth 100000
set_option maxHeartbeats 4000000
namespace Fz
open PySem L2 PySem.Spec PyProof.Rows
end Fz
set_option Elab.async false
set_option linter.all false
set_option maxRecDepth 100000
set_option maxHeartbeats 4000000
namespace Fz
open PySem L2 PySem.Spec PyProof.Rows
section
variable {ι : Type} {T : Tab} {E : XK} {X : ι → Cx} {kp : Nat → Bool} {pos : Pos} {elt tg iter : Expr} {y : Str}
end
section
variable {P : Program} {w : World} {T : Tab} {mg : Str → Option Value} {base : Heap} {N : List Str} {qual : Str} {st : Stmt} {f : Addr} {cdv : Value} {A : Around} {outer : List Env} {s : Shared} {H : Hp} {E : XK} {x m : Str} {n c k : Nat} {F : Fn}
end
end Fz
set_option Elab.async false
set_option linter.all false
set_option maxRecDepth 100000
set_option maxHeartbeats 4000000
namespace Fz
open PySem L2 PySem.Spec PyProof.Rows
section
variable {T : Tab} {st : Sl} {σ : L2.St} {B F H : Hp}
end
section
variable {ι : Type} {T : Tab} {E : L2.St → XK} {X : ι → Cx} {kp : Nat → Bool} {pos : Pos} {elt tg iter : Expr} {y : Str}
end
end Fz
set_option Elab.async false
set_option linter.all false
set_option maxRecDepth 100000
set_option maxHeartbeats 4000000
namespace Fz
open PySem L2 PySem.Spec PyProof.Rows
theorem call_gdictP {X : Cx} (hcalm : X.calm = true) : CallR X (.type "dict") (fun xs H Q => ∃ (a : Addr) (ps : List Addr) (kvs : List (Key × V)), xs = [.ref a] ∧ SqL X.K H a (ps.map V.ref) ∧ Paired (fun p kv => SqT X.K H p [kV kv.1, kv.2]) ps kvs ∧
    ∀ p ep, H p = none → (p == sysModules) = false → (mergeK [] kvs).length ≤ sizeLine → Q (.ref p) (upd H p (dG X.w p ep (ofK (mergeK [] kvs))))) := by
  intro pins s σ H xs us Q I r q
  obtain ⟨a, ps, kvs, ex, hq, hp, q⟩ := q
  subst ex
  obtain ⟨u, eu, rx⟩ := vals1 r
  subst eu
  cases rx
  obtain ⟨its, rv, pl, hz⟩ := I.list hq
  have ei := refs_at rv
  subst ei
  rw [List.length_map] at hz
  obtain ⟨prs, rel, hl, hpr⟩ := pairs_of I hp
  obtain ⟨o, n, ho, hc, hd, hdat⟩ := pl
  refine call_dict_pairs (prs := prs) (I.ok.hd hcalm) ho hc hd hdat (by simp [hl]) (by rw [hl]; exact hz) (fun j q' e => ?_) fun h' tk hd' k => ?_
  · obtain ⟨b, u, e1, e2, e3⟩ := hpr j q' e
    exact ⟨b, u, by simp [e1], e2, e3⟩
  · have hm : (s.heap.objs.size == sysModules) = false := beq_eq_false_iff_ne.mpr (Nat.ne_of_gt I.big)
    have hlen : (mergeK [] kvs).length ≤ sizeLine := by
      refine Nat.le_trans (length_mergeK kvs []) ?_
      rw [List.length_nil, Nat.zero_add, rel.length, hl]
      exact hz
    obtain ⟨ep, ob⟩ := dgK_obj (P := X.prog) (w := X.w) (H' := upd H s.heap.objs.size (.own 0)) (KV.merge rel .nil) hd'
    exact ⟨.ref s.heap.objs.size, upd H s.heap.objs.size (dG X.w s.heap.objs.size ep (ofK (mergeK [] kvs))), I.laid (t' := tk) k (Nat.le_refl _) ob, rfl, q _ ep (I.hok.fresh (Nat.le_refl _)) hm hlen⟩
theorem putK_new {acc : List (Key × V)} {k : Key} {v : V} (h : k ∉ acc.map (·.1)) : putK acc k v = acc ++ [(k, v)] := by
  unfold putK
  have : (acc.any fun kv => decide (kv.1 = k)) = false := by
    rw [List.any_eq_false]
    intro x hx
    simp only [decide_eq_true_eq]
    exact fun e => h (List.mem_map.mpr ⟨x, hx, e⟩)
  simp only [this]
  simp
theorem mergeK_new : ∀ {kvs acc : List (Key × V)}, (acc.map (·.1) ++ kvs.map (·.1)).Nodup → mergeK acc kvs = acc ++ kvs
  | [], acc, _ => by show acc = acc ++ []; simp
  | kv :: kvs, acc, h => by
    have hn : kv.1 ∉ acc.map (·.1) := fun z => by
      have := List.nodup_append.mp h
      exact this.2.2 _ z _ (by simp) rfl
    show mergeK (putK acc kv.1 kv.2) kvs = _
    rw [putK_new hn, mergeK_new (by simpa using h)]
    simp
theorem ks_nk {T : Tab} {B : Hp} : ∀ {ks : List D} {kvs : List (Key × V)}, KReps T B ks ((ofK kvs).map (·.1)) → ks.map nk = kvs.map fun kv => some (KX.v kv.1).nk
  | [], kvs, h => by
    unfold KReps at h
    cases kvs with
    | nil => rfl
    | cons a b => cases h
  | d :: ks, kvs, h => by
    unfold KReps at h
    obtain ⟨x, r, e, h1, h2⟩ := h
    cases kvs with
    | nil => cases e
    | cons kv kvs =>
      cases e
      have h1 : DKey d kv.1 := h1
      rw [List.map_cons, List.map_cons, keyK_of h1, ks_nk h2]
abbrev rDP (K : PySem.W.Frag) (w : World) : List V → Hp → VK → Prop := fun xs H Q => ∃ (a : Addr) (ps : List Addr) (kvs : List (Key × V)), xs = [.ref a] ∧ SqL K H a (ps.map V.ref) ∧ Paired (fun p kv => SqT K H p [kV kv.1, kv.2]) ps kvs ∧
    ∀ p ep, H p = none → (p == sysModules) = false → (mergeK [] kvs).length ≤ sizeLine → Q (.ref p) (upd H p (dG w p ep (ofK (mergeK [] kvs))))
end Fz
set_option Elab.async false
set_option linter.all false
set_option maxRecDepth 100000
set_option maxHeartbeats 2000000
namespace Fz
open PySem L2 PySem.Spec PyProof.Rows
section
variable {T : Tab} {E : L2.St → XK} {kp : Nat → Bool} {st s' : Sl} {σ σ' : L2.St} {B B' F H H' : Hp}
end
section
variable {ι : Type} {T : Tab} {E : L2.St → XK} {X : ι → Cx} {kp : Nat → Bool} {pos p1 p2 : Pos} {f : MS} {x y : Str}
end
end Fz
set_option Elab.async false
set_option linter.all false
set_option maxRecDepth 100000
set_option maxHeartbeats 4000000
namespace Fz
open PySem L2 PySem.Spec PyProof.Rows
def pairsD : List D → Option (List D × List D)
  | [] => some ([], [])
  | .tup [k, v] :: ps => (pairsD ps).map fun p => (k :: p.1, v :: p.2)
  | _ => none
theorem pairsD_cons {p : D} {ps ks vs : List D} (h : pairsD (p :: ps) = some (ks, vs)) : ∃ k r ks' rs', p = .tup [k, r] ∧ ks = k :: ks' ∧ vs = r :: rs' ∧ pairsD ps = some (ks', rs') := by
  unfold pairsD at h
  split at h
  · rename_i e; cases e
  · rename_i k r ps' e
    cases e
    cases hp : pairsD ps with
    | none => rw [hp] at h; cases h
    | some q =>
      rw [hp] at h
      cases h
      exact ⟨_, _, _, _, rfl, rfl, rfl, rfl⟩
  · cases h
theorem pairs_reps {T : Tab} {B H : Hp} (eB : Ex B H) : ∀ {ps : List D} {ws : List V} {ks vs : List D}, Reps T B ps ws → pairsD ps = some (ks, vs) → ks.all keyK = true →
    ∃ (kvs : List (Key × V)) (ts : List Addr), ws = ts.map V.ref ∧ Paired (fun p kv => SqT T.K H p [kV kv.1, kv.2]) ts kvs ∧ KReps T B ks ((ofK kvs).map (·.1)) ∧ Reps T B vs (kvs.map (·.2))
  | [], ws, ks, vs, h, e, _ => by
    unfold Reps at h
    subst h
    cases e
    exact ⟨[], [], rfl, .nil, (by unfold KReps; rfl), reps_nil⟩
  | p :: ps, ws, ks, vs, h, e, hk => by
    unfold Reps at h
    obtain ⟨y, t, rfl, h1, h2⟩ := h
    obtain ⟨k, r, ks', rs', rfl, rfl, rfl, e'⟩ := pairsD_cons e
    have hk' : keyK k = true ∧ ks'.all keyK = true := by simpa using hk
    obtain ⟨kvs, ts, l1, l2, l3, l4⟩ := pairs_reps eB h2 e' hk'.2
    unfold Rep at h1
    obtain ⟨a, ys, rfl, tb, hr⟩ := h1
    obtain ⟨kv, vv, rfl, k1, r1⟩ := reps2 hr
    obtain ⟨key, dk, rfl⟩ := key_of_rep hk'.1 k1
    refine ⟨(key, vv) :: kvs, a :: ts, by rw [l1]; rfl, .cons (eB.tu tb).sq l2, ?_, reps_cons r1 l4⟩
    unfold KReps
    exact ⟨.v key, (ofK kvs).map (·.1), rfl, dk, l3⟩
end Fz
set_option Elab.async false
set_option linter.all false
set_option maxRecDepth 100000
set_option maxHeartbeats 4000000
namespace Fz
open PySem L2 PySem.Spec PyProof.Rows
def zpO : List D → Option (List D)
  | [.lst xs, .lst ys] => some (zipD xs ys)
  | _ => none
def kIZ (Q : Oc (List D) → Sl → Prop) : Oc (List D) → Sl → Prop := vx Q fun x s => wo (zpO x) (kr Q s)
theorem kIZ_v {Q : Oc (List D) → Sl → Prop} {x : List D} {s : Sl} : kIZ Q (.v x) s = wo (zpO x) (kr Q s) := rfl
theorem n_iZp {fs : M (List D)} {st : Sl} {Q : Oc (List D) → Sl → Prop} : wp (iZp fs) st Q = wp fs st (kIZ Q) := by
  unfold iZp kIZ; rw [wp_bnd]; simp only [wp_opt]; rfl
theorem zpO_l {xs ys : List D} : zpO [.lst xs, .lst ys] = some (zipD xs ys) := rfl
end Fz
set_option Elab.async false
set_option linter.all false
set_option maxRecDepth 100000
set_option maxHeartbeats 4000000
namespace Fz
open PySem L2 PySem.Spec PyProof.Rows
variable {T : Tab} {B H : Hp}
def rInsA : V → List V → Hp → VK → Prop := fun x vs H Q => ∃ (l : Addr) (xs : List V) (i : Int) (y : V), x = .ref l ∧ vs = [.int i, y] ∧ H l = some (.lst xs) ∧ xs.length < sizeLine ∧ 0 ≤ i ∧ i < 2 ^ 63 ∧
    Q .non (upd H l (.lst (xs.take i.toNat ++ [y] ++ xs.drop i.toNat)))
theorem mt_insA {X : Cx} : MtR X "list.insert" rInsA := mt_insert
def opIns : R → List D → Option (R × D)
  | .ol xs, [.int i, x] => if xs.length < sizeLine ∧ 0 ≤ i ∧ smallI i = true then some (.ol (xs.take i.toNat ++ [x] ++ xs.drop i.toNat), .non) else none
  | _, _ => none
theorem m_ins : MutOp T "list" rInsA opIns where
  ty := fun {q xs q' u B H} h r => by
    unfold opIns at h
    split at h
    · unfold RelR at r; obtain ⟨a, ys, rfl, h2, _⟩ := r; exact .inl (.inl ⟨rfl, _, SqL.of h2⟩)
    · cases h
  run := fun {q xs q' u vs B H} h e r rs => by
    unfold opIns at h
    split at h
    · rename_i xs i x
      split at h
      · rename_i hl
        cases h
        obtain ⟨y0, y, rfl, r0, ry⟩ := reps2 rs
        cases rep_int r0
        unfold RelR at r
        obtain ⟨a, ys, rfl, h2, h3⟩ := r
        have sm := small_b hl.2.2
        exact ⟨a, by unfold Ow; rfl, fun Q q => ⟨a, ys, i, y, rfl, rfl, h2, by rw [← h3.length]; exact hl.1, hl.2.1, by omega, q _ _ (fun _ z => nomatch z) (rel_ol upd_same (((reps_take _ h3).append (reps_cons ry reps_nil)).append (reps_drop _ h3))) own_ol rfl⟩⟩
      · cases h
    · cases h
end Fz
set_option Elab.async false
set_option linter.all false
set_option maxRecDepth 100000
set_option maxHeartbeats 2000000
namespace Fz
open PySem PySem.Spec PyProof.Rows L2
section
variable {P : Program} {w : World} {A : Around} {E : Value → Shared → Prop} {s : Shared}
abbrev NIs (P : Program) (w : World) (h : Heap) (k : NestedKey) (b : Addr) : Prop := (nestedKind P w).is h k b
theorem NIs.stay {h h' : Heap} {k : NestedKey} {b : Addr} (x : NIs P w h k b) (hk : ∀ c o vs n, h.get? c = some o → o.data = .seq vs n → h'.get? c = some o) : NIs P w h' k b := nestedKind_stays.stays hk x
theorem NIs.keep {h h' : Heap} {k : NestedKey} {b : Addr} (x : NIs P w h k b) (hk : ∀ c o, h.get? c = some o → h'.get? c = some o) : NIs P w h' k b := x.stay fun c o _ _ e _ => hk c o e
theorem NIs.set {h h' : Heap} {k : NestedKey} {a b : Addr} {o : Obj} {es : Array (Int × Value)} {ep : Nat} {t : SetTable} (x : NIs P w h k b) (ho : h.get? a = some o) (hd : o.data = .set es ep t) (hs : Heap.SameBut a h h') : NIs P w h' k b :=
  x.stay fun c o' vs n e q => (hs.2 c fun z => by subst z; rw [ho] at e; cases e; rw [hd] at q; cases q).trans e
end
end Fz
set_option Elab.async false
set_option linter.all false
set_option maxRecDepth 100000
set_option maxHeartbeats 4000000
namespace Fz
open PySem PySem.Spec PyProof.Rows L2
section
variable {P : Program} {w : World} {A : Around} {E : Value → Shared → Prop} {s : Shared}
def rowN (w : World) (p : Addr × NestedKey) : Int × Value := (p.2.hash w, .ref p.1)
structure NSet (P : Program) (w : World) (h : Heap) (a : Addr) (L : List (Addr × NestedKey)) (es : Array (Int × Value)) (ep : Nat) (t : SetTable) : Prop where
  ob : ∃ o, h.get? a = some o ∧ o.ExactSet ∧ o.data = .set es ep t
  rows : es.toList = L.map (rowN w)
  tab : TabOk t (L.map fun p => p.2.hash w)
  nd : (L.map (·.2)).Nodup
  key : ∀ p ∈ L, NIs P w h p.2 p.1
  led : w.params.followText "set-order" = true ∨ t.led = true
  room : L.length * 5 < t.mask * 3
  few : L.length < 64
variable {a x : Addr} {L : List (Addr × NestedKey)} {es : Array (Int × Value)} {ep : Nat} {t : SetTable} {k : NestedKey}
theorem NSet.len (R : NSet P w s.heap a L es ep t) : es.size = L.length := by
  have h := congrArg List.length R.rows
  rwa [Array.length_toList, List.length_map] at h
theorem NSet.at (R : NSet P w s.heap a L es ep t) (i : Nat) : es[i]? = (L[i]?).map (rowN w) := by
  rw [← Array.getElem?_toList, R.rows, List.getElem?_map]
theorem NSet.place (R : NSet P w s.heap a L es ep t) : t.place.toList.length = L.length := by
  have := R.tab.sz
  rwa [List.length_map] at this
theorem NSet.fits (R : NSet P w s.heap a L es ep t) : t.fits es.size = true := by
  have h1 := R.place
  have h2 := R.len
  have h3 := R.room
  rw [Array.length_toList] at h1
  unfold SetTable.fits SetTable.fill
  rw [R.tab.dm, Bool.and_eq_true, beq_iff_eq, decide_eq_true_eq]
  refine ⟨by omega, ?_⟩
  show t.place.size + 0 ≤ t.mask
  omega
end
end Fz
set_option Elab.async false
set_option linter.all false
set_option maxRecDepth 100000
set_option maxHeartbeats 4000000
namespace Fz
open PySem PySem.Spec PyProof.Rows L2
section
variable {P : Program} {w : World} {A : Around} {E : Value → Shared → Prop} {s : Shared} {a x : Addr} {L : List (Addr × NestedKey)} {es : Array (Int × Value)} {ep : Nat} {t : SetTable} {k : NestedKey}
structure NPre (P : Program) (w : World) (h : Heap) (a : Addr) (L : List (Addr × NestedKey)) (es : Array (Int × Value)) (ep : Nat) (t : SetTable) : Prop where
  ob : ∃ o, h.get? a = some o ∧ o.ExactSet ∧ o.data = .set es ep t
  rows : es.toList = L.map (rowN w)
  tab : TabOk t (L.map fun p => p.2.hash w)
  nd : (L.map (·.2)).Nodup
  key : ∀ p ∈ L, NIs P w h p.2 p.1
  led : w.params.followText "set-order" = true ∨ t.led = true
  fit : L.length ≤ t.mask
  few : L.length < 64
end
end Fz
set_option Elab.async false
set_option linter.all false
set_option maxRecDepth 100000
set_option maxHeartbeats 3200000
namespace Fz
open PySem PySem.Spec PyProof.Rows L2
section
variable {P : Program} {w : World} {A : Around} {E : Value → Shared → Prop} {s : Shared}
structure Gath (ks : List (Addr × NestedKey)) (i : Nat) (L : List (Addr × NestedKey)) : Prop where
  sub : ∀ p ∈ L, p ∈ ks.take i
  all : ∀ p ∈ ks.take i, p.2 ∈ L.map (·.2)
  len : L.length ≤ i
theorem Gath.next {ks L L' : List (Addr × NestedKey)} {i : Nat} {p : Addr × NestedKey} (g : Gath ks i L) (h : ks[i]? = some p) (h1 : p.2 ∈ L.map (·.2) → L' = L) (h2 : p.2 ∉ L.map (·.2) → L'.Perm (p :: L)) : Gath ks (i + 1) L' := by
  have e : ks.take (i + 1) = ks.take i ++ [p] := by rw [List.take_add_one, h]; rfl
  by_cases c : p.2 ∈ L.map (·.2)
  · rw [h1 c]
    refine ⟨fun q hq => by rw [e]; exact List.mem_append_left _ (g.sub q hq), fun q hq => ?_, Nat.le_succ_of_le g.len⟩
    rw [e] at hq
    rcases List.mem_append.mp hq with z | z
    · exact g.all q z
    · rw [List.mem_singleton.mp z]; exact c
  · have pm := h2 c
    refine ⟨fun q hq => ?_, fun q hq => ?_, by rw [pm.length_eq]; exact Nat.succ_le_succ g.len⟩
    · rw [e]
      rcases List.mem_cons.mp (pm.mem_iff.mp hq) with z | z
      · rw [z]; exact List.mem_append_right _ (List.mem_singleton.mpr rfl)
      · exact List.mem_append_left _ (g.sub q z)
    · rw [(pm.map (·.2)).mem_iff]
      rw [e] at hq
      rcases List.mem_append.mp hq with z | z
      · exact List.mem_cons_of_mem _ (g.all q z)
      · rw [List.mem_singleton.mp z]; exact List.mem_cons_self
end
end Fz
set_option Elab.async false
set_option linter.all false
set_option maxRecDepth 100000
set_option maxHeartbeats 2000000
namespace Fz
open PySem PySem.Spec PyProof.Rows L2
def Dif (l m : List Int) : Prop := ∃ p x y s t, l = p ++ x :: s ∧ m = p ++ y :: t ∧ x ≠ y
theorem Dif.pre {l m : List Int} (h : Dif l m) (q : List Int) : Dif (q ++ l) (q ++ m) := by
  obtain ⟨p, x, y, s, t, rfl, rfl, n⟩ := h
  exact ⟨q ++ p, x, y, s, t, by simp, by simp, n⟩
theorem Dif.cons {l m : List Int} (h : Dif l m) (x : Int) : Dif (x :: l) (x :: m) := h.pre [x]
theorem Dif.at {x y : Int} (h : x ≠ y) (s t : List Int) : Dif (x :: s) (y :: t) := ⟨[], x, y, s, t, rfl, rfl, h⟩
theorem Dif.ne {l m : List Int} (h : Dif l m) : l ≠ m := by
  obtain ⟨p, x, y, s, t, rfl, rfl, n⟩ := h
  intro e
  have := List.append_cancel_left e
  injection this with e1 _
  exact n e1
theorem lt_pre {q l m : List Int} : q ++ l < q ++ m ↔ l < m := by
  induction q with
  | nil => exact Iff.rfl
  | cons x q ih => rw [List.cons_append, List.cons_append, List.cons_lt_cons_iff]; simp [ih]
theorem lt_cons' {x y : Int} {s t : List Int} (n : x ≠ y) : x :: s < y :: t ↔ x < y := by
  rw [List.cons_lt_cons_iff]
  constructor
  · rintro (h | ⟨h, _⟩)
    · exact h
    · exact absurd h n
  · exact .inl
theorem Dif.lt {l m : List Int} (h : Dif l m) (u v : List Int) : l ++ u < m ++ v ↔ l < m := by
  obtain ⟨p, x, y, s, t, rfl, rfl, n⟩ := h
  rw [List.append_assoc, List.append_assoc, lt_pre, lt_pre, List.cons_append, List.cons_append, lt_cons' n, lt_cons' n]
end Fz
set_option Elab.async false
set_option linter.all false
set_option maxRecDepth 100000
set_option maxHeartbeats 4000000
namespace Fz
open PySem PySem.Spec PyProof.Rows L2 PySem.SeqAt
mutual
inductive NO (h : Heap) : NestedKey → Value → Prop
  | int (i t) : NO h (.num i) (.int i t)
  | text (x t) : NO h (.text x) (.str x t)
  | tup {a o vs n ks} : h.get? a = some o → o.cls = .type "tuple" → o.data = .seq vs n → NOs h ks vs.toList → NO h (.tup ks) (.ref a)
inductive NOs (h : Heap) : List NestedKey → List Value → Prop
  | nil : NOs h [] []
  | cons {k v ks vs} : NO h k v → NOs h ks vs → NOs h (k :: ks) (v :: vs)
end
mutual
theorem NO.is {h : Heap} : ∀ {k : NestedKey} {v : Value}, NO h k v → NestedIs h k v
  | _, _, .int i t => .int i t
  | _, _, .text x t => .text x t
  | _, _, .tup h1 h2 h3 h4 => .tup h1 h2 h3 h4.all
theorem NOs.all {h : Heap} : ∀ {ks : List NestedKey} {vs : List Value}, NOs h ks vs → NestedAll h ks vs
  | _, _, .nil => .nil
  | _, _, .cons h1 h2 => .cons h1.is h2.all
end
mutual
theorem NO.stay {h h' : Heap} (hk : ∀ b o, h.get? b = some o → o.cls = .type "tuple" → h'.get? b = some o) : ∀ {k : NestedKey} {v : Value}, NO h k v → NO h' k v
  | _, _, .int i t => .int i t
  | _, _, .text x t => .text x t
  | _, _, .tup h1 h2 h3 h4 => .tup (hk _ _ h1 h2) h2 h3 (NOs.stay hk h4)
theorem NOs.stay {h h' : Heap} (hk : ∀ b o, h.get? b = some o → o.cls = .type "tuple" → h'.get? b = some o) : ∀ {ks : List NestedKey} {vs : List Value}, NOs h ks vs → NOs h' ks vs
  | _, _, .nil => .nil
  | _, _, .cons h1 h2 => .cons (h1.stay hk) (h2.stay hk)
end
theorem NOs.length {h : Heap} : ∀ {ks : List NestedKey} {vs : List Value}, NOs h ks vs → vs.length = ks.length
  | _, _, .nil => rfl
  | _, _, .cons _ h2 => by rw [List.length_cons, List.length_cons, h2.length]
theorem NOs.get {h : Heap} : ∀ {ks : List NestedKey} {vs : List Value}, NOs h ks vs → ∀ (j : Nat) (h1 : j < vs.length), ∃ k, ks[j]? = some k ∧ NO h k vs[j]
  | _, _, .nil, j, h1 => absurd h1 (Nat.not_lt_zero _)
  | _, _, .cons h1 h2, 0, _ => ⟨_, rfl, h1⟩
  | _, _, .cons h1 h2, j + 1, hj => by
    obtain ⟨k, a, b⟩ := h2.get j (Nat.lt_of_succ_lt_succ hj)
    exact ⟨k, by simpa using a, by simpa using b⟩
mutual
def kComp : NestedKey → NestedKey → Bool
  | .num _, .num _ => true
  | .text _, .text _ => true
  | .tup as, .tup bs => kComps as bs
  | _, _ => false
def kComps : List NestedKey → List NestedKey → Bool
  | a :: as, b :: bs => kComp a b && kComps as bs
  | _, _ => true
end
end Fz
set_option Elab.async false
set_option linter.all false
set_option maxRecDepth 100000
set_option maxHeartbeats 4000000
namespace Fz
open PySem PySem.Spec PyProof.Rows L2 PySem.SeqAt
def SortK (ks : List NestedKey) : Prop := (∀ k ∈ ks, ∃ a r, k = .tup (a :: r)) ∧ ∀ k ∈ ks, ∀ k' ∈ ks, kComp k k' = true
theorem SortK.perm {ks ls : List NestedKey} (h : SortK ks) (p : ∀ k ∈ ls, k ∈ ks) : SortK ls := ⟨fun k hk => h.1 k (p k hk), fun k hk k' hk' => h.2 k (p k hk) k' (p k' hk')⟩
theorem NOs.mem {h : Heap} : ∀ {ks : List NestedKey} {vs : List Value}, NOs h ks vs → ∀ v ∈ vs, ∃ k ∈ ks, NO h k v
  | _, _, .nil, v, hv => nomatch hv
  | _, _, .cons h1 h2, v, hv => by
    rcases List.mem_cons.mp hv with rfl | hv
    · exact ⟨_, List.mem_cons_self, h1⟩
    · obtain ⟨k, a, b⟩ := h2.mem v hv
      exact ⟨k, List.mem_cons_of_mem _ a, b⟩
section
variable {P : Program} {w : World} {A : Around} {E : Value → Shared → Prop} {s : Shared}
end
end Fz
set_option Elab.async false
set_option linter.all false
set_option maxRecDepth 100000
set_option maxHeartbeats 4000000
namespace Fz
open PySem L2 PySem.Spec PyProof.Rows PySem.SeqAt
end Fz
set_option Elab.async false
set_option linter.all false
set_option maxRecDepth 100000
set_option maxHeartbeats 4000000
namespace Fz
open PySem L2 PySem.Spec PyProof.Rows PySem.SeqAt
section
variable {P : Program} {w : World} {H : Hp} {h : Heap}
end
section
variable {P : Program} {w : World} {A : Around} {E : Value → Shared → Prop} {s : Shared}
end
end Fz
set_option Elab.async false
set_option linter.all false
set_option maxRecDepth 100000
set_option maxHeartbeats 4000000
namespace Fz
open PySem L2 PySem.Spec PyProof.Rows PySem.SeqAt
section
variable {X : Cx} {e : Expr} {es : List Expr} {t : TA} {T : Tab}
end
section
variable {ι : Type} {T : Tab} {E : L2.St → XK} {X : ι → Cx} {pos : Pos} {e : Expr} {fs : M (List D)}
end
end Fz
set_option Elab.async false
set_option linter.all false
set_option maxRecDepth 100000
set_option maxHeartbeats 4000000
namespace Fz
open PySem L2 PySem.Spec PyProof.Rows PySem.SeqAt
section
variable {ι : Type} {T : Tab} {E : L2.St → XK} {X : ι → Cx} {pos : Pos} {e e2 e3 : Expr} {fs : M (List D)}
end
end Fz
set_option Elab.async false
set_option linter.all false
set_option maxRecDepth 100000
set_option maxHeartbeats 4000000
namespace Fz
open PySem L2 PySem.Spec PyProof.Rows
section
variable {T : Tab} {B H : Hp}
end
section
variable {T : Tab} {E : L2.St → XK} {kp : Nat → Bool}
end
section
variable {T : Tab} {E : L2.St → XK} {fl : M (List Arg)}
end
section
variable {T : Tab} {B B' H : Hp}
end
section
variable {T : Tab} {E : L2.St → XK}
end
end Fz
set_option Elab.async false
set_option linter.all false
set_option maxRecDepth 100000
set_option maxHeartbeats 4000000
namespace Fz
open PySem L2
end Fz
set_option Elab.async false
set_option linter.all false
set_option maxRecDepth 100000
set_option maxHeartbeats 4000000
namespace Fz
open PySem L2 PySem.Spec PyProof.Rows PySem.SeqAt
section
variable {ι : Type} {T : Tab} {E : L2.St → XK} {X : ι → Cx} {pos : Pos} {e : Expr} {fs : M (List D)}
end
end Fz
set_option Elab.async false
set_option linter.all false
set_option maxRecDepth 100000
set_option maxHeartbeats 4000000
namespace Fz
open PySem L2 PySem.Spec PyProof.Rows
structure LamD where
  params : Arguments
  body : Expr
  scope : Scope
  qual : Str
  ps : List Str
  caps : List (Str × Nat)
def LamD.cl (L : LamD) (C : Addr) : List (Str × Addr) := L.caps.map fun p => (p.1, C + 1 + p.2)
def LamD.N (L : LamD) : List Str := L.ps ++ L.caps.map (·.1)
abbrev LamD.nf (L : LamD) (C c' : Addr) : NdefX.NF := ⟨"<lambda>", L.qual, L.params, [], L.scope, L.cl C, c'⟩
def kClo (i : Nat) : Nat := 1000 + 2 * i
def kCode (i : Nat) : Nat := 1001 + 2 * i
def CloO (L : LamD) (f : Addr) (xs : List V) : HO := .ext fun h => ∃ (C c' : Addr) (pm ctv : Value), xs = (L.caps.map fun p => V.ref (C + 1 + p.2)) ++ [.ref c'] ∧ (∀ p ∈ L.caps, C + 1 + p.2 < f) ∧ c' < f ∧
  h.get? f = some (PySem.W.kla_obj "<lambda>" L.qual L.params L.body L.scope (L.cl C) pm c' ctv)
def CelO (c : Addr) (xs : List V) : HO := .ext fun h => ∃ v u, xs = [v] ∧ RelV v u ∧ h.IsCell c (some u)
def CelB (j : Nat) (c : Addr) (xs : List V) : HO := .ext fun h => ∃ v u, xs = [v] ∧ RelV v u ∧ h.IsCell c (some u) ∧ ∀ b, v = .ref b → b + j < c
structure XoOk (T : Tab) (lam : Nat → Option LamD) : Prop where
  clo : ∀ i L f xs, lam i = some L → T.xo (kClo i) f xs = CloO L f xs
  cod : ∀ i L c xs, lam i = some L → T.xo (kCode i) c xs = CodeO c L.qual
  cel : ∀ c xs, T.xo 900 c xs = CelO c xs
  ceb : ∀ j c xs, j < 99 → T.xo (901 + j) c xs = CelB j c xs
  gf : ∀ k a, T.gf k a → 800 ≤ k ∧ k < 900
  no : ∀ k a xs, 800 ≤ k → k < 900 → T.xo k a xs = .ext fun _ => False
open Classical in
noncomputable def hidH (hid : Addr → Prop) (H : Hp) : Hp := fun a => if hid a then none else H a
section
variable {hid : Addr → Prop} {H H' B : Hp} {a : Addr}
theorem hidH_in (h : hid a) : hidH hid H a = none := if_pos h
theorem hidH_out (h : ¬ hid a) : hidH hid H a = H a := if_neg h
end
section
variable {P : Program} {w : World} {T : Tab} {lam : Nat → Option LamD} {B H : Hp} {h : Heap} {hid : Addr → Prop} {m : Nat}
end
end Fz
set_option Elab.async false
set_option linter.all false
set_option maxRecDepth 100000
set_option maxHeartbeats 4000000
namespace Fz
open PySem L2 PySem.Spec PyProof.Rows
def celK (j : Nat) (d : D) : Nat := if imm d = true then 900 else 901 + j
def cel (j : Nat) (d : D) : D := .ext (celK j d) [d]
def clo (i : Nat) (js : List Nat) (ds : List D) : D := .ext (kClo i) ((js.zip ds).map (fun p => cel p.1 p.2) ++ [.ext (kCode i) []])
structure LamOk (L : LamD) : Prop where
  sc : NdefX.NScope L.N L.ps (L.caps.map (·.1)) L.scope
  bind : ∀ (cl : List (Str × Addr)) (pm cv ctv : Value) (us : List Value), us.length = L.ps.length → bindArgs (PySem.W.kla_fn "<lambda>" L.qual L.params L.body L.scope cl pm cv ctv) ⟨us, []⟩ = pure (L.ps.zip us)
  nd : (L.caps.map (·.1)).Nodup
  pl : (L.caps.map (·.2)).Nodup
  few : ∀ p ∈ L.caps, p.2 < 99
def spV (T : Tab) (f : Fn) : Sp := fun vs H Q E => sp T vs.length f vs H Q E
structure FnV (P : Program) (w : World) (K : PySem.W.Frag) (mg : Str → Option Value) (base : Heap) (CX : CXT) (k : Nat) (sp : Sp) : Prop where
  run : ∀ (A : Around) (outer : List Env) (s : Shared) (H : Hp) (f : Addr) (us : List Value) (vs : List V) (Q : VK) (E : XK), Room k A → Env0 P w K mg base A outer s H → Vals vs us → sp (.ref f :: vs) H Q E →
    codeAny (model P w) A (.call (.ref f) ⟨us, []⟩) (CR CX outer P w H s Q E) s
section
variable {P : Program} {w : World} {T : Tab} {lam : Nat → Option LamD} {B H : Hp} {h : Heap}
end
end Fz
set_option Elab.async false
set_option linter.all false
set_option maxRecDepth 100000
set_option maxHeartbeats 4000000
namespace Fz
open PySem L2 PySem.Spec PyProof.Rows
section
variable {P : Program} {w : World} {T : Tab} {mg : Str → Option Value} {base : Heap} {lam : Nat → Option LamD} {k : Nat}
theorem paired_at {α β : Type} {R : α → β → Prop} : ∀ {xs : List α} {ys : List β} {k : Nat}, Paired R xs ys → ∀ {b : β}, ys[k]? = some b → ∃ a, xs[k]? = some a ∧ R a b
  | _, _, _, .nil, _, h => by simp at h
  | _, _, 0, .cons r t, _, h => by simp at h; subst h; exact ⟨_, rfl, r⟩
  | _, _, k + 1, .cons r t, _, h => by obtain ⟨b, e, q⟩ := paired_at (k := k) t (by simpa using h); exact ⟨b, by simpa using e, q⟩
end
end Fz
set_option Elab.async false
set_option linter.all false
set_option maxRecDepth 100000
set_option maxHeartbeats 4000000
namespace Fz
open PySem L2 PySem.Spec PyProof.Rows
def isFn (lam : Nat → Option LamD) : D → Bool
  | .ext k _ => (decide (800 ≤ k) && decide (k < 900)) || (decide (1000 ≤ k) && (decide (k % 2 = 0) && (lam ((k - 1000) / 2)).isSome))
  | _ => false
structure GfOk (P : Program) (w : World) (T : Tab) (mg : Str → Option Value) (base : Heap) (gfs : Nat → Option (Nat × Fn)) (k : Nat) : Prop where
  fn : ∀ i F, gfs i = some F → ∀ a, T.gf i a → ∃ fd ps, FnOk P w T.K mg base (L2.CX P w) k a fd ps (sp T F.1 F.2) ∧ Binds T.K fd ps [] ∧ ps.length = F.1
  at_ : ∀ i a, T.gf i a → ∃ (oc : Value) (od : Option Addr) (fd : FuncData) (sl : Array (Option Value)), T.K.lookup a = some ⟨oc, od, .func fd, sl⟩
  rng : ∀ i F, gfs i = some F → 800 ≤ i ∧ i < 900
section
variable {P : Program} {w : World} {T : Tab} {mg : Str → Option Value} {base : Heap} {lam : Nat → Option LamD} {gfs : Nat → Option (Nat × Fn)} {bd : Nat → M D} {k : Nat}
end
end Fz
set_option Elab.async false
set_option linter.all false
set_option maxRecDepth 100000
set_option maxHeartbeats 4000000
namespace Fz
open PySem L2 PySem.Spec PyProof.Rows
def isFnS (lam : Nat → Option LamD) : Option (Option R) → Bool
  | some (some (.d d)) => isFn lam d
  | _ => false
def rCallV (lam : Nat → Option LamD) (i n : Nat) (f : Fn) (fa : M (List Arg)) : M R := fun st => if isFnS lam st[i]? = true then rCall n f [] (aV (eVar i) fa) st else none
structure ValAt (Y : Cx) (T : Tab) (E : L2.St → XK) (lam : Nat → Option LamD) (F : Fn) : Prop where
  ex : ∃ CX k, FnV Y.prog Y.w Y.K Y.mg Y.base CX k (spV T F) ∧ Room k Y.A ∧ ∀ σ, PassesAt CX Y σ (E σ)
section
variable {ι : Type} {T : Tab} {E : L2.St → XK} {X : ι → Cx} {lam : Nat → Option LamD} {pos : Pos} {e : Expr} {es : List Expr} {x : Str}
end
section
variable {P : Program} {w : World} {T : Tab} {mg : Str → Option Value} {base : Heap} {N : List Str} {qual : Str} {st : Stmt} {f : Addr} {cdv : Value} {A : Around} {outer : List Env} {s : Shared} {H : Hp} {E : XK} {lam : Nat → Option LamD} {k j : Nat} {F : Fn}
theorem FnV.mono {K : PySem.W.Frag} {CX : CXT} {sp : Sp} (G : FnV P w K mg base CX j sp) (h : j ≤ k) : FnV P w K mg base CX k sp := ⟨fun A outer s H f us vs Q E hr => G.run A outer s H f us vs Q E (hr.mono h)⟩
theorem FnV.d (G : FnV P w T.K mg base (L2.CX P w) j (spV T F)) (hr : Room k (A.deeper (envOfC qual (defScope st) s.heap.objs.size f cdv))) (h : j ≤ k) (i : Unit) : ValAt (CxD P w T mg base N qual st f cdv A outer s H E i) T (fun _ => E) lam F := ⟨_, j, G, hr.mono h, fun σ => pass_def σ⟩
theorem FnV.b {scope : Scope} (G : FnV P w T.K mg base (L2.CX P w) j (spV T F)) (hr : Room k (A.deeper (envOfC qual (defScope st) s.heap.objs.size f cdv))) (h : j ≤ k) (i) : ValAt (Blk (CxD P w T mg base N qual st f cdv A outer s H E) scope i) T (fun _ => E0) lam F := ⟨_, j, G, hr.mono h, fun σ => pass_blk (P := P) (w := w) σ⟩
theorem FnV.l {nf : NdefX.NF} {fa : Addr} (G : FnV P w T.K mg base (L2.CX P w) j (spV T F)) (hr : Room k (A.deeper (NdefX.envF nf fa s.heap.objs.size))) (h : j ≤ k) (i : Unit) : ValAt ((fun _ : Unit => NdefX.ncx (L2.CX P w) P w T.K mg base N nf fa A outer s H E0) i) T (fun _ => E0) lam F := ⟨_, j, G, hr.mono h, fun σ => pass_blk (P := P) (w := w) σ⟩
end
end Fz
set_option Elab.async false
set_option linter.all false
set_option maxRecDepth 100000
set_option maxHeartbeats 4000000
namespace Fz
open PySem L2 PySem.Spec PyProof.Rows
def LamD.xs (L : LamD) (C c' : Addr) : List V := (L.caps.map fun p => V.ref (C + 1 + p.2)) ++ [.ref c']
section
variable {X : Cx} {pins : List (Addr × Obj)} {σ : L2.St} {H : Hp} {s : Shared}
end
section
variable {T : Tab} {st : Sl} {σ : L2.St} {B F H : Hp}
theorem Sim.tbl (S : Sim T st σ B F H) {P c' : Addr} {q : Str} {ps : Array Value} {pos : Pos} (hm : ∃ p ∈ T.tt, p.1 = P) (hp : H P = some (.tbl ps)) (ht : TriplesOk ps.toList) (hq : ∀ p ∈ T.tt, p.1 = P → p.2 = q) (hb : B c' = some (CodeO c' q)) : Sim T st σ B F (upd H P (.tbl (ps ++ #[rawInt pos.line, rawInt pos.col, .ref c']))) := by
  have tP : isTb (.tbl ps) := .inl ⟨ps, rfl⟩
  have ne : ∀ {i : Nat} {r : R} {v : V} {a : Addr}, st[i]? = some (some r) → σ[i]? = some (some v) → Ow H r v a → a ≠ P := fun {i r v a} h1 h2 h3 e => by
    subst e
    exact S.ntb h1 h2 h3 _ hp tP
  have tk : Tk H (upd H P (.tbl (ps ++ #[rawInt pos.line, rawInt pos.col, .ref c']))) := fun a xs h => by rw [upd_ne (by intro e; subst e; rw [hp] at h; cases h)]; exact h
  have ko : ∀ {i : Nat} {r : R} {v : V}, st[i]? = some (some r) → σ[i]? = some (some v) → ∀ p o, Ow H r v p → H p = some o → upd H P (.tbl (ps ++ #[rawInt pos.line, rawInt pos.col, .ref c'])) p = some o := fun {i r v} h1 h2 p o z h => by
    rw [upd_ne (ne h1 h2 z)]; exact h
  have bk : ∀ {i : Nat} {r : R} {v : V} {a : Addr}, st[i]? = some (some r) → σ[i]? = some (some v) → Ow (upd H P (.tbl (ps ++ #[rawInt pos.line, rawInt pos.col, .ref c']))) r v a → Ow H r v a := fun {i r v a} h1 h2 h3 => by
    obtain ⟨v', h4, h5⟩ := S.rel i r h1
    rw [h2] at h4; cases h4
    exact Ow.back tk h5 (ko h1 h2) h3
  refine ⟨fun a o h => ?_, fun a o h => ?_, S.dis, fun a xs h => ?_, S.len, fun i r h => ?_, fun i r v a h1 h2 h3 => S.own i r v a h1 h2 (bk h1 h2 h3), fun i j r q v u a n h1 h2 h3 h4 h5 h6 => S.sep i j r q v u a n h1 h2 h3 h4 (bk h1 h2 h5) (bk h3 h4 h6), ⟨S.tbs.noF, fun p hpm => ?_⟩⟩
  · by_cases e : a = P
    · subst e
      obtain ⟨p, hpm, e⟩ := hm
      have := (S.tbs.tab p hpm).1
      rw [e, h] at this; cases this
    · rw [upd_ne e]; exact S.exB a o h
  · rw [upd_ne (by intro e; subst e; have := S.exF a o h; rw [hp] at this; cases this; exact S.tbs.noF _ _ h tP)]; exact S.exF a o h
  · by_cases e : a = P
    · subst e; rw [upd_same] at h; cases h
    · rw [upd_ne e] at h; exact S.tup a xs h
  · obtain ⟨v, h1, h2⟩ := S.rel i r h
    exact ⟨v, h1, h2.keep (.refl B) tk (ko h h1)⟩
  · obtain ⟨g1, ps', g2, g3, g4⟩ := S.tbs.tab p hpm
    by_cases e : p.1 = P
    · have eq := hq p hpm e
      rw [e, hp] at g2
      cases g2
      refine ⟨g1, _, by rw [e, upd_same], by simp only [Array.toList_append]; exact PySem.TriplesOk_snoc _ _ _ _ ht, fun pos2 cv hc => ?_⟩
      rw [show (ps ++ #[rawInt pos.line, rawInt pos.col, .ref c']).toList = ps.toList ++ [rawInt pos.line, rawInt pos.col, .ref c'] by simp] at hc
      rcases LamX.among_app _ ht hc with z | z
      · exact g4 pos2 cv z
      · exact ⟨c', z, by rw [eq]; exact hb⟩
    · exact ⟨g1, ps', by rw [upd_ne e]; exact g2, g3, g4⟩
end
end Fz
set_option Elab.async false
set_option linter.all false
set_option maxRecDepth 100000
set_option maxHeartbeats 4000000
namespace Fz
open PySem L2 PySem.Spec PyProof.Rows
section
variable {T : Tab} {E : L2.St → XK} {st : Sl} {σ : L2.St} {B F H : Hp} {lam : Nat → Option LamD}
def eLam (i : Nat) : M D := ret (clo i [] [])
end
section
variable {ι : Type} {T : Tab} {E : L2.St → XK} {X : ι → Cx} {lam : Nat → Option LamD} {pos : Pos}
structure LamAt (Y : Cx) (T : Tab) (P : Addr) (q : Str) : Prop where
  ex : ∃ c, LamX.TabB Y.base Y.mg c P ∧ Y.env.code = .ref c
  qual : Y.env.qual ++ "<lambda>" = q
  hm : ∃ p ∈ T.tt, p.1 = P
  hq : ∀ p ∈ T.tt, p.1 = P → p.2 = q
end
end Fz
set_option Elab.async false
set_option linter.all false
set_option maxRecDepth 100000
set_option maxHeartbeats 4000000
namespace Fz
open PySem L2 PySem.Spec PyProof.Rows
section
variable {K : PySem.W.Frag} {h base : Heap} {mg : Str → Option Value} {mk : List Str}
end
section
variable {P : Program} {w : World} {T : Tab} {mg : Str → Option Value} {base : Heap} {x qual : Str} {st : Stmt} {N ps : List Str} {k : Nat} {kp : Nat → Bool} {body : MS} {c : Addr}
end
end Fz
set_option Elab.async false
set_option linter.all false
set_option maxRecDepth 100000
set_option maxHeartbeats 4000000
namespace Fz
open PySem L2 PySem.Spec PyProof.Rows
section
variable {P : Program} {w : World} {T : Tab} {mg mb : Str → Option Value} {mk : List Str} {k : Nat} {fa a : Addr} {fd : FuncData} {x : Str} {F : Fn} {s₁ : Shared} {vs : List Value} {ns : List Int}
end
end Fz
set_option Elab.async false
set_option linter.all false
set_option maxRecDepth 100000
set_option maxHeartbeats 4000000
namespace Fz
open PySem L2 PySem.Spec PyProof.Rows
section
variable {X : Cx} {pins : List (Addr × Obj)} {σ : L2.St} {H Hp' H' : Hp} {s s' : Shared} {hid : Addr → Prop}
end
section
variable {X : Cx} {k : Nat} {f : Addr} {fd : FuncData} {ps : List Str} {sp : Sp} {E : L2.St → XK} {x : Str} {p pos lpos : Pos} {e : Expr} {L : LamD} {P C : Addr} {js : List Nat} {te : TE}
end
end Fz
set_option Elab.async false
set_option linter.all false
set_option maxRecDepth 100000
set_option maxHeartbeats 4000000
namespace Fz
open PySem L2 PySem.Spec PyProof.Rows
mutual
def noX : D → Bool
  | .ext _ _ => false
  | .tup ds => noXs ds
  | .lst ds => noXs ds
  | .obj _ ds => noXs ds
  | .dct ks vs => noXs ks && noXs vs
  | _ => true
def noXs : List D → Bool
  | [] => true
  | d :: ds => noX d && noXs ds
end
mutual
def noXR : R → Bool
  | .d x => noX x
  | .ol xs => noXs xs
  | .oi _ fs => noXs fs
  | .od ks vs => noXs ks && noXs vs
  | .nl cs => noXRs cs
  | .nt cs => noXRs cs
  | .ni _ cs => noXRs cs
  | .nd ks cs => noXs ks && noXRs cs
def noXRs : List R → Bool
  | [] => true
  | c :: cs => noXR c && noXRs cs
end
def oneH (a : Addr) (ob : Obj) : Heap := { objs := Array.replicate (a + 1) ob }
theorem oneH_at {a : Addr} {ob : Obj} (h : ob.data ≠ .freed) : (oneH a ob).get? a = some ob := by
  have : (oneH a ob).objs[a]? = some ob := by show (Array.replicate (a + 1) ob)[a]? = some ob; simp
  unfold Heap.get?
  rw [this]
  obtain ⟨c, d, dt, sl⟩ := ob
  cases dt <;> first | rfl | exact absurd rfl h
theorem oneH_of {a b : Addr} {ob o : Obj} (h : (oneH a ob).get? b = some o) : o = ob := by
  unfold Heap.get? at h
  have z : ∀ o, (oneH a ob).objs[b]? = some o → o = ob := fun o z => by
    have z : (Array.replicate (a + 1) ob)[b]? = some o := z
    rw [Array.getElem?_replicate] at z
    split at z
    · exact (Option.some.inj z).symm
    · cases z
  split at h
  · cases h
  · exact z _ h
theorem celO_ne_dG {c : Addr} {xs : List V} {w : World} {a : Addr} {ep : Nat} {es : List (KX × V)} : CelO c xs ≠ dG w a ep es := fun z => by
  unfold dG CelO at z
  have h := HO.ext.inj z
  let ys : List DictEntry := es.map fun e => ⟨e.1.hash w, e.1.val, valOf e.2⟩
  have pr : ∀ es : List (KX × V), Paired (entOk w) es (es.map fun e => (⟨e.1.hash w, e.1.val, valOf e.2⟩ : DictEntry)) := fun es => by
    induction es with
    | nil => exact .nil
    | cons e es ih => exact .cons ⟨rfl, KX.val_is _, valOf_rel _⟩ ih
  let ob : Obj := { cls := .type "dict", data := .dict ys.toArray ep }
  obtain ⟨v, u, _, _, o, ho, hd⟩ := (congrFun h (oneH a ob)).mpr ⟨ob, ys.toArray, oneH_at (fun z => by cases z), ⟨rfl, rfl, rfl⟩, rfl, pr es⟩
  rw [oneH_of ho] at hd
  cases hd
theorem celO_ne_code {c a : Addr} {xs : List V} {q : Str} : CelO c xs ≠ CodeO a q := fun z => by
  unfold CelO CodeO at z
  have h := HO.ext.inj z
  let ob : Obj := { cls := .none, data := .fields #[.none, .str q default] }
  obtain ⟨v, u, _, _, o, ho, hd⟩ := (congrFun h (oneH a ob)).mpr ⟨ob, _, default, oneH_at (fun z => by cases z), rfl, rfl⟩
  rw [oneH_of ho] at hd
  cases hd
section
variable {T : Tab} {B H : Hp} {hid : Addr → Prop}
mutual
theorem Rep.drop (hh : ∀ a, hid a → ∃ c xs, B a = some (CelO c xs)) : ∀ (d : D) {v : V}, noX d = true → Rep T B d v → Rep T (hidH hid B) d v
  | .non, _, _, h => h
  | .bl _, _, _, h => h
  | .int _, _, _, h => h
  | .str _, _, _, h => h
  | .ext _ _, _, n, _ => by cases (show false = true from n)
  | .tup ds, v, n, h => by
    unfold Rep at h ⊢
    obtain ⟨a, xs, h1, h2, h3⟩ := h
    refine ⟨a, xs, h1, h2.imp (fun z => ?_) id, Reps.drop hh ds n h3⟩
    rw [hidH_out]
    · exact z
    · intro y
      obtain ⟨c, xs', e⟩ := hh a y
      rw [z] at e; unfold CelO at e; cases e
  | .lst ds, v, n, h => by
    unfold Rep at h ⊢
    obtain ⟨a, xs, h1, h2, h3⟩ := h
    have na : ∀ {u : HO}, B a = some u → (∀ φ, u ≠ .ext φ) → hidH hid B a = some u := fun {u} z n => by
      rw [hidH_out]
      · exact z
      · intro y
        obtain ⟨c, xs', e⟩ := hh a y
        rw [z] at e; exact n _ (Option.some.inj e)
    refine ⟨a, xs, h1, ?_, Reps.drop hh ds n h3⟩
    rcases h2 with (z | ⟨o, z⟩) | z
    · exact .inl (.inl (na z fun φ z => nomatch z))
    · exact .inl (.inr ⟨o, na z fun φ z => nomatch z⟩)
    · exact .inr z
  | .obj c fs, v, n, h => by
    unfold Rep at h ⊢
    obtain ⟨a, dx, fvs, h1, h2, h3, h4⟩ := h
    refine ⟨a, dx, fvs, h1, ?_, h3, Reps.drop hh fs n h4⟩
    rw [hidH_out]
    · exact h2
    · intro y
      obtain ⟨c, xs', e⟩ := hh a y
      rw [h2] at e; unfold CelO at e; cases e
  | .dct ks vs, v, n, h => by
    have n := (Bool.and_eq_true _ _).mp (show (noXs ks && noXs vs) = true from n)
    unfold Rep at h ⊢
    obtain ⟨a, ep, es, h1, h2, h3, h4, h5⟩ := h
    refine ⟨a, ep, es, h1, ?_, h3, KReps.drop hh ks n.1 h4, Reps.drop hh vs n.2 h5⟩
    rw [hidH_out]
    · exact h2
    · intro y
      obtain ⟨c, xs', e⟩ := hh a y
      rw [h2] at e; exact celO_ne_dG (Option.some.inj e).symm
theorem Reps.drop (hh : ∀ a, hid a → ∃ c xs, B a = some (CelO c xs)) : ∀ (ds : List D) {xs : List V}, noXs ds = true → Reps T B ds xs → Reps T (hidH hid B) ds xs
  | [], _, _, h => h
  | d :: ds, xs, n, h => by
    have n := (Bool.and_eq_true _ _).mp (show (noX d && noXs ds) = true from n)
    unfold Reps at h ⊢
    obtain ⟨v, r, h1, h2, h3⟩ := h
    exact ⟨v, r, h1, Rep.drop hh d n.1 h2, Reps.drop hh ds n.2 h3⟩
theorem KReps.drop (hh : ∀ a, hid a → ∃ c xs, B a = some (CelO c xs)) : ∀ (ds : List D) {xs : List KX}, noXs ds = true → KReps T B ds xs → KReps T (hidH hid B) ds xs
  | [], _, _, h => h
  | d :: ds, xs, n, h => by
    have n := (Bool.and_eq_true _ _).mp (show (noX d && noXs ds) = true from n)
    unfold KReps at h ⊢
    obtain ⟨x, r, h1, h2, h3⟩ := h
    refine ⟨x, r, h1, ?_, KReps.drop hh ds n.2 h3⟩
    cases x with
    | v k => exact h2
    | t k a => exact ⟨h2.1, Rep.drop hh d n.1 h2.2⟩
end
mutual
theorem RelR.drop (hh : ∀ a, hid a → ∃ c xs, B a = some (CelO c xs)) (eB : Ex B H) : ∀ {r : R} {v : V}, noXR r = true → RelR T B H r v → (∀ b, Ow H r v b → ¬ hid b) → RelR T (hidH hid B) (hidH hid H) r v
  | .d x, v, n, h, k => by unfold RelR at h ⊢; exact Rep.drop hh x n h
  | .ol xs, v, n, h, k => by
    unfold RelR at h ⊢
    obtain ⟨b, ys, h1, h2, h3⟩ := h
    exact ⟨b, ys, h1, by rw [hidH_out (k b (by unfold Ow; exact h1))]; exact h2, Reps.drop hh _ n h3⟩
  | .oi c fs, v, n, h, k => by
    unfold RelR at h ⊢
    obtain ⟨b, dx, fvs, h1, h2, h3, h4⟩ := h
    exact ⟨b, dx, fvs, h1, by rw [hidH_out (k b (by unfold Ow; exact h1))]; exact h2, h3, Reps.drop hh _ n h4⟩
  | .od ks vs, v, n, h, k => by
    have n := (Bool.and_eq_true _ _).mp (show (noXs ks && noXs vs) = true from n)
    unfold RelR at h ⊢
    obtain ⟨b, xs, h1, ⟨ep, es, h2, g1, g2, g3⟩, h3⟩ := h
    exact ⟨b, xs, h1, ⟨ep, es, by rw [hidH_out (k b (by unfold Ow; exact h1))]; exact h2, g1, KReps.drop hh _ n.1 g2, g3⟩, Reps.drop hh _ n.2 h3⟩
  | .nl cs, v, n, h, k => by
    unfold RelR at h ⊢
    obtain ⟨b, ys, h1, h2, h3, h4⟩ := h
    have kb := k b (by unfold Ow; exact .inl h1)
    have kc : ∀ p, OwL H cs ys p → ¬ hid p := fun p z => k p (by unfold Ow; exact .inr ⟨b, ys, h1, .inl h2, z⟩)
    exact ⟨b, ys, h1, by rw [hidH_out kb]; exact h2, RelRs.drop hh eB n h3 kc, fun z => h4 (OwL.dropB hh eB h3 kc z)⟩
  | .nt cs, v, n, h, k => by
    unfold RelR at h ⊢
    obtain ⟨b, ys, h1, h2, h3⟩ := h
    have kc : ∀ p, OwL H cs ys p → ¬ hid p := fun p z => k p (by unfold Ow; exact ⟨b, ys, h1, .inr (.inl h2.2), z⟩)
    have nb : ¬ hid b := fun y => by
      obtain ⟨c, xs', e⟩ := hh b y
      rw [h2.1] at e; unfold CelO at e; cases e
    exact ⟨b, ys, h1, ⟨by rw [hidH_out nb]; exact h2.1, by rw [hidH_out nb]; exact h2.2⟩, RelRs.drop hh eB n h3 kc⟩
  | .ni c cs, v, n, h, k => by
    unfold RelR at h ⊢
    obtain ⟨b, dx, fvs, h1, h2, h5, h3, h4⟩ := h
    have kb := k b (by unfold Ow; exact .inl h1)
    have kc : ∀ p, OwL H cs (fvs.map (·.2)) p → ¬ hid p := fun p z => k p (by unfold Ow; exact .inr ⟨b, _, h1, .inr (.inr (.inl ⟨_, _, _, h2, rfl⟩)), z⟩)
    exact ⟨b, dx, fvs, h1, by rw [hidH_out kb]; exact h2, h5, RelRs.drop hh eB n h3 kc, fun z => h4 (OwL.dropB hh eB h3 kc z)⟩
  | .nd ks cs, v, n, h, k => by
    have n := (Bool.and_eq_true _ _).mp (show (noXs ks && noXRs cs) = true from n)
    unfold RelR at h ⊢
    obtain ⟨b, ys, h1, ⟨ep, es, h2, g1, g2, g3⟩, h3, h4⟩ := h
    have kb := k b (by unfold Ow; exact .inl h1)
    have kc : ∀ p, OwL H cs ys p → ¬ hid p := fun p z => k p (by unfold Ow; exact .inr ⟨b, ys, h1, .inr (.inr (.inr ⟨_, ep, es, h2, g3⟩)), z⟩)
    exact ⟨b, ys, h1, ⟨ep, es, by rw [hidH_out kb]; exact h2, g1, KReps.drop hh _ n.1 g2, g3⟩, RelRs.drop hh eB n.2 h3 kc, fun z => h4 (OwL.dropB hh eB h3 kc z)⟩
theorem RelRs.drop (hh : ∀ a, hid a → ∃ c xs, B a = some (CelO c xs)) (eB : Ex B H) : ∀ {rs : List R} {vs : List V}, noXRs rs = true → RelRs T B H rs vs → (∀ b, OwL H rs vs b → ¬ hid b) → RelRs T (hidH hid B) (hidH hid H) rs vs
  | [], vs, n, h, k => by unfold RelRs at h ⊢; exact h
  | r :: rs, vs, n, h, k => by
    have n := (Bool.and_eq_true _ _).mp (show (noXR r && noXRs rs) = true from n)
    unfold RelRs at h ⊢
    obtain ⟨y, t, h1, h2, h3, h4⟩ := h
    have k1 : ∀ p, Ow H r y p → ¬ hid p := fun p z => k p (by unfold OwL; exact ⟨y, t, h1, .inl z⟩)
    have k2 : ∀ p, OwL H rs t p → ¬ hid p := fun p z => k p (by unfold OwL; exact ⟨y, t, h1, .inr z⟩)
    exact ⟨y, t, h1, RelR.drop hh eB n.1 h2 k1, RelRs.drop hh eB n.2 h3 k2, fun b z1 z2 => h4 b (Ow.dropB hh eB h2 k1 z1) (OwL.dropB hh eB h3 k2 z2)⟩
theorem Ow.dropB (hh : ∀ a, hid a → ∃ c xs, B a = some (CelO c xs)) (eB : Ex B H) {r : R} {v : V} {a : Addr} (h : RelR T B H r v) (k : ∀ p, Ow H r v p → ¬ hid p) (z : Ow (hidH hid H) r v a) : Ow H r v a :=
  Ow.back (fun b xs q => by
    rw [hidH_out]
    · exact q
    · intro y
      obtain ⟨c, xs', e⟩ := hh b y
      have := eB b _ e
      rw [q] at this; unfold CelO at this; cases this) h (fun p o g1 g2 => by rw [hidH_out (k p g1)]; exact g2) z
theorem OwL.dropB (hh : ∀ a, hid a → ∃ c xs, B a = some (CelO c xs)) (eB : Ex B H) {rs : List R} {vs : List V} {a : Addr} (h : RelRs T B H rs vs) (k : ∀ p, OwL H rs vs p → ¬ hid p) (z : OwL (hidH hid H) rs vs a) : OwL H rs vs a :=
  OwL.back (fun b xs q => by
    rw [hidH_out]
    · exact q
    · intro y
      obtain ⟨c, xs', e⟩ := hh b y
      have := eB b _ e
      rw [q] at this; unfold CelO at this; cases this) h (fun p o g1 g2 => by rw [hidH_out (k p g1)]; exact g2) z
end
theorem Sim.drop {st : Sl} {σ : L2.St} {F : Hp} (S : Sim T st σ B F H) (hh : ∀ a, hid a → ∃ c xs, B a = some (CelO c xs)) (n : ∀ (i : Nat) r, st[i]? = some (some r) → noXR r = true) : Sim T st σ (hidH hid B) F (hidH hid H) := by
  have nF : ∀ a o, F a = some o → ¬ hid a := fun a o h z => by
    obtain ⟨c, xs, e⟩ := hh a z
    rw [S.dis a o h] at e; cases e
  have no : ∀ {i : Nat} {r : R} {v : V}, st[i]? = some (some r) → σ[i]? = some (some v) → ∀ b, Ow H r v b → ¬ hid b := fun {i r v} h1 h2 b o z => by
    obtain ⟨c, xs, e⟩ := hh b z
    rw [(S.own i r v b h1 h2 o).1] at e; cases e
  have bk : ∀ {i : Nat} {r : R} {v : V} {a : Addr}, st[i]? = some (some r) → σ[i]? = some (some v) → Ow (hidH hid H) r v a → Ow H r v a := fun {i r v a} h1 h2 o => by
    obtain ⟨v', h4, h5⟩ := S.rel i r h1
    rw [h2] at h4; cases h4
    exact Ow.dropB hh S.exB h5 (no h1 h2) o
  refine ⟨fun a o h => ?_, fun a o h => by rw [hidH_out (nF a o h)]; exact S.exF a o h, fun a o h => by rw [hidH_out (nF a o h)]; exact S.dis a o h, fun a xs h => ?_, S.len, fun i r h => ?_, fun i r v a h1 h2 h3 => ?_, fun i j r q v u a n' h1 h2 h3 h4 h5 h6 => S.sep i j r q v u a n' h1 h2 h3 h4 (bk h1 h2 h5) (bk h3 h4 h6), ⟨S.tbs.noF, fun p hp => ?_⟩⟩
  · by_cases z : hid a
    · rw [hidH_in z] at h; cases h
    · rw [hidH_out z] at h ⊢; exact S.exB a o h
  · by_cases z : hid a
    · rw [hidH_in z] at h; cases h
    · rw [hidH_out z] at h ⊢; exact S.tup a xs h
  · obtain ⟨v, h1, h2⟩ := S.rel i r h
    exact ⟨v, h1, h2.drop hh S.exB (n i r h) (no h h1)⟩
  · have h3 := bk h1 h2 h3
    obtain ⟨z1, z2⟩ := S.own i r v a h1 h2 h3
    exact ⟨by rw [hidH_out (no h1 h2 a h3)]; exact z1, z2⟩
  · obtain ⟨h1, ps, h3, h4, h5⟩ := S.tbs.tab p hp
    have np : ¬ hid p.1 := fun z => by
      obtain ⟨c, xs, e⟩ := hh _ z
      rw [h1] at e; cases e
    refine ⟨by rw [hidH_out np]; exact h1, ps, by rw [hidH_out np]; exact h3, h4, fun pos cv hc => ?_⟩
    obtain ⟨c, a1, b1⟩ := h5 pos cv hc
    refine ⟨c, a1, ?_⟩
    rw [hidH_out]
    · exact b1
    · intro y
      obtain ⟨c', xs, e⟩ := hh _ y
      rw [b1] at e
      exact celO_ne_code (Option.some.inj e).symm
end
end Fz
set_option Elab.async false
set_option linter.all false
set_option maxRecDepth 100000
set_option maxHeartbeats 4000000
namespace Fz
open PySem L2 PySem.Spec PyProof.Rows
section
variable {T : Tab} {E : L2.St → XK} {st : Sl} {σ : L2.St} {B F H : Hp} {lam : Nat → Option LamD}
end
end Fz
set_option Elab.async false
set_option linter.all false
set_option maxRecDepth 100000
set_option maxHeartbeats 4000000
namespace Fz
open PySem L2 PySem.Spec PyProof.Rows
abbrev TC := (L2.St → VK) → L2.St → Hp → Prop
structure PC (X : Cx) (ss : List Stmt) (t : TC) : Prop where
  run : ∀ (pins : List (Addr × Obj)) (s : Shared) (σ : L2.St) (H : Hp) (Q : L2.St → VK), Inv X pins σ H s → t Q σ H → wpAny (model X.prog X.w) X.A (execs ss X.env) (fun fl s' => ∃ u v σ' H', fl = .ret u ∧ Inv X pins σ' H' s' ∧ RelV v u ∧ Q σ' v H') X.xe s
section
variable {X : Cx} {e c : Expr} {pos : Pos} {st : Stmt} {a rest : List Stmt} {te : TE} {tc : TT} {t : TS} {u ta tr : TC}
end
section
variable {T : Tab} {C : Addr} {H : Hp} {a : Addr}
end
section
variable {P : Program} {w : World} {T : Tab} {mg : Str → Option Value} {base : Heap} {CX : CXT} {k : Nat} {f : Addr} {fd : FuncData} {ps : List Str} {sp : Sp} {lam : Nat → Option LamD}
end
end Fz
set_option Elab.async false
set_option linter.all false
set_option maxRecDepth 100000
set_option maxHeartbeats 4000000
namespace Fz
open PySem L2 PySem.Spec PyProof.Rows
inductive RC where
  | r (d : D) | lam (i : Nat) (pl js : List Nat)
abbrev MC := Sl → Option (RC × Sl)
def OkC (T : Tab) (lam : Nat → Option LamD) (C : Addr) (K : LamD → List Nat → List Nat → Prop) (kp : Nat → Bool) (o : RC) (s : Sl) (σ : L2.St) (B F : Hp) (Q : L2.St → VK) : Prop := match o with
  | .r d => ∀ v σ' B' H', Ex B B' → Kp kp σ σ' → Sim T s σ' B' F H' → Rep T B' d v → Q σ' v H'
  | .lam i pl js => ∀ L, lam i = some L → K L pl js → ∀ f c' σ' B' H', Ex B B' → Kp kp σ σ' → Sim T s σ' B' F H' → B' f = some (CloO L f (L.xs C c')) → B' c' = some (CodeO c' L.qual) → Q σ' (.ref f) H'
theorem OkC.same {T : Tab} {lam : Nat → Option LamD} {C : Addr} {K : LamD → List Nat → List Nat → Prop} {kp : Nat → Bool} {o : RC} {s : Sl} {σ σ' : L2.St} {B B' F : Hp} {Q : L2.St → VK} (h : OkC T lam C K kp o s σ B F Q) (e : Ex B B') (k : Kp kp σ σ') : OkC T lam C K kp o s σ' B' F Q := by
  cases o with
  | r d => exact fun v σ1 B1 H1 e1 k1 S => h v σ1 B1 H1 (e.trans e1) (k.trans k1) S
  | lam i pl js => exact fun L hL hK f c' σ1 B1 H1 e1 k1 S => h L hL hK f c' σ1 B1 H1 (e.trans e1) (k.trans k1) S
def cRet (m : M D) : MC := fun st => match m st with
  | some (.v d, s) => some (.r d, s)
  | _ => none
def cLam (i : Nat) (pl js : List Nat) : MC := fun st => some (.lam i pl js, st)
def cIf (c : M Bool) (f g : MC) : MC := fun st => match c st with
  | some (.v b, s) => if b = true then f s else g s
  | _ => none
def cSeq (f : MS) (g : MC) : MC := fun st => match f st with
  | some (.nx, s) => g s
  | _ => none
def cap1 (kp : Nat → Bool) (rs : List R) (s : Sl) (j : Nat) : Option D := match s[j]? with
  | some (some (.d d)) => if imm d = true then some d else if kp j = true then (match rs[j]? with
      | some (.d (.ext k ds)) => some (.ext k ds)
      | _ => none) else none
  | _ => none
def capC (kp : Nat → Bool) (rs : List R) (s : Sl) : List Nat → Option (List D)
  | [] => some []
  | j :: js => match cap1 kp rs s j with
    | some d => (capC kp rs s js).map (d :: ·)
    | none => none
def fnOfC (n N : Nat) (kp : Nat → Bool) (body : MC) : Fn := fun rs => if rs.length = n then
  match body (rs.map some ++ List.replicate (N - n) none) with
  | some (.r d, s) => fnEnd kp rs (.v (.d d)) s
  | some (.lam i pl js, s) => (match capC kp rs s js with
    | some ds => fnEnd kp rs (.v (.d (clo i pl ds))) s
    | none => none)
  | none => none
  else none
section
variable {T : Tab} {E : L2.St → XK} {lam : Nat → Option LamD} {C : Addr} {K : LamD → List Nat → List Nat → Prop} {kp : Nat → Bool}
end
section
variable {T : Tab} {st : Sl} {σ : L2.St} {B F H : Hp} {lam : Nat → Option LamD}
end
section
variable {P : Program} {w : World} {T : Tab} {mg : Str → Option Value} {base : Heap} {CX : CXT} {k : Nat} {f : Addr} {lam : Nat → Option LamD}
section
variable {E : L2.St → XK} {C : Addr} {X : Unit → Cx} {kp : Nat → Bool} {e c : Expr} {pos lpos : Pos} {st : Stmt} {a rest : List Stmt}
end
end
end Fz
set_option Elab.async false
set_option linter.all false
set_option maxRecDepth 100000
set_option maxHeartbeats 4000000
namespace Fz
open PySem L2 PySem.Spec PyProof.Rows
def rCallE (lam : Nat → Option LamD) (n : Nat) (F : Fn) (ff : M D) (fa : M (List Arg)) : M R := fun st => match ff st with
  | some (.v d, s1) => if isFn lam d = true then bnd fa (fun xs => if xs.length + 1 = n then callF F (.v d :: xs) else fun _ => none) s1 else none
  | some (.x c, s1) => some (.x c, s1)
  | none => none
section
variable {ι : Type} {T : Tab} {E : L2.St → XK} {X : ι → Cx} {lam : Nat → Option LamD} {pos p : Pos} {g e : Expr} {gs es : List Expr}
end
end Fz
set_option Elab.async false
set_option linter.all false
set_option maxRecDepth 100000
set_option maxHeartbeats 4000000
namespace Fz
open PySem L2 PySem.Spec PyProof.Rows
section
variable {ι : Type} {T : Tab} {E : L2.St → XK} {X : ι → Cx} {lam : Nat → Option LamD} {e : Expr} {C : Addr} {kp : Nat → Bool} {ss : List Stmt}
end
def wk (m : MC) (st : Sl) (Q : RC → Sl → Prop) : Prop := match m st with
  | some (o, s) => Q o s
  | none => False
def oendC (kp : Nat → Bool) (rs : List R) (Q : Oc R → List R → Prop) : RC → Sl → Prop
  | .r d, s => wo (outs kp 0 rs s) (ko (.v (.d d)) Q)
  | .lam i pl js, s => wo (capC kp rs s js) fun ds => wo (outs kp 0 rs s) (ko (.v (.d (clo i pl ds))) Q)
def kOC (i : Nat) (pl : List Nat) (kp : Nat → Bool) (rs : List R) (s : Sl) (Q : Oc R → List R → Prop) : List D → Prop := fun ds => wo (outs kp 0 rs s) (ko (.v (.d (clo i pl ds))) Q)
theorem kOC_a (i : Nat) (pl : List Nat) (kp : Nat → Bool) (rs : List R) (s : Sl) (Q : Oc R → List R → Prop) (ds : List D) : kOC i pl kp rs s Q ds = wo (outs kp 0 rs s) (ko (.v (.d (clo i pl ds))) Q) := rfl
theorem n_oendC_r {kp : Nat → Bool} {rs : List R} {Q : Oc R → List R → Prop} {d : D} {s : Sl} : oendC kp rs Q (.r d) s = wo (outs kp 0 rs s) (ko (.v (.d d)) Q) := rfl
theorem n_oendC_l {kp : Nat → Bool} {rs : List R} {Q : Oc R → List R → Prop} {i : Nat} {pl js : List Nat} {s : Sl} : oendC kp rs Q (.lam i pl js) s = wo (capC kp rs s js) (kOC i pl kp rs s Q) := rfl
def kFnC (kp : Nat → Bool) (n N : Nat) (body : MC) (rs : List R) (Q : Oc R → List R → Prop) : Unit → Prop := fun _ => wk body (rs.map some ++ List.replicate (N - n) none) (oendC kp rs Q)
theorem kFnC_a (kp : Nat → Bool) (n N : Nat) (body : MC) (rs : List R) (Q : Oc R → List R → Prop) : kFnC kp n N body rs Q () = wk body (rs.map some ++ List.replicate (N - n) none) (oendC kp rs Q) := rfl
theorem n_fnOfC {n N : Nat} {kp : Nat → Bool} {body : MC} {rs : List R} {Q : Oc R → List R → Prop} : wf (fnOfC n N kp body) rs Q = wc (rs.length = n) (kFnC kp n N body rs Q) := by
  unfold wf fnOfC wc wa kFnC wk
  by_cases h : rs.length = n
  · rw [if_pos h]
    cases body (rs.map some ++ List.replicate (N - n) none) with
    | none => simp
    | some p =>
      obtain ⟨o, s⟩ := p
      cases o with
      | r d =>
        simp only [h, true_and]
        unfold oendC wo fnEnd ko
        cases e : outs kp 0 rs s with
        | none => simp [e]
        | some qs => simp [e]
      | lam i pl js =>
        simp only [h, true_and]
        unfold oendC wo fnEnd ko
        cases e1 : capC kp rs s js with
        | none => simp [e1]
        | some ds =>
          simp only []
          cases e : outs kp 0 rs s with
          | none => simp [e, e1]
          | some qs => simp [e, e1]
  · rw [if_neg h]; simp [h]
section
variable {st : Sl} {QK : RC → Sl → Prop} {QR : Oc R → Sl → Prop} {Q : Oc D → Sl → Prop}
def kCr (Q : RC → Sl → Prop) : Oc D → Sl → Prop
  | .v d, s => Q (.r d) s
  | .x _, _ => False
theorem kCr_v (Q : RC → Sl → Prop) (d : D) (s : Sl) : kCr Q (.v d) s = Q (.r d) s := rfl
theorem n_cRet {m : M D} : wk (cRet m) st QK = wp m st (kCr QK) := by
  unfold wk cRet wp kCr
  cases m st with
  | none => rfl
  | some p => obtain ⟨o, s⟩ := p; cases o <;> rfl
theorem n_cLam {i : Nat} {pl js : List Nat} : wk (cLam i pl js) st QK = QK (.lam i pl js) st := rfl
def kCif (f g : MC) (Q : RC → Sl → Prop) : Oc Bool → Sl → Prop
  | .v b, s => wd b fun b => if b = true then wk f s Q else wk g s Q
  | .x _, _ => False
def kCd (f g : MC) (Q : RC → Sl → Prop) (s : Sl) : Bool → Prop := fun b => if b = true then wk f s Q else wk g s Q
theorem kCd_t (f g : MC) (Q : RC → Sl → Prop) (s : Sl) : kCd f g Q s true = wk f s Q := rfl
theorem kCd_f (f g : MC) (Q : RC → Sl → Prop) (s : Sl) : kCd f g Q s false = wk g s Q := rfl
theorem kCif_v (f g : MC) (Q : RC → Sl → Prop) (b : Bool) (s : Sl) : kCif f g Q (.v b) s = wd b (kCd f g Q s) := rfl
theorem n_cIf {c : M Bool} {f g : MC} : wk (cIf c f g) st QK = wp c st (kCif f g QK) := by
  unfold wk cIf wp kCif wd
  cases c st with
  | none => rfl
  | some p =>
    obtain ⟨o, s⟩ := p
    cases o with
    | v b => cases b <;> rfl
    | x c => rfl
def kCsq (g : MC) (Q : RC → Sl → Prop) : Fl → Sl → Prop
  | .nx, s => wk g s Q
  | _, _ => False
theorem kCsq_nx (g : MC) (Q : RC → Sl → Prop) (s : Sl) : kCsq g Q .nx s = wk g s Q := rfl
theorem n_cSeq {f : MS} {g : MC} : wk (cSeq f g) st QK = ws f st (kCsq g QK) := by
  unfold wk cSeq ws kCsq
  cases f st with
  | none => rfl
  | some p => obtain ⟨o, s⟩ := p; cases o <;> rfl
def kCv (i n : Nat) (F : Fn) (fa : M (List Arg)) (Q : Oc R → Sl → Prop) (st : Sl) : Unit → Prop := fun _ => wp (rCall n F [] (aV (eVar i) fa)) st Q
theorem kCv_a (i n : Nat) (F : Fn) (fa : M (List Arg)) (Q : Oc R → Sl → Prop) (st : Sl) : kCv i n F fa Q st () = wp (rCall n F [] (aV (eVar i) fa)) st Q := rfl
theorem n_rCallV {lam : Nat → Option LamD} {i n : Nat} {F : Fn} {fa : M (List Arg)} : wp (rCallV lam i n F fa) st QR = wc (isFnS lam st[i]? = true) (kCv i n F fa QR st) := by
  unfold wp rCallV wc wa kCv
  by_cases h : isFnS lam st[i]? = true
  · rw [if_pos h]; simp only [h, true_and]; rfl
  · rw [if_neg h]; simp [h]
def kCe2 (F : Fn) (d : D) (Q : Oc R → Sl → Prop) (as : List Arg) (s : Sl) : Unit → Prop := fun _ => wp (callF F (.v d :: as)) s Q
theorem kCe2_a (F : Fn) (d : D) (Q : Oc R → Sl → Prop) (as : List Arg) (s : Sl) : kCe2 F d Q as s () = wp (callF F (.v d :: as)) s Q := rfl
def kCe1 (n : Nat) (F : Fn) (d : D) (Q : Oc R → Sl → Prop) : Oc (List Arg) → Sl → Prop := vx Q fun as s => wc (as.length + 1 = n) (kCe2 F d Q as s)
theorem kCe1_v (n : Nat) (F : Fn) (d : D) (Q : Oc R → Sl → Prop) (as : List Arg) (s : Sl) : kCe1 n F d Q (.v as) s = wc (as.length + 1 = n) (kCe2 F d Q as s) := rfl
theorem kCe1_x (n : Nat) (F : Fn) (d : D) (Q : Oc R → Sl → Prop) (c : Nat) (s : Sl) : kCe1 n F d Q (.x c) s = Q (.x c) s := rfl
def kCe0 (n : Nat) (F : Fn) (d : D) (fa : M (List Arg)) (Q : Oc R → Sl → Prop) (s : Sl) : Unit → Prop := fun _ => wp fa s (kCe1 n F d Q)
theorem kCe0_a (n : Nat) (F : Fn) (d : D) (fa : M (List Arg)) (Q : Oc R → Sl → Prop) (s : Sl) : kCe0 n F d fa Q s () = wp fa s (kCe1 n F d Q) := rfl
def kCe (lam : Nat → Option LamD) (n : Nat) (F : Fn) (fa : M (List Arg)) (Q : Oc R → Sl → Prop) : Oc D → Sl → Prop := vx Q fun d s => wc (isFn lam d = true) (kCe0 n F d fa Q s)
theorem kCe_v (lam : Nat → Option LamD) (n : Nat) (F : Fn) (fa : M (List Arg)) (Q : Oc R → Sl → Prop) (d : D) (s : Sl) : kCe lam n F fa Q (.v d) s = wc (isFn lam d = true) (kCe0 n F d fa Q s) := rfl
theorem kCe_x (lam : Nat → Option LamD) (n : Nat) (F : Fn) (fa : M (List Arg)) (Q : Oc R → Sl → Prop) (c : Nat) (s : Sl) : kCe lam n F fa Q (.x c) s = Q (.x c) s := rfl
theorem n_rCallE {lam : Nat → Option LamD} {n : Nat} {F : Fn} {ff : M D} {fa : M (List Arg)} : wp (rCallE lam n F ff fa) st QR = wp ff st (kCe lam n F fa QR) := by
  unfold wp rCallE kCe vx
  cases ff st with
  | none => rfl
  | some p =>
    obtain ⟨o, s⟩ := p
    cases o with
    | x c => rfl
    | v d =>
      simp only []
      by_cases h : isFn lam d = true
      · rw [if_pos h]
        unfold wc wa kCe0 wp kCe1 vx bnd
        simp only [h, true_and]
        cases fa s with
        | none => rfl
        | some p =>
          obtain ⟨o, s2⟩ := p
          cases o with
          | x c => rfl
          | v as =>
            simp only []
            unfold wc wa kCe2 wp
            by_cases h2 : as.length + 1 = n
            · rw [if_pos h2]; simp [h2]
            · rw [if_neg h2]; simp [h2]
      · rw [if_neg h]; unfold wc wa; simp [h]
theorem n_eLam {i : Nat} : wp (eLam i) st Q = Q (.v (clo i [] [])) st := rfl
end
section
variable {P : Program} {w : World} {T : Tab} {mg : Str → Option Value} {base : Heap} {N : List Str} {qual : Str} {st : Stmt} {f : Addr} {cdv : Value} {A : Around} {outer : List Env} {s : Shared} {H : Hp} {E : XK} {k j : Nat} {F : Fn} {x : Str}
end
end Fz
set_option Elab.async false
set_option linter.all false
set_option maxRecDepth 100000
set_option maxHeartbeats 4000000
namespace Fz
open PySem L2 PySem.Spec PyProof.Rows
instance (a b : Int) : Decidable (L2.RgOk a b) := by unfold L2.RgOk; infer_instance
def toRg1 : D → Option (Int × Int)
  | .int n => some (0, n)
  | _ => none
def toRg2 : D → D → Option (Int × Int)
  | .int a, .int b => some (a, b)
  | _, _ => none
def gR1 (fa : M D) : M (Int × Int) := bnd fa fun d => opt (toRg1 d)
def gR2 (fa fb : M D) : M (Int × Int) := bnd fa fun d => bnd fb fun e => opt (toRg2 d e)
def rgD (p : Int × Int) : List D := (List.range (p.2 - p.1).toNat).map fun i : Nat => D.int (p.1 + (i : Nat))
def lstRg (p : Int × Int) : Option R := if L2.RgOk p.1 p.2 then some (.ol (rgD p)) else none
def revRg (p : Int × Int) : Option (List D) := if L2.RgOk p.1 p.2 then some (rngC (p.1 + (((p.2 - p.1).toNat : Nat) : Int) - 1) (-1) (p.2 - p.1).toNat) else none
def rLstRg (f : M (Int × Int)) : M R := bnd f fun p => opt (lstRg p)
def iRevRg (f : M (Int × Int)) : M (List D) := bnd f fun p => opt (revRg p)
abbrev TRg := L2.St → Hp → (Int → Int → Hp → Prop) → Prop
section
variable {T : Tab} {E : L2.St → XK} {te tb : TE} {tr : TRg} {fa fb : M D} {f : M (Int × Int)}
end
section
variable {ι : Type} {T : Tab} {E : L2.St → XK} {X : ι → Cx} {tg e a b : Expr} {pos p : Pos} {fa fb : M D} {f : M (Int × Int)}
end
section
variable {st : Sl} {fa fb : M D} {f : M (Int × Int)}
def kRg1 (Q : Oc (Int × Int) → Sl → Prop) : Oc D → Sl → Prop := vx Q fun d s => wo (toRg1 d) (kr Q s)
theorem kRg1_v (Q : Oc (Int × Int) → Sl → Prop) (d : D) (s : Sl) : kRg1 Q (.v d) s = wo (toRg1 d) (kr Q s) := rfl
theorem n_gR1 {Q : Oc (Int × Int) → Sl → Prop} : wp (gR1 fa) st Q = wp fa st (kRg1 Q) := by unfold gR1; rw [wp_bnd]; simp only [wp_opt]; rfl
def kRg3 (d : D) (Q : Oc (Int × Int) → Sl → Prop) : Oc D → Sl → Prop := vx Q fun e s => wo (toRg2 d e) (kr Q s)
theorem kRg3_v (d : D) (Q : Oc (Int × Int) → Sl → Prop) (e : D) (s : Sl) : kRg3 d Q (.v e) s = wo (toRg2 d e) (kr Q s) := rfl
def kRg2 (fb : M D) (Q : Oc (Int × Int) → Sl → Prop) : Oc D → Sl → Prop := vx Q fun d s => wp fb s (kRg3 d Q)
theorem kRg2_v (fb : M D) (Q : Oc (Int × Int) → Sl → Prop) (d : D) (s : Sl) : kRg2 fb Q (.v d) s = wp fb s (kRg3 d Q) := rfl
theorem n_gR2 {Q : Oc (Int × Int) → Sl → Prop} : wp (gR2 fa fb) st Q = wp fa st (kRg2 fb Q) := by unfold gR2; rw [wp_bnd]; simp only [wp_bnd, wp_opt]; rfl
def kLRg (Q : Oc R → Sl → Prop) : Oc (Int × Int) → Sl → Prop := vx Q fun p s => wo (lstRg p) (kr Q s)
theorem kLRg_v (Q : Oc R → Sl → Prop) (p : Int × Int) (s : Sl) : kLRg Q (.v p) s = wo (lstRg p) (kr Q s) := rfl
theorem n_rLstRg {Q : Oc R → Sl → Prop} : wp (rLstRg f) st Q = wp f st (kLRg Q) := by unfold rLstRg; rw [wp_bnd]; simp only [wp_opt]; rfl
def kIRg (Q : Oc (List D) → Sl → Prop) : Oc (Int × Int) → Sl → Prop := vx Q fun p s => wo (revRg p) (kr Q s)
theorem kIRg_v (Q : Oc (List D) → Sl → Prop) (p : Int × Int) (s : Sl) : kIRg Q (.v p) s = wo (revRg p) (kr Q s) := rfl
theorem n_iRevRg {Q : Oc (List D) → Sl → Prop} : wp (iRevRg f) st Q = wp f st (kIRg Q) := by unfold iRevRg; rw [wp_bnd]; simp only [wp_opt]; rfl
theorem toRg1_i {n : Int} : toRg1 (.int n) = some (0, n) := rfl
theorem toRg2_i {a b : Int} : toRg2 (.int a) (.int b) = some (a, b) := rfl
end
end Fz
set_option Elab.async false
set_option linter.all false
set_option maxRecDepth 100000
set_option maxHeartbeats 4000000
namespace Fz
open PySem L2 PySem.Spec PyProof.Rows
structure FnGV (P : Program) (w : World) (T : Tab) (mg : Str → Option Value) (base : Heap) (x : Str) (n : Nat) (F : Fn) (dvs : List V) (k : Nat) : Prop where
  ex : ∃ f fd ps, mg x = some (.ref f) ∧ PySem.W.keepIn T.K (.ref f) = true ∧ Binds T.K fd ps [] ∧ (∃ ds, Vals dvs ds ∧ Binds T.K fd ps ds) ∧ FnOk P w T.K mg base (L2.CX P w) k f fd ps (sp T n F)
section
variable {P : Program} {w : World} {T : Tab} {mg : Str → Option Value} {base : Heap} {x : Str} {st : Stmt} {N ps : List Str} {k n : Nat} {kp : Nat → Bool} {body : MS} {f : Addr} {fd : FuncData} {dvs : List V} {F : Fn}
theorem FnGV.g (G : FnGV P w T mg base x n F dvs k) : FnG P w T mg base x n F k := let ⟨f, fd, ps, a, b, c, _, d⟩ := G.ex; ⟨f, fd, ps, a, b, c, d⟩
end
section
variable {P : Program} {w : World} {T : Tab} {mg : Str → Option Value} {base : Heap} {N : List Str} {qual : Str} {st : Stmt} {f : Addr} {cdv : Value} {A : Around} {outer : List Env} {s : Shared} {H : Hp} {E : XK} {x : Str} {n k j : Nat} {F : Fn} {dvs : List V}
theorem FnGV.d (G : FnGV P w T mg base x n F dvs j) (hr : Room k (A.deeper (envOfC qual (defScope st) s.heap.objs.size f cdv))) (h : j ≤ k) : ∃ ds, Vals dvs ds ∧ ∀ i : Unit, FunAt (CxD P w T mg base N qual st f cdv A outer s H E i) T (fun _ => E) x n F ds :=
  let ⟨f, fd, ps, a, b, _, ⟨ds, c1, c2⟩, d⟩ := G.ex; ⟨ds, c1, fun i => ⟨f, fd, ps, _, j, a, b, c2, d, hr.mono h, fun σ => pass_def σ⟩⟩
theorem FnGV.b {scope : Scope} (G : FnGV P w T mg base x n F dvs j) (hr : Room k (A.deeper (envOfC qual (defScope st) s.heap.objs.size f cdv))) (h : j ≤ k) : ∃ ds, Vals dvs ds ∧ ∀ i, FunAt (Blk (CxD P w T mg base N qual st f cdv A outer s H E) scope i) T (fun _ => E0) x n F ds :=
  let ⟨f, fd, ps, a, b, _, ⟨ds, c1, c2⟩, d⟩ := G.ex; ⟨ds, c1, fun i => ⟨f, fd, ps, _, j, a, b, c2, d, hr.mono h, fun σ => pass_blk (P := P) (w := w) σ⟩⟩
end
section
variable {ι : Type} {T : Tab} {E : L2.St → XK} {X : ι → Cx} {pos : Pos} {e : Expr} {es : List Expr} {x : Str} {fl : M (List Arg)}
end
end Fz
set_option Elab.async false
set_option linter.all false
set_option maxRecDepth 100000
set_option maxHeartbeats 4000000
namespace Fz
open PySem L2 PySem.Spec PyProof.Rows
end Fz
set_option Elab.async false
set_option linter.all false
set_option maxRecDepth 100000
set_option maxHeartbeats 4000000
namespace Fz
open PySem L2 PySem.Spec PyProof.Rows
section
variable {prog : Program} {w : World} {A : Around} {E : Value → Shared → Prop} {s : Shared}
end
section
variable {ι : Type} {T : Tab} {E : L2.St → XK} {X : ι → Cx} {pos : Pos} {e : Expr} {fs : M (List D)}
end
end Fz
set_option Elab.async false
set_option linter.all false
set_option maxRecDepth 100000
set_option maxHeartbeats 1000000
namespace Fz
open PySem L2 PySem.Spec PyProof.Rows
def sPar (i j : Nat) (fa : M (List D)) : MS := fun st => match fa st with
  | some (.v ds, s) => (gsC (gN i) (gsC (gN j) gsN) ds s).map fun s => (.nx, s)
  | some (.x c, s) => some (.x c, s)
  | none => none
section
variable {ι : Type} {T : Tab} {E : L2.St → XK} {X : ι → Cx} {kp : Nat → Bool} {pos : Pos} {i j : Nat} {fa : M (List D)}
end
def kPar (i j : Nat) (Q : Fl → Sl → Prop) : Oc (List D) → Sl → Prop := fun o s => match o with
  | .v ds => wo (gsC (gN i) (gsC (gN j) gsN) ds s) (knx Q)
  | .x c => Q (.x c) s
theorem kPar_v (i j : Nat) (Q : Fl → Sl → Prop) (x y : D) (s : Sl) : kPar i j Q (.v [x, y]) s = Q .nx ((s.set i (some (.d x))).set j (some (.d y))) := by
  show wo (some _) (knx Q) = _
  unfold wo
  apply propext
  exact ⟨fun ⟨_, e, h⟩ => by cases e; exact h, fun h => ⟨_, rfl, h⟩⟩
theorem kPar_x (i j : Nat) (Q : Fl → Sl → Prop) (c : Nat) (s : Sl) : kPar i j Q (.x c) s = Q (.x c) s := rfl
theorem n_sPar {i j : Nat} {fa : M (List D)} {st : Sl} {QS : Fl → Sl → Prop} : ws (sPar i j fa) st QS = wp fa st (kPar i j QS) := by
  unfold ws sPar wp
  cases fa st with
  | none => rfl
  | some z =>
    obtain ⟨o, s⟩ := z
    cases o with
    | x c => rfl
    | v ds =>
      show _ = wo (gsC (gN i) (gsC (gN j) gsN) ds s) (knx QS)
      cases hz : gsC (gN i) (gsC (gN j) gsN) ds s with
      | none => simp [hz, wo]
      | some s' => simp [hz, wo, knx]
section
variable {P : Program} {w : World} {T : Tab} {mg : Str → Option Value} {base : Heap} {N : List Str} {qual : Str} {st : Stmt} {f : Addr} {cdv : Value} {A : Around} {outer : List Env} {s : Shared} {H : Hp} {E : XK} {x m : Str} {n c k : Nat} {F : Fn}
theorem FnG.b2 {j : Nat} {sc1 sc2 : Scope} (G : FnG P w T mg base x n F j) (hr : Room k (A.deeper (envOfC qual (defScope st) s.heap.objs.size f cdv))) (h : j ≤ k) (i) : FunAt (Blk (Blk (CxD P w T mg base N qual st f cdv A outer s H E) sc1) sc2 i) T (fun _ => E0) x n F [] :=
  let ⟨f, fd, ps, a, b, c, d⟩ := G.ex; ⟨f, fd, ps, _, j, a, b, c, d, hr.mono h, fun σ => pass_blk (P := P) (w := w) σ⟩
theorem MtG.b2 {j : Nat} {sc1 sc2 : Scope} (G : MtG P w T mg base c m n F j) (hr : Room k (A.deeper (envOfC qual (defScope st) s.heap.objs.size f cdv))) (h : j ≤ k) (i) : MethAt (Blk (Blk (CxD P w T mg base N qual st f cdv A outer s H E) sc1) sc2 i) T (fun _ => E0) c m n F :=
  let ⟨f, fd, ps, a, b, d⟩ := G.ex; ⟨f, fd, ps, _, j, G.cl.cls, a, b, d, hr.mono h, fun σ => pass_blk (P := P) (w := w) σ, G.nf⟩
theorem MkG.b2 {j : Nat} {sc1 sc2 : Scope} (G : MkG P w T mg base x c n F j) (hr : Room k (A.deeper (envOfC qual (defScope st) s.heap.objs.size f cdv))) (h : j + 1 ≤ k) (i) : MakeAt (Blk (Blk (CxD P w T mg base N qual st f cdv A outer s H E) sc1) sc2 i) T (fun _ => E0) x c n F :=
  let ⟨f, fd, ps, a, b, b', d⟩ := G.ex; ⟨f, fd, ps, _, j, a, b, b', d, hr.mono h, fun σ => pass_blk (P := P) (w := w) σ⟩
theorem MtT.b2 {j : Nat} {sc1 sc2 : Scope} {tab : Nat → Option Fn} (G : MtT P w T mg base m n j tab) (hr : Room k (A.deeper (envOfC qual (defScope st) s.heap.objs.size f cdv))) (h : j ≤ k) : ∀ i c F, tab c = some F → MethAt (Blk (Blk (CxD P w T mg base N qual st f cdv A outer s H E) sc1) sc2 i) T (fun _ => E0) c m n F := fun i c F hc => (G c F hc).b2 hr h i
end
end Fz
set_option Elab.async false
set_option linter.all false
set_option maxRecDepth 100000
set_option maxHeartbeats 4000000
namespace Fz
open PySem L2 PySem.Spec PyProof.Rows
open Sem (wp)
section
variable {prog : Program} {w : World} {K : Type} [DecidableEq K] {knd : HeapKind prog w K} {A : Around} {E : Value → Shared → Prop} {s : Shared} {p q : Addr} {us vs : List (K × Addr × Value)}
theorem alikeH {nm : String} {Q : Bool → Shared → Prop} (sp : (p == sysModules) = false) (sq : (q == sysModules) = false) (dp : s.heap.DictOfH knd p us) (dq : s.heap.DictOfH knd q vs) (hu : knd.room A)
    (hk : us.map (·.1) = vs.map (·.1)) (hv : ∀ (i : Nat) (x y : K × Addr × Value), us[i]? = some x → vs[i]? = some y → SeqAt.EqAt A s x.2.2 y.2.2 true) (done : Q true s) : wpAny (model prog w) A (Builtin.Dict.samePairs nm p q) Q E s := by
  obtain ⟨o1, e1, t1, g1, _, d1, l1, k1, _⟩ := dp
  obtain ⟨o2, e2, t2, g2, _, d2, l2, k2, n2⟩ := dq
  have z1 : e1.size = us.length := size_of_entries l1
  have z2 : e2.size = vs.length := size_of_entries l2
  have zz : us.length = vs.length := by simpa using congrArg List.length hk
  have ez : e1.size = e2.size := by rw [z1, z2, zz]
  unfold Builtin.Dict.samePairs Builtin.Dict.showsAll
  rw [if_neg (by rw [sp]; exact Bool.false_ne_true), if_neg (by rw [sq]; exact Bool.false_ne_true)]
  refine wpAny_bind (wpAny_pure (wpAny_bind (wpAny_pure (wpAny_bind (wpAny_dictEntries g1 d1 ?_)))))
  dsimp only
  refine wpAny_bind (wpAny_dictEntries g2 d2 ?_)
  rw [if_neg (by rw [ez]; simp)]
  refine wpAny_bind (wpAny_dictEpoch g1 d1 (wpAny_bind ?_))
  rw [Std.Legacy.Range.forIn_eq_forIn_range']
  simp only [Std.Legacy.Range.size, Nat.sub_zero, Nat.add_sub_cancel, Nat.div_one]
  refine wpAny_forIn_list _ (fun l z s' => s' = s ∧ z = (none, ()) ∧ ∃ i, l = List.range' i (e1.size - i) ∧ i ≤ e1.size) _ ?_ ?_ _ _ ⟨rfl, rfl, 0, by simp, Nat.zero_le _⟩
  · rintro m l z s' ⟨rfl, rfl, i, hl, hi⟩
    have lt : i < e1.size := by
      apply Classical.byContradiction
      intro h
      rw [show e1.size - i = 0 by omega] at hl
      simp at hl
    obtain ⟨j, hj⟩ : ∃ j, e1.size - i = j + 1 := ⟨e1.size - i - 1, by omega⟩
    rw [hj, List.range'_succ] at hl
    injection hl with hm hl
    subst hm
    have lt1 : m < us.length := by omega
    have lt2 : m < vs.length := by omega
    have a1 : e1[m]? = some (entryOfKey knd us[m]) := by rw [entry_at l1, List.getElem?_eq_getElem lt1]; rfl
    have a2 : e2[m]? = some (entryOfKey knd vs[m]) := by rw [entry_at l2, List.getElem?_eq_getElem lt2]; rfl
    have ke : us[m].1 = vs[m].1 := by
      have : (us.map (·.1))[m]? = (vs.map (·.1))[m]? := by rw [hk]
      simpa [lt1, lt2] using this
    refine wpAny_bind (wpAny_dictEntries g1 d1 ?_)
    rw [a1]
    show wpAny _ _ (holding [Value.ref us[m].2.1, us[m].2.2] _ >>= _) _ _ _
    refine wpAny_bind (wpAny_holding (wpAny_bind ?_))
    show wpAny _ _ (dictFind q (Value.ref us[m].2.1) (knd.hash us[m].1)) _ _ _
    refine wpAny_dictFind_heap hu (k1 _ (List.getElem_mem lt1)) g2 d2 l2 k2 n2 (fun no => ?_) fun n r hr => ?_
    · refine absurd ?_ (no m vs[m].2)
      rw [List.getElem?_eq_getElem lt2, ke]
    · have en : n = m := idxH_unique n2 hr (by rw [List.getElem?_eq_getElem lt2, ke])
      subst en
      refine wpAny_bind (wpAny_dictEntries g2 d2 ?_)
      rw [a2]
      refine wpAny_holding (hv n us[n] vs[n] (List.getElem?_eq_getElem lt1) (List.getElem?_eq_getElem lt2) prog w _ _ ?_)
      show wpAny _ _ (if (!true) = true then _ else _) _ _ _
      rw [if_neg (by decide)]
      refine wpAny_bind (wpAny_dictEpoch g1 d1 ?_)
      rw [if_neg (by simp)]
      exact wpAny_pure ⟨rfl, rfl, n + 1, by rw [hl]; congr 1; omega, lt⟩
  · rintro z s' ⟨rfl, rfl, _⟩
    exact wpAny_pure done
theorem neH {Q : Value → Shared → Prop} (sp : (p == sysModules) = false) (sq : (q == sysModules) = false) (dp : s.heap.DictOfH knd p us) (dq : s.heap.DictOfH knd q vs) (hu : knd.room A.in1) (hl : A.units < cLine)
    (hk : us.map (·.1) = vs.map (·.1)) (hv : ∀ (i : Nat) (x y : K × Addr × Value), us[i]? = some x → vs[i]? = some y → SeqAt.EqAt A.in1 s x.2.2 y.2.2 true) (done : Q (.bool false) s) : wpAny (model prog w) A (compareOp .NotEq (.ref p) (.ref q)) Q E s := by
  refine wpAny_richCompare_same_room (op := .NotEq) dp.typeIs dq.typeIs PySem.F.slot_dict_ne (wpAny_call_entry PySem.F.slot_dict_ne dp.typeIs PySem.F.entry_dict_ne (show wpAny _ _ (Builtin.Dict.dictSlotArgs "__ne__" ⟨[.ref p, .ref q], []⟩ >>= _) _ _ s from wpAny_bind ?_) (PySem.F.args_dict_ne_2 _ _)) hl
  unfold Builtin.Dict.dictSlotArgs
  refine wpAny_bind (wpAny_notOrdered_dict dp.typeIs (show wpAny _ _ (pure (Value.ref p, Value.ref q)) _ _ s from wpAny_pure (wpAny_bind (wpAny_isInstance (T := "dict") dq.typeIs PySem.F.sub_dict_dict ?_))))
  simp only [Bool.not_true, Bool.false_eq_true, if_false]
  refine wpAny_bind (wpAny_pure (wpAny_bind (wpAny_pure (wpAny_bind (alikeH sp sq dp dq hu hk hv ?_)))))
  exact wpAny_pure ⟨_, rfl, (fun x => nomatch x), by simpa using done⟩
end
end Fz
set_option Elab.async false
set_option linter.all false
set_option maxRecDepth 100000
set_option maxHeartbeats 4000000
namespace Fz
open PySem L2 PySem.Spec PyProof.Rows PySem.W
def valsOk : List D → List D → Bool
  | [], [] => true
  | v :: vs, w :: ws => cok v && cok w && same v w && valsOk vs ws
  | _, _ => false
theorem valsOk_get : ∀ {vs ws : List D} {i : Nat} {v w : D}, valsOk vs ws = true → vs[i]? = some v → ws[i]? = some w → cok v = true ∧ cok w = true ∧ same v w = true
  | [], _, i, v, w, _, h, _ => by simp at h
  | _ :: _, [], i, v, w, h, _, _ => by cases h
  | v0 :: vs, w0 :: ws, i, v, w, h, h1, h2 => by
    unfold valsOk at h
    simp only [Bool.and_eq_true] at h
    obtain ⟨⟨⟨a, b⟩, c⟩, d⟩ := h
    cases i with
    | zero =>
      obtain rfl : v0 = v := by simpa using h1
      obtain rfl : w0 = w := by simpa using h2
      exact ⟨a, b, c⟩
    | succ i => exact valsOk_get d (by simpa using h1) (by simpa using h2)
def alikeD : D → D → Bool
  | .dct ks vs, .dct ls ws => decide (ks.map nk = ls.map nk) && ((ks.all keyK && ls.all keyK) || (ks.all tupK && ls.all tupK)) && valsOk vs ws
  | _, _ => false
theorem kreps_nk {T : Tab} {B : Hp} {ks : List D} {xs : List KX} (h : KReps T B ks xs) : ks.map nk = xs.map fun x => some x.nk := by
  have hl := h.length
  apply List.ext_getElem?
  intro i
  rw [List.getElem?_map, List.getElem?_map]
  cases e : xs[i]? with
  | none =>
    have : ks[i]? = none := by
      rw [List.getElem?_eq_none_iff] at e ⊢
      omega
    rw [this]; rfl
  | some x =>
    obtain ⟨d, e1, e2, _⟩ := h.get e
    rw [e1]; show some (nk d) = some (some x.nk); rw [e2]
section
variable {X : Cx} {T : Tab} {pins : List (Addr × Obj)} {σ : L2.St} {B H : Hp} {s : Shared} {A : Around}
theorem eqAt_of (I : Inv X pins σ H s) (hK : X.K = T.K) (e : Ex B H) {d d' : D} {x y : V} {u v : Value} (c1 : cok d = true) (c2 : cok d' = true) (hs : same d d' = true) (r1 : Rep T B d x) (r2 : Rep T B d' y) (u1 : RelV x u) (u2 : RelV y v) (hu : A.in1.units + 64 < cLine) : SeqAt.EqAt A.in1 s u v true := by
  obtain ⟨_, q1⟩ := Dp.reads I (py d) x u (by rw [hK]; exact dp_of e d (cok_plain c1) r1) u1
  obtain ⟨_, q2⟩ := Dp.reads I (py d') y v (by rw [hK]; exact dp_of e d' (cok_plain c2) r2) u2
  have := keq_at q1 q2 (cok_shaped c1 r1) (cok_shaped c2 r2) hu
  rw [show PyData.eqv (py d) (py d') = true from hs] at this
  exact this
theorem hits_of {K : Type} [DecidableEq K] {kb : List (K × Value)} : ∀ {l : List (K × Value)}, (∀ kv ∈ l, ∃ y, valueAt kb kv.1 = some y ∧ SeqAt.EqAt A s kv.2 y true) → KeqHits A s kb l true
  | [], _ => .nil
  | (k, v) :: l, h => by
    obtain ⟨y, h1, h2⟩ := h (k, v) (.head _)
    exact .hit (e := true) (b := true) h1 h2 (hits_of fun kv m => h kv (.tail _ m))
theorem alike_at (I : Inv X pins σ H s) (hK : X.K = T.K) (hw : X.w = T.w) (eB : Ex B H) {d d' : D} {x y : V} (r1 : Rep T B d x) (r2 : Rep T B d' y) (h : alikeD d d' = true) (hu : A.in1.units + 64 < cLine) :
    ∃ a b, x = .ref a ∧ y = .ref b ∧ (a == sysModules) = false ∧ (b == sysModules) = false ∧
      ((∃ (ka kb : List (Key × Value)), s.heap.DictOf (mixKind X.prog X.w) a ka ∧ s.heap.DictOf (mixKind X.prog X.w) b kb ∧ ka.length = kb.length ∧ KeqHits A.in1 s kb ka true) ∨
       ∃ (ka kb : List (NestedKey × Addr × Value)), s.heap.DictOfH (nestedKind X.prog X.w) a ka ∧ s.heap.DictOfH (nestedKind X.prog X.w) b kb ∧ ka.map (·.1) = kb.map (·.1) ∧ ∀ (i : Nat) (x y : NestedKey × Addr × Value), ka[i]? = some x → kb[i]? = some y → SeqAt.EqAt A.in1 s x.2.2 y.2.2 true) := by
  unfold alikeD at h
  split at h
  rotate_left
  · cases h
  rename_i ks vs ls ws
  simp only [Bool.and_eq_true, decide_eq_true_eq] at h
  obtain ⟨⟨hk, hkind⟩, hv⟩ := h
  unfold Rep at r1 r2
  obtain ⟨a, ep, es, rfl, b1, g1, k1, w1⟩ := r1
  obtain ⟨b, ep', es', rfl, b2, g2, k2, w2⟩ := r2
  have c1 := eB _ _ b1
  have c2 := eB _ _ b2
  rw [← hw] at c1 c2
  have kx : T.K.In s.heap := by rw [← hK]; exact I.kIn
  have n1 := kreps_nk k1
  have n2 := kreps_nk k2
  have nn : (es.map (·.1)).map (fun x => x.nk) = (es'.map (·.1)).map (fun x => x.nk) := by
    have h1 : ((es.map (·.1)).map fun x : KX => some x.nk) = (es'.map (·.1)).map fun x : KX => some x.nk := by rw [← n1, ← n2, hk]
    have h2 := congrArg (fun l : List (Option NestedKey) => l.filterMap id) h1
    simpa [List.filterMap_map, Function.comp_def] using h2
  have lens : es.length = es'.length := by simpa using congrArg List.length nn
  have val : ∀ (i : Nat) (p p' : KX × V) (u u' : Value), es[i]? = some p → es'[i]? = some p' → RelV p.2 u → RelV p'.2 u' → SeqAt.EqAt A.in1 s u u' true := by
    intro i p p' u u' h1 h2 q1 q2
    have l1 := w1.length
    have l2 := w2.length
    rw [List.length_map] at l1 l2
    have i1 := (List.getElem?_eq_some_iff.mp h1).1
    have i2 := (List.getElem?_eq_some_iff.mp h2).1
    obtain ⟨v1, e1, t1⟩ := w1.get (i := i) (d := vs[i]'(by omega)) (List.getElem?_eq_getElem (by omega))
    obtain ⟨v2, e2, t2⟩ := w2.get (i := i) (d := ws[i]'(by omega)) (List.getElem?_eq_getElem (by omega))
    rw [List.getElem?_map, h1] at e1
    rw [List.getElem?_map, h2] at e2
    cases e1
    cases e2
    obtain ⟨z1, z2, z3⟩ := valsOk_get hv (i := i) (List.getElem?_eq_getElem (by omega)) (List.getElem?_eq_getElem (by omega))
    exact eqAt_of I hK eB z1 z2 z3 t1 t2 q1 q2 hu
  refine ⟨a, b, rfl, rfl, g1.sm, g2.sm, ?_⟩
  have K1 := KReps.mono eB ks k1
  have K2 := KReps.mono eB ls k2
  rcases (Bool.or_eq_true _ _).mp hkind with hkind | hkind
  · have hkind := (Bool.and_eq_true _ _).mp hkind
    obtain ⟨kvs, va, rfl, r, dd⟩ := dgV I.hok c1 g1 (allV K1 hkind.1)
    obtain ⟨kvs', vb, rfl, r', dd'⟩ := dgV I.hok c2 g2 (allV K2 hkind.2)
    refine .inl ⟨va, vb, dd, dd', ?_, ?_⟩
    · rw [← r.length, ← r'.length]; simpa [ofK] using lens
    · refine hits_of fun kv hm => ?_
      obtain ⟨i, hi⟩ := List.getElem?_of_mem hm
      have ek : va.map (·.1) = vb.map (·.1) := by
        rw [← r.keys, ← r'.keys]
        have h1 : (kvs.map fun kv => (KX.v kv.1).nk) = kvs'.map fun kv => (KX.v kv.1).nk := by simpa [ofK, List.map_map, Function.comp_def] using nn
        have hl : kvs.length = kvs'.length := by simpa using congrArg List.length h1
        apply List.ext_getElem
        · simpa using hl
        · intro j j1 j2
          have h2 : (kvs.map fun kv => (KX.v kv.1).nk)[j]? = (kvs'.map fun kv => (KX.v kv.1).nk)[j]? := by rw [h1]
          simp at j1 j2
          simp [j1, j2] at h2
          simpa using nkK_inj h2
      have li : i < vb.length := by
        have h1 := (List.getElem?_eq_some_iff.mp hi).1
        have h2 : va.length = vb.length := by simpa using congrArg List.length ek
        omega
      have kk : kv.1 = vb[i].1 := by
        have h1 : (va.map (·.1))[i]? = (vb.map (·.1))[i]? := by rw [ek]
        rw [List.getElem?_map, List.getElem?_map, hi, List.getElem?_eq_getElem li] at h1
        simpa using h1
      obtain ⟨_, _, _, _, _, _, _, _, nd⟩ := dd'
      refine ⟨vb[i].2, ?_, ?_⟩
      · rw [kk]; exact valueAt_of_get nd (List.getElem?_eq_getElem li)
      · obtain ⟨p, hp, _, q1⟩ := paired_at r hi
        obtain ⟨p', hp', _, q2⟩ := paired_at r' (List.getElem?_eq_getElem li)
        exact val i (.v p.1, p.2) (.v p'.1, p'.2) kv.2 vb[i].2 (by unfold ofK; rw [List.getElem?_map, hp]; rfl) (by unfold ofK; rw [List.getElem?_map, hp']; rfl) q1 q2
  · have hkind := (Bool.and_eq_true _ _).mp hkind
    obtain ⟨xs, ys, rfl, r, dd⟩ := dgT I.hok kx c1 g1 K1 (allT K1 hkind.1)
    obtain ⟨xs', ys', rfl, r', dd'⟩ := dgT I.hok kx c2 g2 K2 (allT K2 hkind.2)
    refine .inr ⟨ys, ys', dd, dd', ?_, fun i p q h1 h2 => ?_⟩
    · rw [r.keys, r'.keys]
      simpa [ofX, List.map_map, Function.comp_def, KX.nk] using nn
    · obtain ⟨p0, e1, _, _, q1⟩ := r.get h1
      obtain ⟨p1, e2, _, _, q2⟩ := r'.get h2
      exact val i (.t p0.1 p0.2.1, p0.2.2) (.t p1.1 p1.2.1, p1.2.2) _ _ (by unfold ofX; rw [List.getElem?_map, e1]; rfl) (by unfold ofX; rw [List.getElem?_map, e2]; rfl) q1 q2
end
end Fz
set_option Elab.async false
set_option linter.all false
set_option maxRecDepth 100000
set_option maxHeartbeats 4000000
namespace Fz
open PySem L2 PySem.Spec PyProof.Rows PySem.W
def rAl (T : Tab) (b : Bool) : R2 := fun x y H Q => ∃ B d d', Ex B H ∧ Rep T B d x ∧ Rep T B d' y ∧ alikeD d d' = true ∧ Q (.bl b) H
section
variable {X : Cx} {T : Tab}
theorem nroom {prog : Program} {w : World} {A : Around} (h : A.units + 8 < cLine) : (nestedKind prog w).room A := h
theorem op_neG (hK : X.K = T.K) (hw : X.w = T.w) (hu : X.A.units + 65 < cLine) : OpR X (compareOp .NotEq) (rAl T false) := by
  intro pins s σ H x y v u Q I rx ry h
  obtain ⟨B, d, d', eB, r1, r2, hal, q⟩ := h
  obtain ⟨a, b, rfl, rfl, sa, sb, z⟩ := alike_at (A := X.A) I hK hw eB r1 r2 hal (show X.A.units + 1 + 64 < cLine by omega)
  cases rx
  cases ry
  have done : EP X pins σ Q (Value.bool false) s := ⟨.bl false, H, I, rfl, q⟩
  rcases z with ⟨ka, kb, da, db, hl, hits⟩ | ⟨ka, kb, da, db, hk, hv⟩
  · exact keq_ne sa sb da db (by omega) (fun _ => hits) (by rw [hl]; simpa using done)
  · exact neH sa sb da db (nroom (show X.A.units + 1 + 8 < cLine by omega)) (by omega) hk hv done
end
def dNeG (x y : D) : Option D := if alikeD x y = true then some (.bl false) else none
section
variable {ι : Type} {T : Tab} {E : L2.St → XK} {X : ι → Cx} {pos : Pos} {a b : Expr} {fa fb : M D}
theorem p_neG : Prim2 T (rAl T false) dNeG := by
  intro x y z vx vy B H Q e hx hy hz k
  unfold dNeG at hz
  split at hz
  · rename_i h
    cases hz
    exact ⟨B, x, y, e, hx, hy, h, k _ B H (.refl e) rfl⟩
  · cases hz
theorem xt_neG (hu : Rm X) (hK : ∀ j, (X j).K = T.K := by intro j; rfl) (hW : ∀ j, (X j).w = T.w := by intro j; rfl) (ha : XE T E X a fa) (hb : XE T E X b fb) : XT T E X (.Compare a [.NotEq] [b] pos) (eTst (eBin dNeG fa fb)) := xt_cmp (fun j => op_neG (hK j) (hW j) (by have := hu j; omega)) p_neG (nomark _) ha hb
end
theorem XV.of {xs : List (NestedKey × Addr × V)} {ys : List (NestedKey × Addr × Value)} (h : XV xs ys) : XV xs ys := h
end Fz
set_option Elab.async false
set_option linter.all false
set_option maxRecDepth 100000
set_option maxHeartbeats 4000000
namespace Fz
open PySem L2 PySem.Spec PyProof.Rows PySem.W
theorem storedAllH_new {K : Type} [DecidableEq K] : ∀ (ps acc : List (K × Addr × Value)), ((acc ++ ps).map (·.1)).Nodup → storedAllH acc ps = acc ++ ps
  | [], acc, _ => by show acc = acc ++ []; simp
  | p :: ps, acc, h => by
    have hn : p.1 ∉ acc.map (·.1) := fun z => by
      rw [List.map_append] at h
      exact (List.nodup_append.mp h).2.2 _ z _ (by simp) rfl
    have e : storedH acc p.1 p.2.1 p.2.2 = acc ++ [p] := by
      rw [storedH_new (atKey_none_of_get fun j q hj => hn (List.mem_map.mpr ⟨_, List.mem_of_getElem? hj, rfl⟩))]
    show storedAllH (storedH acc p.1 p.2.1 p.2.2) ps = _
    rw [e, storedAllH_new ps (acc ++ [p]) (by simpa using h)]
    simp
section
variable {X : Cx} {T : Tab}
theorem pairsX_of {pins : List (Addr × Obj)} {σ : L2.St} {H : Hp} {s : Shared} (I : Inv X pins σ H s) : ∀ {ts : List Addr} {es : List (NestedKey × Addr × V)}, Paired (fun p x => SqT X.K H p [.ref x.2.1, x.2.2]) ts es →
    ∃ prs : List (NestedKey × Addr × Value), XV es prs ∧ prs.length = ts.length ∧ ∀ (j : Nat) (x : NestedKey × Addr × Value), prs[j]? = some x → ∃ b, ts[j]? = some b ∧ s.heap.IsTuple b #[.ref x.2.1, x.2.2]
  | _, _, .nil => ⟨[], .nil, rfl, fun j x e => by simp at e⟩
  | _, _, .cons (a := p) (b := x) h t => by
    obtain ⟨prs, r, hl, hp⟩ := pairsX_of I t
    obtain ⟨its, rv, ht, _⟩ := I.tuple h
    obtain ⟨u, y, ei, ru, ry⟩ := vals2 rv
    subst ei
    cases (show u = Value.ref x.2.1 from ru)
    refine ⟨(x.1, x.2.1, y) :: prs, .cons ⟨rfl, rfl, ry⟩ r, by simp [hl], fun j q e => ?_⟩
    cases j with
    | zero =>
      cases e
      obtain ⟨o, h1, h2, h3⟩ := ht
      exact ⟨p, rfl, o, h1, h2, h3⟩
    | succ j =>
      obtain ⟨b, e1, e2⟩ := hp j q (by simpa using e)
      exact ⟨b, by simpa using e1, e2⟩
abbrev rDX (T : Tab) : List V → Hp → VK → Prop := fun xs H Q => ∃ (a : Addr) (ts : List Addr) (es : List (NestedKey × Addr × V)), xs = [.ref a] ∧ SqL T.K H a (ts.map V.ref) ∧ Paired (fun p x => SqT T.K H p [.ref x.2.1, x.2.2]) ts es ∧
    (∀ x ∈ es, ∃ d B, Ex B H ∧ Rep T B d (.ref x.2.1) ∧ nk d = some x.1 ∧ KX.isT (.t x.1 x.2.1) = true) ∧ (es.map (·.1)).Nodup ∧ ∀ p ep, H p = none → (p == sysModules) = false → es.length ≤ sizeLine → Q (.ref p) (upd H p (dG T.w p ep (ofX es)))
theorem call_gdictX (hK : X.K = T.K) (hw : X.w = T.w) (hcalm : X.calm = true) (hu : X.A.units + 10 < cLine) : CallR X (.type "dict") (rDX T) := by
  intro pins s σ H xs us Q I r q
  obtain ⟨a, ts, es, ex, hq, hp, hk, nd, q⟩ := q
  subst ex
  obtain ⟨u, eu, rx⟩ := vals1 r
  subst eu
  cases rx
  rw [← hK] at hq hp
  obtain ⟨its, rv, pl, hz⟩ := I.list hq
  have ei := refs_at rv
  subst ei
  rw [List.length_map] at hz
  obtain ⟨prs, rel, hl, hpr⟩ := pairsX_of I hp
  obtain ⟨o, n, ho, hc, hd, hdat⟩ := pl
  have ek := rel.keys
  have nd' : (prs.map (·.1)).Nodup := by rw [ek]; exact nd
  have isk : ∀ h' : Heap, (∀ b o, b ≠ s.heap.objs.size → b ∉ ([] : List Addr) → s.heap.get? b = some o → h'.get? b = some o) → ∀ x ∈ prs, (nestedKind X.prog X.w).is h' x.1 x.2.1 := by
    intro h' hkeep x hx
    obtain ⟨j, hj⟩ := List.getElem?_of_mem hx
    obtain ⟨x0, e0, e1, e2, _⟩ := rel.get hj
    obtain ⟨d, B, eB, rd, nkd, ht⟩ := hk x0 (List.mem_of_getElem? e0)
    have n0 : NestedIs s.heap x0.1 (.ref x0.2.1) := nested_of I.hok (by rw [← hK]; exact I.kIn) d (Rep.mono eB d rd) rfl nkd
    have i0 : (nestedKind X.prog X.w).is s.heap x0.1 x0.2.1 := by
      refine ⟨n0, ?_⟩
      revert ht
      generalize x0.1 = k
      intro ht
      cases k <;> first | exact of_decide_eq_true ht | cases ht
    rw [← e1, ← e2]
    exact nestedKind_stays.stays (fun b o vs n h1 h2 => hkeep b o (fun e => by
      have := Heap.lt_size h1
      rw [e] at this
      exact Nat.lt_irrefl _ this) (by simp) h1) i0
  refine call_dict_pairsH (knd := nestedKind X.prog X.w) (ps := prs) (PairArg.list a _ (fun j => ts.getD j 0) (prs.map fun x => (Value.ref x.2.1, x.2.2))) (I.ok.hd hcalm) (nroom (show X.A.units + 1 + 1 + 8 < cLine by omega)) ⟨⟨o, n, ho, hc, hd, hdat⟩, ?_, ?_⟩ ⟨by simp, ?_⟩ isk (by simpa [hl] using hz) fun h' tk hd' k => ?_
  · simp [hl]
  · intro j k v hj
    rw [List.getElem?_map] at hj
    cases ej : prs[j]? with
    | none => rw [ej] at hj; cases hj
    | some x =>
      rw [ej] at hj
      cases hj
      obtain ⟨b, e1, e2⟩ := hpr j x ej
      refine ⟨by simp [e1], .inl ?_⟩
      simp [e1]; exact e2
  · intro j k v hj
    have hj : (prs.map fun x => (Value.ref x.2.1, x.2.2))[j]? = some (k, v) := hj
    rw [List.getElem?_map] at hj
    cases ej : prs[j]? with
    | none => rw [ej] at hj; cases hj
    | some x => rw [ej] at hj; cases hj; exact ⟨x.1, x.2.1, rfl, rfl⟩
  · rw [storedAllH_new prs [] (by simpa using nd')] at hd'
    have hm : (s.heap.objs.size == sysModules) = false := beq_eq_false_iff_ne.mpr (Nat.ne_of_gt I.big)
    have hlen : es.length ≤ sizeLine := by rw [rel.length, hl]; exact hz
    obtain ⟨ep, ob⟩ := dgX_obj (P := X.prog) (w := X.w) (H' := upd H s.heap.objs.size (.own 0)) rel hd'
    exact ⟨.ref s.heap.objs.size, upd H s.heap.objs.size (dG X.w s.heap.objs.size ep (ofX es)), I.laid (t' := tk) (fun b o e => k b o (by simp) e) (Nat.le_refl _) ob, rfl, by rw [hw]; exact q _ ep (I.hok.fresh (Nat.le_refl _)) hm hlen⟩
end
end Fz
set_option Elab.async false
set_option linter.all false
set_option maxRecDepth 100000
set_option maxHeartbeats 4000000
namespace Fz
open PySem L2 PySem.Spec PyProof.Rows PySem.W
theorem pairsX_reps {T : Tab} {B H : Hp} (eB : Ex B H) : ∀ {ps : List D} {ws : List V} {ks vs : List D}, Reps T B ps ws → pairsD ps = some (ks, vs) → ks.all tupK = true →
    ∃ (es : List (NestedKey × Addr × V)) (ts : List Addr), ws = ts.map V.ref ∧ Paired (fun p x => SqT T.K H p [.ref x.2.1, x.2.2]) ts es ∧ KReps T B ks ((ofX es).map (·.1)) ∧ Reps T B vs (es.map (·.2.2)) ∧
      ∀ x ∈ es, ∃ d B, Ex B H ∧ Rep T B d (.ref x.2.1) ∧ nk d = some x.1 ∧ KX.isT (.t x.1 x.2.1) = true
  | [], ws, ks, vs, h, e, _ => by
    unfold Reps at h
    subst h
    cases e
    exact ⟨[], [], rfl, .nil, (by unfold KReps; rfl), reps_nil, fun x hx => by cases hx⟩
  | p :: ps, ws, ks, vs, h, e, hk => by
    unfold Reps at h
    obtain ⟨y, t, rfl, h1, h2⟩ := h
    obtain ⟨k, r, ks', rs', rfl, rfl, rfl, e'⟩ := pairsD_cons e
    have hk' : tupK k = true ∧ ks'.all tupK = true := by simpa using hk
    obtain ⟨es, ts, l1, l2, l3, l4, l5⟩ := pairsX_reps eB h2 e' hk'.2
    unfold Rep at h1
    obtain ⟨a, ys, rfl, tb, hr⟩ := h1
    obtain ⟨kv, vv, rfl, k1, r1⟩ := reps2 hr
    obtain ⟨key, b, n1, rfl, n2⟩ := tup_of_rep hk'.1 k1
    refine ⟨(key, b, vv) :: es, a :: ts, by rw [l1]; rfl, .cons (eB.tu tb).sq l2, ?_, reps_cons r1 l4, fun x hx => ?_⟩
    · unfold KReps
      exact ⟨.t key b, (ofX es).map (·.1), rfl, ⟨n1, k1⟩, l3⟩
    · rcases List.mem_cons.mp hx with rfl | hx
      · exact ⟨k, B, eB, k1, n1, n2⟩
      · exact l5 x hx
def dctGO (x : D) : Option R := match x with
  | .lst ps => (match pairsD ps with
    | some (ks, vs) => if (ks.all keyK = true ∨ ks.all tupK = true) ∧ (ks.map nk).Nodup then some (.od ks vs) else none
    | none => none)
  | _ => none
def rDctG (f : M D) : M R := bnd f fun x => opt (dctGO x)
theorem semR_dctG {T : Tab} {E : L2.St → XK} {te : TE} {f : M D} (h : SemE T E te f) : SemR T E (tCB (fun xs H Q => rDP T.K T.w xs H Q ∨ rDX T xs H Q) (tCons te tNil)) (rDctG f) := by
  intro st σ B F H S o s hf Q hQ
  rcases bnd_some hf with ⟨c, e1, rfl⟩ | ⟨x, s1, e1, e2⟩
  · exact h st σ B F H S _ _ e1 _ hQ
  · obtain ⟨z, hz, rfl, rfl⟩ := opt_some e2
    unfold dctGO at hz
    split at hz
    · rename_i ps
      split at hz
      · rename_i ks vs e3
        split at hz
        · rename_i hk
          cases hz
          refine h st σ B F H S _ _ e1 _ fun B1 H1 x1 S1 v hv => ?_
          unfold Rep at hv
          obtain ⟨D, ws, rfl, hD, hr⟩ := hv
          rcases hk.1 with hkk | hkk
          · obtain ⟨kvs, ts, rfl, hp, k6, k4⟩ := pairs_reps S1.exB hr e3 hkk
            have nkn := ks_nk k6
            have nd0 : (kvs.map fun kv => some (KX.v kv.1).nk).Nodup := nkn ▸ hk.2
            have nd1 : (kvs.map (·.1)).Nodup := by
              rw [List.nodup_iff_pairwise_ne, List.pairwise_map] at nd0 ⊢
              exact nd0.imp fun {a b} n e => n (by rw [e])
            have mg : mergeK [] kvs = kvs := (mergeK_new (acc := []) (by simpa using nd1)).trans (by simp)
            refine .inl ⟨D, ts, kvs, rfl, S1.exB.sqL hD, hp, fun p ep hn hm hl => ?_⟩
            rw [mg] at hl ⊢
            have vals : (ofK kvs).map (·.2) = kvs.map (·.2) := by unfold ofK; rw [List.map_map]; rfl
            have dg : DGOk p (ofK kvs) := by
              refine ⟨by unfold ofK; rw [List.length_map]; exact hl, hm, ?_, .inl ?_⟩
              · unfold ofK
                rw [List.map_map]
                rw [List.nodup_iff_pairwise_ne, List.pairwise_map] at nd0 ⊢
                exact nd0.imp fun {a b} n e => n (congrArg some e)
              · intro e he
                obtain ⟨kv, _, rfl⟩ := List.mem_map.mp he
                rfl
            exact hQ (.ref p) B1 _ x1 (S1.alloc hn dg_notTup (relR_od ⟨ep, ofK kvs, upd_same, dg, k6, rfl⟩ (by rw [vals]; exact k4)))
          · obtain ⟨es, ts, rfl, hp, k6, k4, k5⟩ := pairsX_reps S1.exB hr e3 hkk
            have nkn := kreps_nk k6
            have nd1 : (es.map (·.1)).Nodup := by
              have nd0 := hk.2
              rw [nkn] at nd0
              unfold ofX at nd0
              rw [List.map_map, List.map_map, List.nodup_iff_pairwise_ne, List.pairwise_map] at nd0
              rw [List.nodup_iff_pairwise_ne, List.pairwise_map]
              exact nd0.imp fun {a b} n e => n (congrArg some e)
            refine .inr ⟨D, ts, es, rfl, S1.exB.sqL hD, hp, k5, nd1, fun p ep hn hm hl => ?_⟩
            have vals : (ofX es).map (·.2) = es.map (·.2.2) := by unfold ofX; rw [List.map_map]; rfl
            have dg : DGOk p (ofX es) := by
              refine ⟨by unfold ofX; rw [List.length_map]; exact hl, hm, ?_, .inr ?_⟩
              · unfold ofX
                rw [List.map_map]
                rw [List.nodup_iff_pairwise_ne, List.pairwise_map] at nd1 ⊢
                exact nd1.imp fun {a b} n e => n e
              · intro e he
                obtain ⟨x, hx, rfl⟩ := List.mem_map.mp he
                obtain ⟨_, _, _, _, _, ht⟩ := k5 x hx
                exact ht
            exact hQ (.ref p) B1 _ x1 (S1.alloc hn dg_notTup (relR_od ⟨ep, ofX es, upd_same, dg, k6, rfl⟩ (by rw [vals]; exact k4)))
        · cases hz
      · cases hz
    · cases hz
theorem xr_dctG {ι : Type} {T : Tab} {E : L2.St → XK} {X : ι → Cx} {e : Expr} {f : M D} {p pos : Pos} (hm : ∀ j, (X j).mg "dict" = none) (hu : Rm X) (h : XE T E X e f) (hK : ∀ j, (X j).K = T.K := by intro j; rfl) (hW : ∀ j, (X j).w = T.w := by intro j; rfl) (hc : ∀ j, (X j).calm = true := by intro j; rfl)
    (hg : ∀ j, Gl (X j) "dict" := by intro j; rfl) (he : ∀ j, starEach [e] (X j).env = (false, eval e (X j).env) :: starEach [] (X j).env := by intro j; rfl)
    (hpl : ∀ j, (backTo pos (starEach [] (X j).env)).any (·.1) = false := by intro j; rfl) : XR T E X (.Call (.Name "dict" p) [e] [] pos) (rDctG f) := by
  obtain ⟨_, a1, a2⟩ := h
  refine ⟨_, fun j => ?_, semR_dctG a2⟩
  have c1 := call_gdictP (X := X j) (hc j)
  rw [hK j, hW j] at c1
  have c2 := call_gdictX (X := X j) (T := T) (hK j) (hW j) (hc j) (by have := hu j; omega)
  exact pe_callTy (c1.or c2) (hg j) (hm j) (by decide +kernel) (pa_cons (a1 j) pa_nil (he j)) (by decide +kernel) (by decide +kernel) (he j) (hpl j)
theorem dctGO_of {ps ks vs : List D} (h : pairsD ps = some (ks, vs)) (hk : ks.all keyK = true ∨ ks.all tupK = true) (hn : (ks.map nk).Nodup) : dctGO (.lst ps) = some (.od ks vs) := by
  unfold dctGO
  simp only [h]
  exact if_pos ⟨hk, hn⟩
def kDctG (Q : Oc R → Sl → Prop) : Oc D → Sl → Prop := vx Q fun x s => wo (dctGO x) (kr Q s)
theorem kDctG_v {Q : Oc R → Sl → Prop} {x : D} {s : Sl} : kDctG Q (.v x) s = wo (dctGO x) (kr Q s) := rfl
theorem kDctG_x {Q : Oc R → Sl → Prop} {c : Nat} {s : Sl} : kDctG Q (.x c) s = Q (.x c) s := rfl
theorem n_rDctG {f : M D} {st : Sl} {Q : Oc R → Sl → Prop} : wp (rDctG f) st Q = wp f st (kDctG Q) := by
  unfold rDctG kDctG; rw [wp_bnd]; simp only [wp_opt]; rfl
end Fz
set_option Elab.async false
set_option linter.all false
set_option maxRecDepth 100000
set_option maxHeartbeats 4000000
namespace Fz
open PySem L2 PySem.Spec PyProof.Rows PySem.W
mutual
theorem Ow.on {T : Tab} {B H H' : Hp} (tk : Tk H H') : ∀ {r : R} {v : V} {a : Addr}, RelR T B H r v → (∀ p o, Ow H r v p → H p = some o → H' p = some o) → Ow H r v a → Ow H' r v a
  | .d x, v, a, h, k, o => by unfold Ow at o ⊢; exact o
  | .ol xs, v, a, h, k, o => by unfold Ow at o ⊢; exact o
  | .oi c fs, v, a, h, k, o => by unfold Ow at o ⊢; exact o
  | .od ks vs, v, a, h, k, o => by unfold Ow at o ⊢; exact o
  | .nl cs, v, a, h, k, o => by
    unfold RelR at h
    unfold Ow at o ⊢
    obtain ⟨b, ys, h1, h2, h3, _⟩ := h
    rcases o with o | ⟨p, xs, o1, o2, o3⟩
    · exact .inl o
    · rw [h1] at o1
      cases o1
      cases HeldAt.inj (.inl h2) o2
      exact .inr ⟨b, ys, h1, o2.keep fun o z => k b o (by unfold Ow; exact .inl h1) z, OwL.on tk h3 (fun p o z => k p o (by unfold Ow; exact .inr ⟨b, ys, h1, o2, z⟩)) o3⟩
  | .nt cs, v, a, h, k, o => by
    unfold RelR at h
    unfold Ow at o ⊢
    obtain ⟨b, ys, h1, h2, h3⟩ := h
    obtain ⟨p, xs, o1, o2, o3⟩ := o
    rw [h1] at o1
    cases o1
    cases HeldAt.inj (.inr (.inl h2.2)) o2
    exact ⟨b, ys, h1, .inr (.inl (tk b _ h2.2)), OwL.on tk h3 (fun p o z => k p o (by unfold Ow; exact ⟨b, ys, h1, o2, z⟩)) o3⟩
  | .ni c cs, v, a, h, k, o => by
    unfold RelR at h
    unfold Ow at o ⊢
    obtain ⟨b, dx, fvs, h1, h2, _, h3, _⟩ := h
    rcases o with o | ⟨p, xs, o1, o2, o3⟩
    · exact .inl o
    · rw [h1] at o1
      cases o1
      cases HeldAt.inj (.inr (.inr (.inl ⟨_, _, _, h2, rfl⟩))) o2
      exact .inr ⟨b, _, h1, o2.keep fun o z => k b o (by unfold Ow; exact .inl h1) z, OwL.on tk h3 (fun p o z => k p o (by unfold Ow; exact .inr ⟨b, _, h1, o2, z⟩)) o3⟩
  | .nd ks cs, v, a, h, k, o => by
    unfold RelR at h
    unfold Ow at o ⊢
    obtain ⟨b, ys, h1, h2, h3, _⟩ := h
    rcases o with o | ⟨p, xs, o1, o2, o3⟩
    · exact .inl o
    · rw [h1] at o1
      cases o1
      cases HeldAt.inj h2.held o2
      exact .inr ⟨b, ys, h1, o2.keep fun o z => k b o (by unfold Ow; exact .inl h1) z, OwL.on tk h3 (fun p o z => k p o (by unfold Ow; exact .inr ⟨b, ys, h1, o2, z⟩)) o3⟩
theorem OwL.on {T : Tab} {B H H' : Hp} (tk : Tk H H') : ∀ {rs : List R} {vs : List V} {a : Addr}, RelRs T B H rs vs → (∀ p o, OwL H rs vs p → H p = some o → H' p = some o) → OwL H rs vs a → OwL H' rs vs a
  | [], vs, a, h, k, o => by unfold OwL at o ⊢; exact o
  | r :: rs, vs, a, h, k, o => by
    unfold RelRs at h
    unfold OwL at o ⊢
    obtain ⟨y, t, h1, h2, h3, _⟩ := h
    obtain ⟨y', t', o1, o2⟩ := o
    rw [h1] at o1
    cases o1
    refine ⟨y, t, h1, ?_⟩
    rcases o2 with o2 | o2
    · exact .inl (Ow.on tk h2 (fun p o z => k p o (by unfold OwL; exact ⟨y, t, h1, .inl z⟩)) o2)
    · exact .inr (OwL.on tk h3 (fun p o z => k p o (by unfold OwL; exact ⟨y, t, h1, .inr z⟩)) o2)
end
def KeepE (T : Tab) (i : Nat) (te : TE) (f : M D) : Prop := ∀ st σ B F H r v, Sim T st σ B F H → st[i]? = some (some r) → σ[i]? = some (some v) → ∀ x s, f st = some (.v x, s) → ∀ Q : VK,
  (∀ B' H' u, Ex B B' → Sim T s σ B' F H' → s[i]? = some (some r) → Tk H H' → (∀ b o, Ow H r v b → H b = some o → H' b = some o) → Rep T B' x u → Q u H') → te σ H Q
def eHid (i : Nat) (f : M D) : M D := fun st => match st[i]? with
  | some (some r) => (match f (st.set i none) with
    | some (.v x, s) => some (.v x, s.set i (some r))
    | _ => none)
  | _ => none
section
variable {T : Tab} {E : L2.St → XK} {i : Nat} {te ta tb : TE} {tr : TA} {f fa fb : M D} {fs : M (List D)}
theorem keepE_hid (h : SemE T E te f) : KeepE T i te (eHid i f) := by
  intro st σ B F H r v S hi hv x s e Q hQ
  unfold eHid at e
  rw [hi] at e
  simp only at e
  split at e
  · rename_i y s0 e0
    cases e
    refine h _ σ B _ H (S.hid hi hv) _ _ e0 Q fun B' H' ex S' u hu => ?_
    obtain ⟨U, tk, k⟩ := S.unhid hi hv ex S'
    refine hQ B' H' u ex U ?_ tk k hu
    rw [List.getElem?_set_self]
    have := S.len
    have l1 := (List.getElem?_eq_some_iff.mp hv).1
    have l2 := S'.len
    omega
  · cases e
theorem keepE_full (h : SemE T E te f) : KeepE T i te (eFull (fun c => (T.flds c).length) f) := by
  intro st σ B F H r v S hi hv x s e Q hQ
  unfold eFull at e
  split at e
  · rename_i y s0 e0
    split at e
    · rename_i im
      cases e
      refine h _ σ (noT T H) _ H S.full _ _ e0 Q fun B1 H1 x1 S1 u hu => ?_
      obtain ⟨b1, b2, b3⟩ := S.back (x1.trans S1.exB) S1.tbs S1.exB
      exact hQ _ H1 u b1 b2 hi (S.tkB (x1.trans S1.exB)) (fun b o z q => S.atB (x1.trans S1.exB) q (S.ntb hi hv z o q)) (imm_rep (fun a xs z => b3 a xs (S1.exB a _ z)) x im hu)
    · cases e
  · cases e
  · cases e
theorem keep_seq {st s1 s2 : Sl} {σ : L2.St} {B F H B1 H1 B2 H2 : Hp} {r : R} {v : V} (S : Sim T st σ B F H) (hi : st[i]? = some (some r)) (hv : σ[i]? = some (some v)) (t1 : Tk H H1) (k1 : ∀ b o, Ow H r v b → H b = some o → H1 b = some o) (t2 : Tk H1 H2) (k2 : ∀ b o, Ow H1 r v b → H1 b = some o → H2 b = some o) :
    Tk H H2 ∧ ∀ b o, Ow H r v b → H b = some o → H2 b = some o := by
  obtain ⟨v', hv', rel⟩ := S.rel i r hi
  rw [hv] at hv'
  cases hv'
  exact ⟨fun a xs h => t2 a xs (t1 a xs h), fun b o z h => k2 b o (Ow.on t1 rel k1 z) (k1 b o z h)⟩
theorem keepE_op {rr : R2} {g : D → D → Option D} (hr : Prim2 T rr g) (ha : KeepE T i ta fa) (hb : KeepE T i tb fb) : KeepE T i (tOp rr ta tb) (eBin g fa fb) := by
  intro st σ B F H r v S hi hv x s e Q hQ
  unfold eBin at e
  rcases bnd_some e with ⟨c, _, z⟩ | ⟨a, s1, e1, e⟩
  · cases z
  rcases bnd_some e with ⟨c, _, z⟩ | ⟨b, s2, e2, e⟩
  · cases z
  obtain ⟨z, hz, q1, q2⟩ := opt_some e
  cases q1
  subst q2
  refine ha st σ B F H r v S hi hv a s1 e1 _ fun B1 H1 u x1 S1 hi1 t1 k1 hu => ?_
  refine hb s1 σ B1 F H1 r v S1 hi1 hv b _ e2 _ fun B2 H2 w x2 S2 hi2 t2 k2 hw => ?_
  obtain ⟨t3, k3⟩ := keep_seq S hi hv t1 k1 t2 k2 (s1 := s1) (s2 := s) (B1 := B1) (B2 := B2) (F := F)
  refine hr a b x u w B2 H2 Q S2.exB (Rep.mono x2 a hu) hw hz fun u3 B3 H3 e3 h3 => ?_
  exact hQ B3 H3 u3 ((x1.trans x2).trans e3.b) (S2.ext e3) hi2 (fun a xs h => e3.h a _ (t3 a xs h)) (fun b o z h => e3.h b o (k3 b o z h)) h3
theorem keepA_cons (ha : KeepE T i te f) (hb : KeepArgs T i tr fs) : KeepArgs T i (tCons te tr) (eCons f fs) := by
  intro st σ B F H r v S hi hv xs s e Q hQ
  unfold eCons at e
  rcases bnd_some e with ⟨c, _, z⟩ | ⟨a, s1, e1, e⟩
  · cases z
  rcases bnd_some e with ⟨c, _, z⟩ | ⟨b, s2, e2, e⟩
  · cases z
  cases e
  refine ha st σ B F H r v S hi hv a s1 e1 _ fun B1 H1 u x1 S1 hi1 t1 k1 hu => ?_
  refine hb s1 σ B1 F H1 r v S1 hi1 hv b _ e2 _ fun B2 H2 us x2 S2 hi2 t2 k2 hus => ?_
  obtain ⟨t3, k3⟩ := keep_seq S hi hv t1 k1 t2 k2 (s1 := s1) (s2 := s) (B1 := B1) (B2 := B2) (F := F)
  exact hQ B2 H2 _ (x1.trans x2) S2 hi2 t3 k3 (reps_cons (Rep.mono x2 a hu) hus)
end
section
variable {ι : Type} {T : Tab} {E : L2.St → XK} {X : ι → Cx} {i : Nat} {pos : Pos} {e a b : Expr} {es : List Expr} {f fa fb : M D} {fs : M (List D)}
def XKE (T : Tab) (E : L2.St → XK) (X : ι → Cx) (i : Nat) (e : Expr) (f : M D) : Prop := ∃ te, (∀ j, PE (X j) e te) ∧ KeepE T i te f
theorem xke_hid (h : XE T E X e f) : XKE T E X i e (eHid i f) := let ⟨_, a1, a2⟩ := h; ⟨_, a1, keepE_hid a2⟩
theorem xke_full (h : XE T E X e f) : XKE T E X i e (eFull (fun c => (T.flds c).length) f) := let ⟨_, a1, a2⟩ := h; ⟨_, a1, keepE_full a2⟩
theorem xke_mod (ha : XKE T E X i a fa) (hb : XKE T E X i b fb) : XKE T E X i (.BinOp a .Mod b pos) (eBin dMod fa fb) :=
  let ⟨_, a1, a2⟩ := ha; let ⟨_, b1, b2⟩ := hb; ⟨_, fun j => pe_op op_mod (a1 j) (b1 j), keepE_op p_mod a2 b2⟩
theorem xka_cons (ha : XKE T E X i e f) (hb : XKA T E X i es fs) (hs : ∀ j, starEach (e :: es) (X j).env = (false, eval e (X j).env) :: starEach es (X j).env := by intro j; rfl) : XKA T E X i (e :: es) (eCons f fs) :=
  let ⟨_, a1, a2⟩ := ha; let ⟨_, b1, b2⟩ := hb; ⟨_, fun j => pa_cons (a1 j) (b1 j) (hs j), keepA_cons a2 b2⟩
theorem xka_nil : XKA T E X i [] aNo := ⟨_, fun j => pa_nil, keep_no⟩
end
section
variable {i : Nat} {st s : Sl} {f : M D} {Q : Oc D → Sl → Prop}
def kHe2 (i : Nat) (r : R) (Q : Oc D → Sl → Prop) : Oc D → Sl → Prop := va fun x s => Q (.v x) (stt s i (some r))
theorem kHe2_v {r : R} {x : D} : kHe2 i r Q (.v x) s = Q (.v x) (stt s i (some r)) := rfl
def kHe1 (i : Nat) (f : M D) (st : Sl) (Q : Oc D → Sl → Prop) : R → Prop := fun r => wpe f (stt st i none) (kHe2 i r Q)
theorem kHe1_a {r : R} : kHe1 i f st Q r = wpe f (stt st i none) (kHe2 i r Q) := rfl
theorem n_eHid : wp (eHid i f) st Q = wsl (gt st i) (kHe1 i f st Q) := by
  apply propext
  rw [wp_iff, wsl_eq, ← gt_eq]
  constructor
  · rintro ⟨o, s, e, h⟩
    unfold eHid at e
    split at e
    · rename_i r hr
      split at e
      · rename_i xs s' e'
        cases e
        refine ⟨r, hr, wp_iff.mpr ⟨.v xs, s', by rw [← stt_eq]; exact e', ?_⟩⟩
        show Q (.v xs) (stt s' i (some r))
        rw [← stt_eq]; exact h
      · cases e
    · cases e
  · rintro ⟨r, hr, h⟩
    obtain ⟨o, s, e, h⟩ := wp_iff.mp h
    cases o with
    | x c => exact h.elim
    | v xs =>
      have h : Q (.v xs) (stt s i (some r)) := h
      refine ⟨.v xs, s.set i (some r), ?_, by rw [stt_eq]; exact h⟩
      unfold eHid
      rw [hr]
      simp only
      rw [stt_eq, e]
end
end Fz
set_option linter.all false
namespace FzQ
def put (F : List Nat) (t : Nat) : List Nat := if t ∈ F then F else F ++ [t]
def ext (F ts : List Nat) : List Nat := ts.foldl put F
theorem ext_nil (F : List Nat) : ext F [] = F := rfl
theorem ext_cons (F : List Nat) (t : Nat) (ts : List Nat) : ext F (t :: ts) = ext (put F t) ts := rfl
theorem put_nodup {F : List Nat} (h : F.Nodup) (t : Nat) : (put F t).Nodup := by
  unfold put
  split
  · exact h
  · rename_i ht
    exact List.nodup_append.mpr ⟨h, by simp, fun a ha b hb => by
      rw [List.mem_singleton] at hb
      subst hb
      exact fun e => ht (e ▸ ha)⟩
theorem mem_put {F : List Nat} {t x : Nat} : x ∈ put F t ↔ x ∈ F ∨ x = t := by
  unfold put
  split
  · rename_i h
    constructor
    · exact .inl
    · rintro (h' | rfl)
      · exact h'
      · exact h
  · simp
theorem ext_nodup : ∀ {ts F : List Nat}, F.Nodup → (ext F ts).Nodup
  | [], _, h => h
  | t :: ts, _, h => ext_nodup (ts := ts) (put_nodup h t)
theorem mem_ext : ∀ {ts F : List Nat} {x : Nat}, x ∈ ext F ts ↔ x ∈ F ∨ x ∈ ts
  | [], F, x => by rw [ext_nil]; simp
  | t :: ts, F, x => by
    rw [ext_cons, mem_ext, mem_put, List.mem_cons, or_assoc]
theorem len_le : ∀ {m : Nat} {F : List Nat}, F.Nodup → (∀ x ∈ F, x < m) → F.length ≤ m
  | 0, F, _, b => by
    cases F with
    | nil => exact Nat.le_refl _
    | cons x F => exact absurd (b x (.head _)) (Nat.not_lt_zero _)
  | m + 1, F, h, b => by
    have := len_le (m := m) (F := F.erase m) (h.erase m) fun x hx => by
      have h1 := (h.mem_erase_iff).mp hx
      have h2 := b x h1.2
      omega
    have h2 := List.length_erase (a := m) (l := F)
    split at h2 <;> omega
def comeN (g : Nat → List Nat) : Nat → List Nat → Nat → List Nat
  | 0, F, _ => F
  | n + 1, F, i => if h : i < F.length then comeN g n (ext F (g F[i])) (i + 1) else F
def fin (g : Nat → List Nat) (m : Nat) (S : List Nat) : List Nat := comeN g (m + 1) (ext [] S) 0
theorem comeN_step {g : Nat → List Nat} {n i : Nat} {F : List Nat} (h : i < F.length) : comeN g (n + 1) F i = comeN g n (ext F (g F[i])) (i + 1) := dif_pos h
theorem comeN_end {g : Nat → List Nat} {n i : Nat} {F : List Nat} (h : ¬ i < F.length) : comeN g (n + 1) F i = F := dif_neg h
theorem comeN_nodup {g : Nat → List Nat} : ∀ {n i : Nat} {F : List Nat}, F.Nodup → (comeN g n F i).Nodup
  | 0, _, _, h => h
  | n + 1, i, F, h => by
    unfold comeN
    split
    · exact comeN_nodup (ext_nodup h)
    · exact h
theorem comeN_lt {g : Nat → List Nat} {m : Nat} (hg : ∀ k, k < m → ∀ x ∈ g k, x < m) : ∀ {n i : Nat} {F : List Nat}, (∀ x ∈ F, x < m) → ∀ x ∈ comeN g n F i, x < m
  | 0, _, _, h => h
  | n + 1, i, F, h => by
    unfold comeN
    split
    · rename_i hi
      exact comeN_lt hg fun x hx => (mem_ext.mp hx).elim (h x) (hg _ (h _ (List.getElem_mem hi)) x)
    · exact h
theorem fin_nodup {g : Nat → List Nat} {m : Nat} {S : List Nat} : (fin g m S).Nodup := comeN_nodup (ext_nodup List.nodup_nil)
theorem fin_lt {g : Nat → List Nat} {m : Nat} (hg : ∀ k, k < m → ∀ x ∈ g k, x < m) {S : List Nat} (hS : ∀ x ∈ S, x < m) : ∀ x ∈ fin g m S, x < m :=
  comeN_lt hg fun x hx => (mem_ext.mp hx).elim (fun h => by cases h) (hS x)
end FzQ
set_option Elab.async false
set_option linter.all false
set_option maxRecDepth 100000
set_option maxHeartbeats 0
namespace K41
open PySem L2 PySem.Spec PyProof.Rows Fz
abbrev N_reached : List Str := ["graph", "starts", "found", "start", "waiting", "at", "target", "rung"]
abbrev P_reached : List Str := ["graph", "starts"]
theorem sc_reached : FnScope N_reached P_reached (defScope s_reached) := ⟨rfl, rfl, rfl, by decide +kernel, rfl, by decide +kernel, by decide +kernel⟩
abbrev N__law_begin : List Str := ["_law_script"]
abbrev P__law_begin : List Str := ["_law_script"]
theorem sc__law_begin : FnScope N__law_begin P__law_begin (defScope s__law_begin) := ⟨rfl, rfl, rfl, by decide +kernel, rfl, by decide +kernel, by decide +kernel⟩
abbrev N__law_next : List Str := ["_law_state", "_law_cell"]
abbrev P__law_next : List Str := ["_law_state"]
theorem sc__law_next : FnScope N__law_next P__law_next (defScope s__law_next) := ⟨rfl, rfl, rfl, by decide +kernel, rfl, by decide +kernel, by decide +kernel⟩
abbrev N__law_nodes : List Str := ["_law_state", "_law_many", "_law_way", "_law_base", "_law_found", "_law_k"]
abbrev P__law_nodes : List Str := ["_law_state", "_law_many"]
theorem sc__law_nodes : FnScope N__law_nodes P__law_nodes (defScope s__law_nodes) := ⟨rfl, rfl, rfl, by decide +kernel, rfl, by decide +kernel, by decide +kernel⟩
abbrev N__law_rung : List Str := ["_law_state", "_law_bells", "_law_kind", "_law_bell"]
abbrev P__law_rung : List Str := ["_law_state", "_law_bells"]
theorem sc__law_rung : FnScope N__law_rung P__law_rung (defScope s__law_rung) := ⟨rfl, rfl, rfl, by decide +kernel, rfl, by decide +kernel, by decide +kernel⟩
abbrev N__law_graph : List Str := ["_law_state", "_law_many", "_law_most", "_law_bells", "_law_nodes_here", "_law_graph_here", "_law_order", "_law_node", "_law_near", "_law_steps", "_law_turn", "_law_at"]
abbrev P__law_graph : List Str := ["_law_state", "_law_many", "_law_most", "_law_bells"]
theorem sc__law_graph : FnScope N__law_graph P__law_graph (defScope s__law_graph) := ⟨rfl, rfl, rfl, by decide +kernel, rfl, by decide +kernel, by decide +kernel⟩
abbrev N__law_starts : List Str := ["_law_state", "_law_graph_here", "_law_some", "_law_k"]
abbrev P__law_starts : List Str := ["_law_state", "_law_graph_here"]
theorem sc__law_starts : FnScope N__law_starts P__law_starts (defScope s__law_starts) := ⟨rfl, rfl, rfl, by decide +kernel, rfl, by decide +kernel, by decide +kernel⟩
abbrev N__law_come : List Str := ["_law_graph_here", "_law_starts_here", "_law_found", "_law_one", "_law_at", "_law_target", "_law_peal"]
abbrev P__law_come : List Str := ["_law_graph_here", "_law_starts_here"]
theorem sc__law_come : FnScope N__law_come P__law_come (defScope s__law_come) := ⟨rfl, rfl, rfl, by decide +kernel, rfl, by decide +kernel, by decide +kernel⟩
abbrev N_law : List Str := ["_law_script", "_law_state", "_law_many", "_law_graph_here", "_law_starts_here", "_law_due", "_law_handed", "_law_given", "_law_found", "_law_node", "_law_steps"]
abbrev P_law : List Str := ["_law_script"]
theorem sc_law : FnScope N_law P_law (defScope s_law) := ⟨rfl, rfl, rfl, by decide +kernel, rfl, by decide +kernel, by decide +kernel⟩
def clsN : Nat → Str
  | _ => ""
def flds : Nat → List Str
  | _ => []
abbrev nf : Nat → Nat := fun c => (flds c).length
abbrev tb (w : World) (K : PySem.W.Frag) : Tab := { K := K, cls := fun c => He.ga K (clsN c), flds := flds, xo := xoT K clsN, w := w }
abbrev k0 : Nat → Bool := fun i => i == 0
abbrev kNo : Nat → Bool := fun _ => false
def b_reached : MS := (sSeq (sSet 2 rDct0) (sSeq (sFor (iLst (eVar 1)) (gN 3) (sDrop (rD (eMut 2 (pName 2) (aHid 2 (eCons (eVar 3) (eCons (ret (.bl true)) eNil))) opSetd)))) (sSeq (sSet 4 (rFull nf (rOp gListD (eCons (eVar 2) eNil)))) (sSeq (sSet 5 (rD (ret (.int 0)))) (sSeq (whileL (tFull nf (eTst (eBin dLt (eVar 5) (eOp dLen (eCons (eVar 4) eNil))))) (sSeq (sFor (iSeq (eBin dIxD (eVar 0) (eIxO 4 (eVar 5)))) (gT 2 (gsC (gN 6) (gsC (gN 7) gsN))) (sIf (tFull nf (eTst (eBin dNotInD (eVar 6) (eVar 2)))) (sSeq (sSetA nf 2 (pName 2) (eVar 6) (rD (ret (.bl true)))) (sApp' 4 (eVar 6))) sNext)) (sAug 5 dAddIS (ret (.int 1)))) 100) (sRet (rMv 4)))))))
def F_reached : Fn := fnOf 2 8 kNo b_reached
def b__law_begin : MS := (sRet (rLst (eCons (eBin dAdd (eOp dLen (eCons (eVar 0) eNil)) (ret (.int 7))) (eCons (eVar 0) (eCons (ret (.int 0)) eNil)))))
def F__law_begin : Fn := fnOf 1 1 kNo b__law_begin
def b__law_next : MS := (sSeq (sSet 1 (rD (ret (.int 0)))) (sSeq (sIf (eTst (eBin dGt (eOp dLen (eCons (eIxO 0 (ret (.int 1))) eNil)) (ret (.int 0)))) (sSet 1 (rD (eBin dIx (eIxO 0 (ret (.int 1))) (eBin dMod (eIxO 0 (ret (.int 2))) (eOp dLen (eCons (eIxO 0 (ret (.int 1))) eNil)))))) sNext) (sSeq (sSub 0 (ret (.int 2)) (eBin dAdd (eIxO 0 (ret (.int 2))) (ret (.int 1)))) (sSeq (sSub 0 (ret (.int 0)) (eBin dMod (eBin dAdd (eBin dAdd (eBin dMul (eIxO 0 (ret (.int 0))) (ret (.int 48271))) (eVar 1)) (eIxO 0 (ret (.int 2)))) (ret (.int 2147483647)))) (sRet (rD (eBin dMod (eBin dAdd (eBin dMul (eIxO 0 (ret (.int 0))) (eIxO 0 (ret (.int 0)))) (eBin dMul (ret (.int 16807)) (eIxO 0 (ret (.int 0))))) (ret (.int 2147483629)))))))))
def F__law_next : Fn := fnOf 1 2 k0 b__law_next
def b__law_nodes : MS := (sSeq (sSet 2 (rD (eBin dMod (eFz nf (rCall 1 F__law_next [] (aO 0 aNil))) (ret (.int 4))))) (sSeq (sSet 3 (rD (eBin dMod (eFz nf (rCall 1 F__law_next [] (aO 0 aNil))) (ret (.int 50))))) (sSeq (sSet 4 (rLst eNil)) (sSeq (sFor (iR1 (eCons (eVar 1) eNil)) (gN 5) (sApp' 4 (eBin dIx (eFz nf (rLst (eCons (eBin dAdd (eVar 3) (eVar 5)) (eCons (eBin dAdd (ret (.str "n")) (eOp dStr (eCons (eBin dAdd (eVar 3) (eVar 5)) eNil))) (eCons (eTup (eCons (ret (.str "p")) (eCons (eBin dAdd (eVar 3) (eVar 5)) eNil))) (eCons (eTup (eCons (eVar 3) (eCons (eTup (eCons (eBin dAdd (ret (.str "q")) (eOp dStr (eCons (eVar 5) eNil))) eNil)) eNil))) eNil)))))) (eVar 2)))) (sRet (rMv 4))))))
def F__law_nodes : Fn := fnOf 2 6 k0 b__law_nodes
def b__law_rung : MS := (sSeq (sSet 2 (rD (eBin dMod (eFz nf (rCall 1 F__law_next [] (aO 0 aNil))) (ret (.int 6))))) (sSeq (sIf (cOr (eTst (eBin dEq (eVar 1) (ret (.int 0)))) (eTst (eBin dLt (eVar 2) (ret (.int 3))))) (sRet (rD (eTup eNil))) sNext) (sSeq (sIf (eTst (eBin dLt (eVar 2) (ret (.int 5)))) (sRet (rD (eTup (eCons (eBin dMod (eFz nf (rCall 1 F__law_next [] (aO 0 aNil))) (eVar 1)) eNil)))) sNext) (sRet (rD (eOp dTuple (eCons (eFz nf (rLc (iR1 (eCons (eVar 1) eNil)) (gN 3) (eTst (eBin dEq (eBin dMod (eFz nf (rCall 1 F__law_next [] (aO 0 aNil))) (ret (.int 2))) (ret (.int 1)))) (eVar 3) [3])) eNil)))))))
def F__law_rung : Fn := fnOf 2 4 k0 b__law_rung
def b__law_graph : MS := (sSeq (sSet 4 (rCall 2 F__law_nodes [] (aO 0 (aV (eVar 1) aNil)))) (sSeq (sSet 5 rDct0) (sSeq (sSet 6 (rLst eNil)) (sSeq (sFor (iLst (eVar 4)) (gN 7) (sDrop (rD (eMut 6 (pName 6) (eCons (eBin dMod (eHid 6 (eFz nf (rCall 1 F__law_next [] (aO 0 aNil)))) (eFull nf (eBin dAdd (eOp dLen (eCons (eVar 6) eNil)) (ret (.int 1))))) (eCons (eHid 6 (eVar 7)) aNo)) opIns)))) (sSeq (sSet 8 (rD (eBin dMod (eFz nf (rCall 1 F__law_next [] (aO 0 aNil))) (ret (.int 3))))) (sSeq (sFor (iLst (eVar 6)) (gN 7) (sSeq (sSet 9 (rLst eNil)) (sSeq (sFor (iR1 (eCons (eBin dMod (eFz nf (rCall 1 F__law_next [] (aO 0 aNil))) (eBin dAdd (eVar 2) (ret (.int 1)))) eNil)) (gN 10) (sSeq (sSet 11 (rD (eBin dMod (eFz nf (rCall 1 F__law_next [] (aO 0 aNil))) (eVar 1)))) (sSeq (sIf (cAnd (eTst (eBin dGt (eVar 8) (ret (.int 0)))) (eTst (eBin dLt (eBin dMod (eFz nf (rCall 1 F__law_next [] (aO 0 aNil))) (ret (.int 4))) (ret (.int 3))))) (sSet 11 (rD (eBin dMod (eBin dAdd (eBin dAdd (eMt "list" dLIndex (eVar 4) (eCons (eVar 7) eNil)) (ret (.int 1))) (eBin dMod (eFz nf (rCall 1 F__law_next [] (aO 0 aNil))) (eVar 8))) (eVar 1)))) sNext) (sApp' 9 (eTup (eCons (eBin dIx (eVar 4) (eVar 11)) (eCons (eFz nf (rCall 2 F__law_rung [] (aO 0 (aV (eVar 3) aNil)))) eNil))))))) (sSetA nf 5 (pName 5) (eVar 7) (rMv 9))))) (sRet (rD (eVarO nf 5)))))))))
def F__law_graph : Fn := fnOf 4 12 k0 b__law_graph
def b__law_starts : MS := (sSeq (sSet 2 (rOp gListD (eCons (eVar 1) eNil))) (sRet (rLc (iR1 (eCons (eBin dAdd (ret (.int 1)) (eBin dMod (eFz nf (rCall 1 F__law_next [] (aO 0 aNil))) (ret (.int 3)))) eNil)) (gN 3) cYes (eBin dIx (eVar 2) (eBin dMod (eFz nf (rCall 1 F__law_next [] (aO 0 aNil))) (eOp dLen (eCons (eVar 2) eNil)))) [3])))
def F__law_starts : Fn := fnOf 2 4 k0 b__law_starts
def b__law_come : MS := (sSeq (sSet 2 (rLst eNil)) (sSeq (sFor (iLst (eVar 1)) (gN 3) (sIf (tFull nf (eTst (eBin dNotIn (eVar 3) (eVar 2)))) (sApp' 2 (eVar 3)) sNext)) (sSeq (sSet 4 (rD (ret (.int 0)))) (sSeq (whileL (tFull nf (eTst (eBin dLt (eVar 4) (eOp dLen (eCons (eVar 2) eNil))))) (sSeq (sFor (iSeq (eBin dIxD (eVar 0) (eIxO 2 (eVar 4)))) (gT 2 (gsC (gN 5) (gsC (gN 6) gsN))) (sIf (tFull nf (eTst (eBin dNotIn (eVar 5) (eVar 2)))) (sApp' 2 (eVar 5)) sNext)) (sSet 4 (rD (eBin dAdd (eVar 4) (ret (.int 1)))))) 100) (sRet (rMv 2))))))
def F__law_come : Fn := fnOf 2 7 kNo b__law_come
def b_law : MS := (sSeq (sSet 1 (rCall 1 F__law_begin [] (aV (eVar 0) aNil))) (sSeq (sSet 2 (rD (eBin dIx (eFz nf (rLst (eCons (eBin dAdd (ret (.int 1)) (eBin dMod (eFz nf (rCall 1 F__law_next [] (aO 1 aNil))) (ret (.int 8)))) (eCons (eBin dAdd (ret (.int 1)) (eBin dMod (eFz nf (rCall 1 F__law_next [] (aO 1 aNil))) (ret (.int 40)))) eNil)))) (eBin dMod (eFz nf (rCall 1 F__law_next [] (aO 1 aNil))) (ret (.int 2)))))) (sSeq (sSet 3 (rCall 4 F__law_graph [] (aO 1 (aV (eVar 2) (aV (eBin dAdd (ret (.int 1)) (eBin dMod (eFz nf (rCall 1 F__law_next [] (aO 1 aNil))) (ret (.int 4)))) (aV (ret (.int 2)) aNil)))))) (sSeq (sSet 4 (rCall 2 F__law_starts [] (aO 1 (aV (eVar 3) aNil)))) (sSeq (sIf (eTst (eBin dEq (eBin dMod (eFz nf (rCall 1 F__law_next [] (aO 1 aNil))) (ret (.int 16))) (ret (.int 1)))) (sSet 4 (rLst eNil)) sNext) (sSeq (sSet 5 (rCall 2 F__law_come [] (aV (eVar 3) (aV (eVar 4) aNil)))) (sSeq (sSet 6 (rDctG (eFz nf (rLc (iDi (eVar 3)) (gT 2 (gsC (gN 9) (gsC (gN 10) gsN))) cYes (eTup (eCons (eVar 9) (eCons (eFz nf (rOp dList (eCons (eVar 10) eNil))) eNil))) [9, 10])))) (sSeq (sSet 7 (rOp dList (eCons (eVar 4) eNil))) (sSeq (sSet 8 (rCall 2 F_reached [] (aV (eVar 6) (aV (eVar 7) aNil)))) (sSeq (sIf (tFull nf (cOr (cNot (eTst (eUn (dIsi "list") (eVar 8)))) (cOr (eTst (eBin dNe (eVar 8) (eVar 5))) (cOr (eTst (eBin dNeG (eVar 6) (eVar 3))) (eTst (eBin dNe (eVar 7) (eVar 4))))))) (sRet (rD (ret (.bl false)))) sNext) (sSeq (sApp' 8 (ret (.str "x"))) (sRet (rD (eAnd (eBin dEq (eFz nf (rCall 2 F_reached [] (aV (eVar 6) (aV (eVar 7) aNil)))) (eVar 5)) (eBin dEq (eFz nf (rCall 2 F_reached [] (aV (eVar 6) (aV (eFz nf (rRev (eVar 7))) aNil)))) (eFz nf (rCall 2 F__law_come [] (aV (eVar 3) (aV (eFz nf (rRev (eVar 4))) aNil)))))))))))))))))))
def F_law : Fn := fnOf 1 11 kNo b_law
structure Vx (w : World) (K : PySem.W.Frag) (mg : Str → Option Value) : Prop where
  n_dict : mg "dict" = none
  n_isinstance : mg "isinstance" = none
  n_len : mg "len" = none
  n_list : mg "list" = none
  n_range : mg "range" = none
  n_str : mg "str" = none
  n_tuple : mg "tuple" = none
  f_reached : GFun (tb w K) mg "reached" s_reached P_reached
  f__law_begin : GFun (tb w K) mg "_law_begin" s__law_begin P__law_begin
  f__law_next : GFun (tb w K) mg "_law_next" s__law_next P__law_next
  f__law_nodes : GFun (tb w K) mg "_law_nodes" s__law_nodes P__law_nodes
  f__law_rung : GFun (tb w K) mg "_law_rung" s__law_rung P__law_rung
  f__law_graph : GFun (tb w K) mg "_law_graph" s__law_graph P__law_graph
  f__law_starts : GFun (tb w K) mg "_law_starts" s__law_starts P__law_starts
  f__law_come : GFun (tb w K) mg "_law_come" s__law_come P__law_come
  f_law : GFun (tb w K) mg "law" s_law P_law
section
variable {P : Program} {w : World} {K : PySem.W.Frag} {mg : Str → Option Value} {base : Heap}
theorem does_reached (V : Vx w K mg) : Does P w (tb w K) mg base N_reached "reached" s_reached 0 kNo b_reached := by
  intro f cdv A outer s H E hr
  unfold b_reached
  exact (xss_cons (xs_set 2 (fun _ => sc_reached.nd) xr_dct0) (xss_cons (xs_for (xi_lst (h := (xe_var 1))) (xg_name 3 (hN := (fun _ => sc_reached.nd))) (xss_one (xs_expr (xr_d (xe_mut (op := opSetd) PySem.F.plainAttrs_dict PySem.F.slot_dict_setdefault PySem.F.type_dict_setdefault (fun _ => (mt_gsetd ((rm_def hr) _) rfl rfl)) m_setd (xp_name 2) (xk_hid (xa_cons (xe_var 3) (xa_cons xe_bl xa_nil))))))) own_def) (xss_cons (xs_set 4 (fun _ => sc_reached.nd) (xr_full (xr_listD (fun _ => V.n_list) (xa_cons (xe_var 2) xa_nil)))) (xss_cons (xs_set 5 (fun _ => sc_reached.nd) (xr_d xe_int)) (xss_cons (xs_while 100 (xt_full (xt_lt (xe_var 5) (xe_len (fun _ => V.n_len) (xa_cons (xe_var 4) xa_nil)))) (xss_cons (xs_for (xi_seq (h := (xe_ixD (rm_def hr) (xe_var 0) (xe_ixO 4 (xe_var 5))))) (xg_tup (n := 2) (h := (xgs_cons (xg_name 6 (hN := (fun _ => sc_reached.nd))) (xgs_cons (xg_name 7 (hN := (fun _ => sc_reached.nd))) xgs_nil)))) (xss_one (xs_if (xt_full (xt_notInD (rm_def hr) (ha := (xe_var 6)) (hb := (xe_var 2)))) (xss_cons (xs_setA (rm_def hr) (xr_d xe_bl) (xp_name 2) (xe_var 6)) (xss_one (xs_app 4 (xe_var 6)))) xss_nil)) own_def) (xss_one (xs_aug 5 xe_int (fun _ => sc_reached.nd)))) own_def) (xss_one (xs_ret (xr_mv 4))))))))
theorem ok_reached (V : Vx w K mg) : FnG P w (tb w K) mg base "reached" 2 F_reached 1 := fng_g V.f_reached sc_reached (does_reached V)
theorem does__law_begin (V : Vx w K mg) : Does P w (tb w K) mg base N__law_begin "_law_begin" s__law_begin 0 kNo b__law_begin := by
  intro f cdv A outer s H E hr
  unfold b__law_begin
  exact (xss_one (xs_ret (xr_lst (xa_cons (xe_add (ha := (xe_len (fun _ => V.n_len) (xa_cons (xe_var 0) xa_nil))) (hb := xe_int)) (xa_cons (xe_var 0) (xa_cons xe_int xa_nil))))))
theorem ok__law_begin (V : Vx w K mg) : FnG P w (tb w K) mg base "_law_begin" 1 F__law_begin 1 := fng_g V.f__law_begin sc__law_begin (does__law_begin V)
theorem does__law_next (V : Vx w K mg) : Does P w (tb w K) mg base N__law_next "_law_next" s__law_next 0 k0 b__law_next := by
  intro f cdv A outer s H E hr
  unfold b__law_next
  exact (xss_cons (xs_set 1 (fun _ => sc__law_next.nd) (xr_d xe_int)) (xss_cons (xs_if (xt_gt (xe_len (fun _ => V.n_len) (xa_cons (xe_ixO 0 xe_int) xa_nil)) xe_int) (xss_one (xs_set 1 (fun _ => sc__law_next.nd) (xr_d (xe_ix (ha := (xe_ixO 0 xe_int)) (hb := (xe_mod (xe_ixO 0 xe_int) (xe_len (fun _ => V.n_len) (xa_cons (xe_ixO 0 xe_int) xa_nil)))))))) xss_nil) (xss_cons (xs_sub 0 (xe_add (ha := (xe_ixO 0 xe_int)) (hb := xe_int)) xe_int) (xss_cons (xs_sub 0 (xe_mod (xe_add (ha := (xe_add (ha := (xe_mul (xe_ixO 0 xe_int) xe_int)) (hb := (xe_var 1)))) (hb := (xe_ixO 0 xe_int))) xe_int) xe_int) (xss_one (xs_ret (xr_d (xe_mod (xe_add (ha := (xe_mul (xe_ixO 0 xe_int) (xe_ixO 0 xe_int))) (hb := (xe_mul xe_int (xe_ixO 0 xe_int)))) xe_int))))))))
theorem ok__law_next (V : Vx w K mg) : FnG P w (tb w K) mg base "_law_next" 1 F__law_next 1 := fng_g V.f__law_next sc__law_next (does__law_next V)
theorem does__law_nodes (V : Vx w K mg) : Does P w (tb w K) mg base N__law_nodes "_law_nodes" s__law_nodes 1 k0 b__law_nodes := by
  intro f cdv A outer s H E hr
  unfold b__law_nodes
  exact (xss_cons (xs_set 2 (fun _ => sc__law_nodes.nd) (xr_d (xe_mod (xe_fz (xr_call (dvs := []) (dd := []) ((ok__law_next V).d hr (by omega)) .nil (fun _ => reps_nil) (xaa_o 0 xaa_nil))) xe_int))) (xss_cons (xs_set 3 (fun _ => sc__law_nodes.nd) (xr_d (xe_mod (xe_fz (xr_call (dvs := []) (dd := []) ((ok__law_next V).d hr (by omega)) .nil (fun _ => reps_nil) (xaa_o 0 xaa_nil))) xe_int))) (xss_cons (xs_set 4 (fun _ => sc__law_nodes.nd) (xr_lst xa_nil)) (xss_cons (xs_for (xi_r1 (fun _ => V.n_range) (xa_cons (xe_var 1) xa_nil)) (xg_name 5 (hN := (fun _ => sc__law_nodes.nd))) (xss_one (xs_app 4 (xe_ix (ha := (xe_fz (xr_lst (xa_cons (xe_add (ha := (xe_var 3)) (hb := (xe_var 5))) (xa_cons (xe_add (ha := xe_str) (hb := (xe_strc (fun _ => V.n_str) (xa_cons (xe_add (ha := (xe_var 3)) (hb := (xe_var 5))) xa_nil)))) (xa_cons (xe_tup (xa_cons xe_str (xa_cons (xe_add (ha := (xe_var 3)) (hb := (xe_var 5))) xa_nil))) (xa_cons (xe_tup (xa_cons (xe_var 3) (xa_cons (xe_tup (xa_cons (xe_add (ha := xe_str) (hb := (xe_strc (fun _ => V.n_str) (xa_cons (xe_var 5) xa_nil)))) xa_nil)) xa_nil))) xa_nil))))))) (hb := (xe_var 2))))) own_def) (xss_one (xs_ret (xr_mv 4)))))))
theorem ok__law_nodes (V : Vx w K mg) : FnG P w (tb w K) mg base "_law_nodes" 2 F__law_nodes 2 := fng_g V.f__law_nodes sc__law_nodes (does__law_nodes V)
theorem does__law_rung (V : Vx w K mg) : Does P w (tb w K) mg base N__law_rung "_law_rung" s__law_rung 1 k0 b__law_rung := by
  intro f cdv A outer s H E hr
  unfold b__law_rung
  exact (xss_cons (xs_set 2 (fun _ => sc__law_rung.nd) (xr_d (xe_mod (xe_fz (xr_call (dvs := []) (dd := []) ((ok__law_next V).d hr (by omega)) .nil (fun _ => reps_nil) (xaa_o 0 xaa_nil))) xe_int))) (xss_cons (xs_if (xt_w (xw_or (xt_eq (rm_def hr) (ha := (xe_var 1)) (hb := xe_int)) (xw_or1 (xt_lt (xe_var 2) xe_int)))) (xss_one (xs_ret (xr_d (xe_tup xa_nil)))) xss_nil) (xss_cons (xs_if (xt_lt (xe_var 2) xe_int) (xss_one (xs_ret (xr_d (xe_tup (xa_cons (xe_mod (xe_fz (xr_call (dvs := []) (dd := []) ((ok__law_next V).d hr (by omega)) .nil (fun _ => reps_nil) (xaa_o 0 xaa_nil))) (xe_var 1)) xa_nil))))) xss_nil) (xss_one (xs_ret (xr_d (xe_tuple (fun _ => V.n_tuple) (xa_cons (xe_fz (xr_lc (own := [("_law_bell", 3)]) (fun _ => sc__law_rung.nd) (xi_r1 (fun _ => V.n_range) (xa_cons (xe_var 1) xa_nil)) (fun _ => show BlkOk N__law_rung (defScope s__law_rung) _ _ from blkOk_by (by decide +kernel)) (xgb_name 3 (by simp) (fun _ => sc__law_rung.nd)) (xts_one (xt_eq (rm_blk (rm_def hr)) (ha := (xe_mod (xe_fz (xr_call (dvs := []) (dd := []) ((ok__law_next V).b hr (by omega)) .nil (fun _ => reps_nil) (xaa_o 0 xaa_nil))) xe_int)) (hb := xe_int))) (xe_var 3))) xa_nil))))))))
theorem ok__law_rung (V : Vx w K mg) : FnG P w (tb w K) mg base "_law_rung" 2 F__law_rung 2 := fng_g V.f__law_rung sc__law_rung (does__law_rung V)
theorem does__law_graph (V : Vx w K mg) : Does P w (tb w K) mg base N__law_graph "_law_graph" s__law_graph 2 k0 b__law_graph := by
  intro f cdv A outer s H E hr
  unfold b__law_graph
  exact (xss_cons (xs_set 4 (fun _ => sc__law_graph.nd) (xr_call (dvs := []) (dd := []) ((ok__law_nodes V).d hr (by omega)) .nil (fun _ => reps_nil) (xaa_o 0 (xaa_v (xe_var 1) xaa_nil)))) (xss_cons (xs_set 5 (fun _ => sc__law_graph.nd) xr_dct0) (xss_cons (xs_set 6 (fun _ => sc__law_graph.nd) (xr_lst xa_nil)) (xss_cons (xs_for (xi_lst (h := (xe_var 4))) (xg_name 7 (hN := (fun _ => sc__law_graph.nd))) (xss_one (xs_expr (xr_d (xe_mut (op := opIns) PySem.F.plainAttrs_list PySem.F.slot_list_insert PySem.F.type_list_insert (fun _ => mt_insA) m_ins (xp_name 6) (xka_cons (xke_mod (ha := (xke_hid (xe_fz (xr_call (dvs := []) (dd := []) ((ok__law_next V).d hr (by omega)) .nil (fun _ => reps_nil) (xaa_o 0 xaa_nil))))) (hb := (xke_full (xe_add (ha := (xe_len (fun _ => V.n_len) (xa_cons (xe_var 6) xa_nil))) (hb := xe_int))))) (xka_cons (xke_hid (xe_var 7)) xka_nil)))))) own_def) (xss_cons (xs_set 8 (fun _ => sc__law_graph.nd) (xr_d (xe_mod (xe_fz (xr_call (dvs := []) (dd := []) ((ok__law_next V).d hr (by omega)) .nil (fun _ => reps_nil) (xaa_o 0 xaa_nil))) xe_int))) (xss_cons (xs_for (xi_lst (h := (xe_var 6))) (xg_name 7 (hN := (fun _ => sc__law_graph.nd))) (xss_cons (xs_set 9 (fun _ => sc__law_graph.nd) (xr_lst xa_nil)) (xss_cons (xs_for (xi_r1 (fun _ => V.n_range) (xa_cons (xe_mod (xe_fz (xr_call (dvs := []) (dd := []) ((ok__law_next V).d hr (by omega)) .nil (fun _ => reps_nil) (xaa_o 0 xaa_nil))) (xe_add (ha := (xe_var 2)) (hb := xe_int))) xa_nil)) (xg_name 10 (hN := (fun _ => sc__law_graph.nd))) (xss_cons (xs_set 11 (fun _ => sc__law_graph.nd) (xr_d (xe_mod (xe_fz (xr_call (dvs := []) (dd := []) ((ok__law_next V).d hr (by omega)) .nil (fun _ => reps_nil) (xaa_o 0 xaa_nil))) (xe_var 1)))) (xss_cons (xs_if (xt_w (xw_and (xt_gt (xe_var 8) xe_int) (xw_and1 (xt_lt (xe_mod (xe_fz (xr_call (dvs := []) (dd := []) ((ok__law_next V).d hr (by omega)) .nil (fun _ => reps_nil) (xaa_o 0 xaa_nil))) xe_int) xe_int)))) (xss_one (xs_set 11 (fun _ => sc__law_graph.nd) (xr_d (xe_mod (xe_add (ha := (xe_add (ha := (xe_lindex (rm_def hr) (xe_var 4) (xa_cons (xe_var 7) xa_nil))) (hb := xe_int))) (hb := (xe_mod (xe_fz (xr_call (dvs := []) (dd := []) ((ok__law_next V).d hr (by omega)) .nil (fun _ => reps_nil) (xaa_o 0 xaa_nil))) (xe_var 8)))) (xe_var 1))))) xss_nil) (xss_one (xs_app 9 (xe_tup (xa_cons (xe_ix (ha := (xe_var 4)) (hb := (xe_var 11))) (xa_cons (xe_fz (xr_call (dvs := []) (dd := []) ((ok__law_rung V).d hr (by omega)) .nil (fun _ => reps_nil) (xaa_o 0 (xaa_v (xe_var 3) xaa_nil)))) xa_nil))))))) own_def) (xss_one (xs_setA (rm_def hr) (xr_mv 9) (xp_name 5) (xe_var 7))))) own_def) (xss_one (xs_ret (xr_d (xe_varO 5))))))))))
theorem ok__law_graph (V : Vx w K mg) : FnG P w (tb w K) mg base "_law_graph" 4 F__law_graph 3 := fng_g V.f__law_graph sc__law_graph (does__law_graph V)
theorem does__law_starts (V : Vx w K mg) : Does P w (tb w K) mg base N__law_starts "_law_starts" s__law_starts 1 k0 b__law_starts := by
  intro f cdv A outer s H E hr
  unfold b__law_starts
  exact (xss_cons (xs_set 2 (fun _ => sc__law_starts.nd) (xr_listD (fun _ => V.n_list) (xa_cons (xe_var 1) xa_nil))) (xss_one (xs_ret (xr_lc (own := [("_law_k", 3)]) (fun _ => sc__law_starts.nd) (xi_r1 (fun _ => V.n_range) (xa_cons (xe_add (ha := xe_int) (hb := (xe_mod (xe_fz (xr_call (dvs := []) (dd := []) ((ok__law_next V).d hr (by omega)) .nil (fun _ => reps_nil) (xaa_o 0 xaa_nil))) xe_int))) xa_nil)) (fun _ => show BlkOk N__law_starts (defScope s__law_starts) _ _ from blkOk_by (by decide +kernel)) (xgb_name 3 (by simp) (fun _ => sc__law_starts.nd)) xts_nil (xe_ix (ha := (xe_var 2)) (hb := (xe_mod (xe_fz (xr_call (dvs := []) (dd := []) ((ok__law_next V).b hr (by omega)) .nil (fun _ => reps_nil) (xaa_o 0 xaa_nil))) (xe_len (fun _ => V.n_len) (xa_cons (xe_var 2) xa_nil)))))))))
theorem ok__law_starts (V : Vx w K mg) : FnG P w (tb w K) mg base "_law_starts" 2 F__law_starts 2 := fng_g V.f__law_starts sc__law_starts (does__law_starts V)
theorem does__law_come (V : Vx w K mg) : Does P w (tb w K) mg base N__law_come "_law_come" s__law_come 0 kNo b__law_come := by
  intro f cdv A outer s H E hr
  unfold b__law_come
  exact (xss_cons (xs_set 2 (fun _ => sc__law_come.nd) (xr_lst xa_nil)) (xss_cons (xs_for (xi_lst (h := (xe_var 1))) (xg_name 3 (hN := (fun _ => sc__law_come.nd))) (xss_one (xs_if (xt_full (xt_notIn (rm_def hr) (ha := (xe_var 3)) (hb := (xe_var 2)))) (xss_one (xs_app 2 (xe_var 3))) xss_nil)) own_def) (xss_cons (xs_set 4 (fun _ => sc__law_come.nd) (xr_d xe_int)) (xss_cons (xs_while 100 (xt_full (xt_lt (xe_var 4) (xe_len (fun _ => V.n_len) (xa_cons (xe_var 2) xa_nil)))) (xss_cons (xs_for (xi_seq (h := (xe_ixD (rm_def hr) (xe_var 0) (xe_ixO 2 (xe_var 4))))) (xg_tup (n := 2) (h := (xgs_cons (xg_name 5 (hN := (fun _ => sc__law_come.nd))) (xgs_cons (xg_name 6 (hN := (fun _ => sc__law_come.nd))) xgs_nil)))) (xss_one (xs_if (xt_full (xt_notIn (rm_def hr) (ha := (xe_var 5)) (hb := (xe_var 2)))) (xss_one (xs_app 2 (xe_var 5))) xss_nil)) own_def) (xss_one (xs_set 4 (fun _ => sc__law_come.nd) (xr_d (xe_add (ha := (xe_var 4)) (hb := xe_int)))))) own_def) (xss_one (xs_ret (xr_mv 2)))))))
theorem ok__law_come (V : Vx w K mg) : FnG P w (tb w K) mg base "_law_come" 2 F__law_come 1 := fng_g V.f__law_come sc__law_come (does__law_come V)
theorem does_law (V : Vx w K mg) : Does P w (tb w K) mg base N_law "law" s_law 3 kNo b_law := by
  intro f cdv A outer s H E hr
  unfold b_law
  exact (xss_cons (xs_set 1 (fun _ => sc_law.nd) (xr_call (dvs := []) (dd := []) ((ok__law_begin V).d hr (by omega)) .nil (fun _ => reps_nil) (xaa_v (xe_var 0) xaa_nil))) (xss_cons (xs_set 2 (fun _ => sc_law.nd) (xr_d (xe_ix (ha := (xe_fz (xr_lst (xa_cons (xe_add (ha := xe_int) (hb := (xe_mod (xe_fz (xr_call (dvs := []) (dd := []) ((ok__law_next V).d hr (by omega)) .nil (fun _ => reps_nil) (xaa_o 1 xaa_nil))) xe_int))) (xa_cons (xe_add (ha := xe_int) (hb := (xe_mod (xe_fz (xr_call (dvs := []) (dd := []) ((ok__law_next V).d hr (by omega)) .nil (fun _ => reps_nil) (xaa_o 1 xaa_nil))) xe_int))) xa_nil))))) (hb := (xe_mod (xe_fz (xr_call (dvs := []) (dd := []) ((ok__law_next V).d hr (by omega)) .nil (fun _ => reps_nil) (xaa_o 1 xaa_nil))) xe_int))))) (xss_cons (xs_set 3 (fun _ => sc_law.nd) (xr_call (dvs := []) (dd := []) ((ok__law_graph V).d hr (by omega)) .nil (fun _ => reps_nil) (xaa_o 1 (xaa_v (xe_var 2) (xaa_v (xe_add (ha := xe_int) (hb := (xe_mod (xe_fz (xr_call (dvs := []) (dd := []) ((ok__law_next V).d hr (by omega)) .nil (fun _ => reps_nil) (xaa_o 1 xaa_nil))) xe_int))) (xaa_v xe_int xaa_nil)))))) (xss_cons (xs_set 4 (fun _ => sc_law.nd) (xr_call (dvs := []) (dd := []) ((ok__law_starts V).d hr (by omega)) .nil (fun _ => reps_nil) (xaa_o 1 (xaa_v (xe_var 3) xaa_nil)))) (xss_cons (xs_if (xt_eq (rm_def hr) (ha := (xe_mod (xe_fz (xr_call (dvs := []) (dd := []) ((ok__law_next V).d hr (by omega)) .nil (fun _ => reps_nil) (xaa_o 1 xaa_nil))) xe_int)) (hb := xe_int)) (xss_one (xs_set 4 (fun _ => sc_law.nd) (xr_lst xa_nil))) xss_nil) (xss_cons (xs_set 5 (fun _ => sc_law.nd) (xr_call (dvs := []) (dd := []) ((ok__law_come V).d hr (by omega)) .nil (fun _ => reps_nil) (xaa_v (xe_var 3) (xaa_v (xe_var 4) xaa_nil)))) (xss_cons (xs_set 6 (fun _ => sc_law.nd) (xr_dctG (fun _ => V.n_dict) (rm_def hr) (xe_fz (xr_lc (own := [("_law_node", 9), ("_law_steps", 10)]) (fun _ => sc_law.nd) (xi_di (xe_var 3)) (fun _ => show BlkOk N_law (defScope s_law) _ _ from blkOk_by (by decide +kernel)) (xgb_tup (n := 2) (h := (xgbs_cons (xgb_name 9 (by simp) (fun _ => sc_law.nd)) (xgbs_cons (xgb_name 10 (by simp) (fun _ => sc_law.nd)) xgbs_nil)))) xts_nil (xe_tup (xa_cons (xe_var 9) (xa_cons (xe_fz (xr_list (fun _ => V.n_list) (xa_cons (xe_var 10) xa_nil))) xa_nil))))))) (xss_cons (xs_set 7 (fun _ => sc_law.nd) (xr_list (fun _ => V.n_list) (xa_cons (xe_var 4) xa_nil))) (xss_cons (xs_set 8 (fun _ => sc_law.nd) (xr_call (dvs := []) (dd := []) ((ok_reached V).d hr (by omega)) .nil (fun _ => reps_nil) (xaa_v (xe_var 6) (xaa_v (xe_var 7) xaa_nil)))) (xss_cons (xs_if (xt_full (xt_w (xw_or (xt_not (xt_val (xe_isi (c := "list") (by decide) (by decide +kernel) (fun _ => V.n_isinstance) (fun _ => V.n_list) (xe_var 8)))) (xw_or (xt_ne (rm_def hr) (ha := (xe_var 8)) (hb := (xe_var 5))) (xw_or (xt_neG (rm_def hr) (ha := (xe_var 6)) (hb := (xe_var 3))) (xw_or1 (xt_ne (rm_def hr) (ha := (xe_var 7)) (hb := (xe_var 4))))))))) (xss_one (xs_ret (xr_d xe_bl))) xss_nil) (xss_cons (xs_app 8 xe_str) (xss_one (xs_ret (xr_d (xe_and (xe_eq (rm_def hr) (ha := (xe_fz (xr_call (dvs := []) (dd := []) ((ok_reached V).d hr (by omega)) .nil (fun _ => reps_nil) (xaa_v (xe_var 6) (xaa_v (xe_var 7) xaa_nil))))) (hb := (xe_var 5))) (xe_one (xe_eq (rm_def hr) (ha := (xe_fz (xr_call (dvs := []) (dd := []) ((ok_reached V).d hr (by omega)) .nil (fun _ => reps_nil) (xaa_v (xe_var 6) (xaa_v (xe_fz (xr_rev (xe_var 7))) xaa_nil))))) (hb := (xe_fz (xr_call (dvs := []) (dd := []) ((ok__law_come V).d hr (by omega)) .nil (fun _ => reps_nil) (xaa_v (xe_var 3) (xaa_v (xe_fz (xr_rev (xe_var 4))) xaa_nil))))))))))))))))))))))
end
end K41
set_option Elab.async false
set_option linter.all false
set_option maxRecDepth 100000
set_option maxHeartbeats 4000000
namespace K41
open PySem hiding ret plain
open Fz hiding tb nx
structure Nds (nd : Nat → D) : Prop where
  key : ∃ f : Nat → NestedKey, (∀ k, nk (nd k) = some (f k)) ∧ ∀ a b, f a = f b → a = b
  kind : (∀ k, keyK (nd k) = true) ∨ ∀ k, tupK (nd k) = true
  same : ∀ a b, same (nd a) (nd b) = decide (a = b)
  pl : ∀ k, Fz.plain (nd k) = true
  dep : ∀ k, dep (nd k) ≤ 2
  im : ∀ k, imm (nd k) = true
  okk : ∀ k, okKs [nd k] = true
section
variable {nd : Nat → D} (N : Nds nd)
include N
theorem nk_nd (a b : Nat) : decide (nk (nd a) = nk (nd b)) = decide (a = b) := by
  obtain ⟨f, h1, h2⟩ := N.key
  rw [h1, h1]
  by_cases e : a = b
  · rw [e, decide_eq_true rfl, decide_eq_true rfl]
  · rw [decide_eq_false e, decide_eq_false fun z => e (h2 a b (Option.some.inj z))]
theorem dkOk_nd (ks : List Nat) (a : Nat) : dkOk (ks.map nd) (nd a) = true := by
  unfold dkOk
  rcases N.kind with h | h
  · rw [h a, show (ks.map nd).all keyK = true from by rw [List.all_map, List.all_eq_true]; exact fun k _ => h k]; rfl
  · rw [h a, show (ks.map nd).all tupK = true from by rw [List.all_map, List.all_eq_true]; exact fun k _ => h k]; simp
theorem kpos_nd (ks : List Nat) (a : Nat) : kpos (ks.map nd) (nd a) = ks.findIdx? fun k => decide (k = a) := by
  unfold kpos
  induction ks with
  | nil => rfl
  | cons k ks ih => rw [List.map_cons, List.findIdx?_cons, List.findIdx?_cons, ih, nk_nd N]
theorem kposS_nd (ks : List Nat) (a : Nat) : (kpos (ks.map nd) (nd a)).isSome = decide (a ∈ ks) := by
  rw [kpos_nd N, List.findIdx?_isSome]
  by_cases h : a ∈ ks
  · rw [decide_eq_true h, List.any_eq_true]; exact ⟨a, h, decide_eq_true rfl⟩
  · rw [decide_eq_false h, List.any_eq_false]; intro x hx e; exact h (of_decide_eq_true e ▸ hx)
theorem ninD_nd (ks : List Nat) (vs : List D) (a : Nat) : dNotInD (nd a) (.dct (ks.map nd) vs) = some (.bl (!decide (a ∈ ks))) := by
  show (if dkOk (ks.map nd) (nd a) = true then some (D.bl !(kpos (ks.map nd) (nd a)).isSome) else none) = _
  rw [if_pos (dkOk_nd N ks a), kposS_nd N]
theorem kposA_nd {ks : List Nat} (h : ks.Nodup) {j a : Nat} (e : ks[j]? = some a) : kpos (ks.map nd) (nd a) = some j := by
  rw [kpos_nd N]
  obtain ⟨hj, ea⟩ := List.getElem?_eq_some_iff.mp e
  refine List.findIdx?_eq_some_iff_getElem.mpr ⟨hj, decide_eq_true ea, fun i hi z => ?_⟩
  have e2 : ks[i]'(by omega) = ks[j] := by rw [of_decide_eq_true z, ea]
  have := (List.getElem_inj h).mp e2
  omega
theorem ixD_nd {ks : List Nat} (h : ks.Nodup) {a : Nat} (m : a ∈ ks) (g : Nat → D) : dIxD (.dct (ks.map nd) (ks.map g)) (nd a) = some (g a) := by
  obtain ⟨j, hj⟩ := List.getElem?_of_mem m
  show (if dkOk (ks.map nd) (nd a) = true then (kpos (ks.map nd) (nd a)).bind (fun j => (ks.map g)[j]?) else none) = _
  rw [if_pos (dkOk_nd N ks a), kposA_nd N h hj, Option.bind_some, List.getElem?_map, hj]; rfl
theorem kposN_nd {ks : List Nat} {a : Nat} (h : a ∉ ks) : kpos (ks.map nd) (nd a) = none := by
  have := kposS_nd N ks a
  rw [decide_eq_false h] at this
  exact Option.not_isSome_iff_eq_none.mp (by rw [this]; exact Bool.false_ne_true)
theorem opSet_newN {ks : List Nat} {vs : List D} {a : Nat} {x : D} (h : a ∉ ks) (hl : vs.length < 16777216) : opSet (.od (ks.map nd) vs) (nd a) (.d x) = some (.od ((ks ++ [a]).map nd) (vs ++ [x])) := by
  show (if dkOk (ks.map nd) (nd a) = true ∧ vs.length < sizeLine then some (R.od (dputK (ks.map nd) (nd a)) (dputV (ks.map nd) vs (nd a) x)) else none) = _
  rw [if_pos ⟨dkOk_nd N ks a, hl⟩]
  unfold dputK dputV
  rw [kposN_nd N h]
  simp
theorem opSetd_newN {ks : List Nat} {vs : List D} {a : Nat} {x : D} (h : a ∉ ks) (hl : vs.length < 16777216) : opSetd (.od (ks.map nd) vs) [nd a, x] = some (.od ((ks ++ [a]).map nd) (vs ++ [x]), x) := by
  show (if dkOk (ks.map nd) (nd a) = true ∧ vs.length < sizeLine then (match kpos (ks.map nd) (nd a) with
    | some j => (vs[j]?).map fun w => (R.od (ks.map nd) vs, w)
    | none => some (.od (ks.map nd ++ [nd a]) (vs ++ [x]), x)) else none) = _
  rw [if_pos ⟨dkOk_nd N ks a, hl⟩, kposN_nd N h]
  simp
theorem opSetd_oldN {ks : List Nat} (n : ks.Nodup) {a : Nat} {x : D} (h : a ∈ ks) (g : Nat → D) (hl : ks.length < 16777216) : opSetd (.od (ks.map nd) (ks.map g)) [nd a, x] = some (.od (ks.map nd) (ks.map g), g a) := by
  obtain ⟨j, hj⟩ := List.getElem?_of_mem h
  show (if dkOk (ks.map nd) (nd a) = true ∧ (ks.map g).length < sizeLine then (match kpos (ks.map nd) (nd a) with
    | some j => ((ks.map g)[j]?).map fun w => (R.od (ks.map nd) (ks.map g), w)
    | none => some (.od (ks.map nd ++ [nd a]) (ks.map g ++ [x]), x)) else none) = _
  rw [if_pos ⟨dkOk_nd N ks a, by rw [List.length_map]; exact hl⟩, kposA_nd N n hj]
  simp [hj]
theorem okKs_nd (ks : List Nat) : okKs (ks.map nd) = true := by
  unfold okKs
  rw [List.all_map, List.all_eq_true]
  intro k _
  have h := N.okk k
  unfold okKs at h
  simp only [List.all_cons, List.all_nil, Bool.and_true] at h
  exact h
theorem listD_nd (ks : List Nat) (vs : List D) : gListD [.dct (ks.map nd) vs] = some (ks.map nd) := by
  show (some (ks.map nd)).bind _ = _
  rw [Option.bind_some, if_pos (okKs_nd N ks)]
theorem zip_map {α : Type} (f g : α → D) : ∀ ks : List α, zipD (ks.map f) (ks.map g) = ks.map fun k => .tup [f k, g k]
  | [] => rfl
  | k :: ks => by show _ :: zipD _ _ = _ :: _; rw [zip_map f g ks]
theorem diO_nd (ks : List Nat) (g : Nat → D) : diO (.dct (ks.map nd) (ks.map g)) = some (ks.map fun k => .tup [nd k, g k]) := by
  show (if okKs (ks.map nd) = true ∧ (ks.map nd).length = (ks.map g).length then some (zipD (ks.map nd) (ks.map g)) else none) = _
  rw [if_pos ⟨okKs_nd N ks, by rw [List.length_map, List.length_map]⟩, zip_map N]
theorem keys_nd (ks : List Nat) : ((ks.map nd).all keyK = true ∨ (ks.map nd).all tupK = true) := by
  rcases N.kind with h | h
  · exact .inl (by rw [List.all_map, List.all_eq_true]; exact fun k _ => h k)
  · exact .inr (by rw [List.all_map, List.all_eq_true]; exact fun k _ => h k)
theorem nodup_nd {ks : List Nat} (h : ks.Nodup) : ((ks.map nd).map nk).Nodup := by
  obtain ⟨f, h1, h2⟩ := N.key
  rw [List.map_map, List.nodup_iff_pairwise_ne, List.pairwise_map]
  refine (List.nodup_iff_pairwise_ne.mp h).imp fun {a b} n e => n ?_
  have e : nk (nd a) = nk (nd b) := e
  rw [h1, h1] at e
  exact h2 a b (Option.some.inj e)
theorem pairsD_map {ks : List Nat} (g : Nat → D) : pairsD (ks.map fun k => .tup [nd k, g k]) = some (ks.map nd, ks.map g) := by
  induction ks with
  | nil => rfl
  | cons k ks ih => rw [List.map_cons]; unfold pairsD; rw [ih]; rfl
theorem dctG_nd {ks : List Nat} (h : ks.Nodup) (g : Nat → D) : dctGO (.lst (ks.map fun k => .tup [nd k, g k])) = some (.od (ks.map nd) (ks.map g)) :=
  dctGO_of (pairsD_map N g) (keys_nd N ks) (nodup_nd N h)
theorem plains_nd (ks : List Nat) : plains (ks.map nd) = true := by
  induction ks with
  | nil => rfl
  | cons k ks ih => show (Fz.plain (nd k) && plains _) = true; rw [N.pl, ih]; rfl
theorem deps_nd (ks : List Nat) : deps (ks.map nd) ≤ 2 := by
  induction ks with
  | nil => exact Nat.zero_le _
  | cons k ks ih => show max (Fz.dep (nd k)) (deps _) ≤ 2; have := N.dep k; omega
theorem cok_nd (k : Nat) : cok (nd k) = true := by
  unfold cok
  rw [N.pl]
  have := N.dep k
  simp; omega
theorem cokL_nd (ks : List Nat) : cok (.lst (ks.map nd)) = true := by
  show (plains (ks.map nd) && decide (deps (ks.map nd) + 1 ≤ 64)) = true
  rw [plains_nd N]
  have := deps_nd N ks
  simp; omega
theorem eqvA_nd (ks : List Nat) : PyData.eqvAll (pys (ks.map nd)) (pys (ks.map nd)) = true := by
  induction ks with
  | nil => rfl
  | cons k ks ih =>
    show (Fz.same (nd k) (nd k) && PyData.eqvAll _ _) = true
    rw [N.same, ih]; simp
theorem sameL_nd (ks : List Nat) : Fz.same (.lst (ks.map nd)) (.lst (ks.map nd)) = true := eqvA_nd N ks
theorem neL_nd (ks : List Nat) : dNe (.lst (ks.map nd)) (.lst (ks.map nd)) = some (.bl false) := by
  unfold dNe; rw [cokL_nd N, sameL_nd N]; rfl
theorem eqL_nd (ks : List Nat) : dEq (.lst (ks.map nd)) (.lst (ks.map nd)) = some (.bl true) := by
  unfold dEq; rw [cokL_nd N, sameL_nd N]; rfl
theorem index_nd {ks : List Nat} (h : ks.Nodup) {j a : Nat} (e : ks[j]? = some a) : dLIndex (.lst (ks.map nd)) [nd a] = some (.int (j : Int)) := by
  show (if (cok (.lst (ks.map nd)) && cok (nd a)) = true then ((ks.map nd).findIdx? fun z => Fz.same z (nd a)).map (fun i => D.int (i : Nat)) else none) = _
  rw [if_pos (by rw [cokL_nd N, cok_nd N]; rfl)]
  have : ((ks.map nd).findIdx? fun z => Fz.same z (nd a)) = some j := by
    have h2 := kposA_nd N h e
    rw [kpos_nd N] at h2
    rw [List.findIdx?_map]
    rw [← h2]
    congr 1
    funext k
    exact N.same k a
  rw [this]; rfl
theorem dInB_nd (ks : List Nat) (a : Nat) : dInB (nd a) (.lst (ks.map nd)) = some (decide (a ∈ ks)) := by
  have e : (ks.map nd).any (fun z => Fz.same z (nd a)) = decide (a ∈ ks) := by
    rw [List.any_map]
    by_cases h : a ∈ ks
    · rw [decide_eq_true h, List.any_eq_true]
      exact ⟨a, h, by show Fz.same (nd a) (nd a) = true; rw [N.same]; simp⟩
    · rw [decide_eq_false h, List.any_eq_false]
      intro x hx z
      have z : Fz.same (nd x) (nd a) = true := z
      rw [N.same] at z
      exact h (of_decide_eq_true z ▸ hx)
  have key : dInB (nd a) (.lst (ks.map nd)) = if (cok (nd a) && cok (.lst (ks.map nd))) = true then some ((ks.map nd).any fun z => Fz.same z (nd a)) else none := by
    first | rfl | (cases nd a <;> rfl)
  rw [key, e, if_pos]
  rw [cok_nd N, cokL_nd N]; rfl
theorem nin_nd (ks : List Nat) (a : Nat) : dNotIn (nd a) (.lst (ks.map nd)) = some (.bl (!decide (a ∈ ks))) := by
  unfold dNotIn; rw [dInB_nd N]; rfl
end
end K41
local macro_rules | `(tactic| simp_arith only [$args,*]) => `(tactic| simp only [↓Fz.n_ret, ↓Fz.n_opt, ↓Fz.n_eUn, ↓Fz.n_eBin, ↓Fz.n_eCons, ↓Fz.n_eNil, ↓Fz.n_eOp, ↓Fz.n_eTup, ↓Fz.n_rD, ↓Fz.n_rOp, ↓Fz.n_rLst, ↓Fz.n_eFz, ↓Fz.n_eVar, ↓Fz.n_eFull, ↓Fz.n_tFull, ↓Fz.n_rFull, ↓Fz.n_eTst, ↓Fz.n_eNot, ↓Fz.n_cAnd, ↓Fz.n_cOr, ↓Fz.n_cNot, ↓Fz.n_cYes, ↓Fz.n_eAnd, ↓Fz.n_eOr, ↓Fz.n_eChain, ↓Fz.n_eIf, ↓Fz.n_rIf, ↓Fz.n_oNone, ↓Fz.n_oSome, ↓Fz.n_eSl, ↓Fz.n_rSlL', ↓Fz.n_eMt, ↓Fz.n_rMt, ↓Fz.n_rBin, ↓Fz.n_rMv, ↓Fz.n_iLst, ↓Fz.n_iTupl, ↓Fz.n_iSeq, ↓Fz.n_iText, ↓Fz.n_iR1, ↓Fz.n_iR2, ↓Fz.n_iEn, ↓Fz.n_aNil, ↓Fz.n_aV, ↓Fz.n_aO, ↓Fz.n_callF, ↓Fz.n_rCall, ↓Fz.n_rMeth, ↓Fz.n_rMakeN, ↓Fz.n_fnOf, ↓Fz.n_sNext, ↓Fz.n_sBrk, ↓Fz.n_sCt, ↓Fz.n_sRetN, ↓Fz.n_sSeq, ↓Fz.n_sSet, ↓Fz.n_sAsg, ↓Fz.n_sIf, ↓Fz.n_sRet, ↓Fz.n_sDrop, ↓Fz.n_sFor, ↓Fz.n_sApp', ↓Fz.n_sExtA, ↓Fz.n_sSub, ↓Fz.n_eFld, ↓Fz.n_rLc, ↓Fz.n_eMaxD, ↓Fz.n_eVarO, ↓Fz.n_rMake, ↓Fz.n_rMethX, ↓Fz.n_eIxO, ↓Fz.n_iR3, ↓Fz.n_rRev, ↓Fz.n_sRaise, ↓Fz.n_sTry, ↓Fz.n_sAug, ↓Fz.n_rDct0, ↓Fz.n_pName, ↓Fz.n_pIx, ↓Fz.n_pFld, ↓Fz.n_aHid, ↓Fz.n_aFull, ↓Fz.n_aNo, ↓Fz.n_eMut, ↓Fz.n_sSetA, ↓Fz.n_aRNil, ↓Fz.n_aRCons, ↓Fz.n_rLstR, ↓Fz.n_rTupR, ↓Fz.n_eFStr, ↓Fz.n_iDk, ↓Fz.n_iDv, ↓Fz.n_iDi, ↓Fz.n_rFullO, ↓Fz.n_fnOfC, ↓Fz.n_cRet, ↓Fz.n_cLam, ↓Fz.n_cIf, ↓Fz.n_cSeq, ↓Fz.n_rCallV, ↓Fz.n_rCallE, ↓Fz.n_eLam, ↓Fz.n_gR1, ↓Fz.n_gR2, ↓Fz.n_rLstRg, ↓Fz.n_iRevRg, ↓Fz.n_iZp, ↓Fz.n_sPar, ↓Fz.n_rDctG, ↓Fz.n_eHid, Fz.kMeX_v, Fz.kMeX_x, Fz.kR3_v, Fz.kIxO_v, Fz.kIxO_x, Fz.ixR_ol, Fz.ixR_d, Fz.kRev_v, Fz.kRev_x, Fz.mkE_x, Fz.gRev_l, Fz.kTrS_rt, Fz.kTrS_nx, Fz.kTrS_ct, Fz.kTrS_nx0, Fz.uTr_f, Fz.uTr_t, Fz.uTr_t0, Fz.kTr_x, Fz.kTr_nx, Fz.kTr_rt, Fz.kAug2_a, Fz.kAug_v, Fz.kAug_x, Fz.gD_d, Fz.kAug1_a, Fz.dAddIS_i, Fz.dIsq_e, Fz.mkE_v, Fz.kMkU_a, Fz.kMk_v, Fz.upA_o, Fz.upA_v, Fz.wc_t, Fz.wd_t, Fz.wd_f, Fz.kU_a, Fz.wo_some, Fz.wo_none, Fz.wo_ifn, Fz.wpe_eq, Fz.wse_eq, Fz.kr_a, Fz.krl_a, Fz.ku_a, Fz.kUn_v, Fz.kUn_x, Fz.kBin2_v, Fz.kBin2_x, Fz.kBin1_v, Fz.kBin1_x, Fz.kCons2_v, Fz.kCons2_x, Fz.kCons1_v, Fz.kCons1_x, Fz.kOp_v, Fz.kOp_x, Fz.kTup_v, Fz.kTup_x, Fz.kD_v, Fz.kD_x, Fz.kROp_v, Fz.kROp_x, Fz.kLst_v, Fz.kLst_x, Fz.kFz_v, Fz.kFz_x, Fz.kFull_v, Fz.kFull_x, Fz.kTFull_v, Fz.kTFull_x, Fz.n_rfx_ol, Fz.n_rfx_d, Fz.rfx_x, Fz.kTst_v, Fz.kTst_x, Fz.krn_a, Fz.kNot_v, Fz.kNot_x, Fz.wAnd_t, Fz.wAnd_f, Fz.kAnd_v, Fz.kAnd_x, Fz.wOr_t, Fz.wOr_f, Fz.kOr_v, Fz.kOr_x, Fz.kCNot_v, Fz.kCNot_x, Fz.wEAnd_t, Fz.wEAnd_f, Fz.kEAnd_v, Fz.kEAnd_x, Fz.wEOr_t, Fz.wEOr_f, Fz.kEOr_v, Fz.kEOr_x, Fz.tb_n, Fz.wChain_t, Fz.wChain_f, Fz.kCh3_a, Fz.kCh2_v, Fz.kCh2_x, Fz.kCh1_v, Fz.kCh1_x, Fz.wEIf_t, Fz.wEIf_f, Fz.kEIf_v, Fz.kEIf_x, Fz.wRIf_t, Fz.wRIf_f, Fz.kRIf_v, Fz.kRIf_x, Fz.kso_a, Fz.kSome_v, Fz.kSome_x, Fz.kSl3_v, Fz.kSl3_x, Fz.kSl2_v, Fz.kSl2_x, Fz.kSl1_v, Fz.kSl1_x, Fz.kcut_a, Fz.kRSl3_v, Fz.kRSl3_x, Fz.kRSl2_v, Fz.kRSl2_x, Fz.kRSl1_v, Fz.kRSl1_x, Fz.kMt2_v, Fz.kMt2_x, Fz.kMtu_a, Fz.kMt1_v, Fz.kMt1_x, Fz.kRMt2_v, Fz.kRMt2_x, Fz.kRMtu_a, Fz.kRMt1_v, Fz.kRMt1_x, Fz.kRBin2_v, Fz.kRBin2_x, Fz.kRBin1_v, Fz.kRBin1_x, Fz.kILst_v, Fz.kILst_x, Fz.kITup_v, Fz.kITup_x, Fz.kISeq_v, Fz.kISeq_x, Fz.ktx_a, Fz.kIText_v, Fz.kIText_x, Fz.kIL_v, Fz.kIL_x, Fz.kAV2_v, Fz.kAV2_x, Fz.kAV1_v, Fz.kAV1_x, Fz.kAO_v, Fz.kAO_x, Fz.isq_s, Fz.kAOu_a, Fz.kEnd2_a, Fz.kEnd_a, Fz.kCallU_a, Fz.kCall_a, Fz.kRcu_a, Fz.kRc_v, Fz.kRc_x, Fz.kMcu_a, Fz.kMc_v, Fz.kMc_x, Fz.kMf_a, Fz.kMo_a, Fz.kMeth_v, Fz.kFnU_a, Fz.ko_a, Fz.n_oend_rt, Fz.n_oend_nx, Fz.n_oend_x, Fz.kSeq_nx, Fz.kSeq_bk, Fz.kSeq_ct, Fz.kSeq_rt, Fz.kSeq_x, Fz.kSet_v, Fz.kSet_x, Fz.knx_a, Fz.kAsg_v, Fz.kAsg_x, Fz.wIf_t, Fz.wIf_f, Fz.kIf_v, Fz.kIf_x, Fz.kRet_v, Fz.kRet_x, Fz.kDrop_v, Fz.kDrop_x, Fz.kFor_v, Fz.kFor_x, Fz.kSt_a, Fz.kApp2_a, Fz.kApp_v, Fz.kApp_x, Fz.kAppU_a, Fz.kExt3_a, Fz.kExt2_a, Fz.kExt_v, Fz.kExt_x, Fz.kExtU_a, Fz.kSub5_a, Fz.kSub4_a, Fz.kSub3_a, Fz.kSub2_v, Fz.kSub2_x, Fz.kSubU_a, Fz.kSub1_v, Fz.kSub1_x, Fz.fld_o, Fz.wd_krn, ite_self, Fz.vro_r, Fz.kMx2_v, Fz.kMx1_v, Fz.dMaxD_i, Fz.dSum_i, Fz.dInts_nil, Fz.dInts_cons, Fz.maxOf_nil, Fz.maxOf_one, Fz.maxOf_two, Fz.dMax2_i, Fz.isc_o, Fz.e_slt1, Fz.cast0, Fz.cast1, Fz.cast2, Fz.cast3, Fz.isT, Fz.e_tys, Fz.e_tyl, Fz.kLc_v, Fz.kLcU_a, Fz.kLcB_a, Fz.W_len, Fz.W_app, Fz.sgn_W, Fz.own_no, Fz.own_d, List.all_cons, List.all_nil, List.getD_cons_succ, List.getD_cons_zero, Fz.wipeS, Fz.backS, Fz.vr_d, Fz.vr_ol, Fz.vr_od, Fz.gt_0, Fz.gt_s, Fz.stt_0, Fz.stt_s, Fz.vwN_nil, Fz.vwN_d, Fz.vwN_ol, Fz.vwN_od, Fz.vwN_no, Fz.vwN_oi, Fz.ti_int, Fz.tl_l, Fz.tt_t, Fz.tq_t, Fz.tq_l, Fz.tx_s, Fz.mv_s, Fz.to_o, Fz.gA, Fz.pA, Fz.outs_nil, Fz.outs_cons, Fz.outs1_s, Fz.isD_d, Fz.gol_s, Fz.isL_ol, Fz.isL_d, Fz.gN_eq, Fz.gT_eq, Fz.gsN_eq, Fz.gsC_eq, Fz.some_bind', Fz.dR1_i, Fz.dR2_i, Fz.dEn_i, Fz.owns, Fz.vw_d, Fz.vw_ol, Fz.vw_oi, Fz.vw_od, Fz.wh_d, Fz.wh_ol, Fz.wh_od, Fz.wh_oi, Fz.imm, Fz.imms, decide_true, decide_false, Bool.not_true, Bool.not_false, if_true, if_false, List.length_cons, List.length_nil, List.map_cons, List.map_nil, List.append_nil, List.nil_append, List.cons_append, List.replicate, Option.map_some, beq_self_eq_true, Bool.true_or, Bool.or_true, Bool.false_or, Bool.or_false, Bool.false_and, Bool.and_false, Bool.true_and, Bool.and_true, reduceCtorEq, Fz.e_sub, Fz.e_mod, Fz.e_div, Fz.e_mul, Fz.e_addi, Fz.e_adds, Fz.e_addt, Fz.e_eqi, Fz.e_eqs, Fz.e_eqb, Fz.e_nei, Fz.e_nes, Fz.e_neb, Fz.e_lti, Fz.e_gti, Fz.e_lei, Fz.e_gei, Fz.e_lenl, Fz.e_lent, Fz.e_lens, Fz.e_isib, Fz.e_inw, Fz.e_ninw, Fz.e_inwt, Fz.e_ninwt, Fz.e_intb, Fz.e_ixn, Fz.e_ixtn, Fz.e_ix0, Fz.e_ix1, Fz.e_ix2, Fz.e_ix3, Fz.e_ixt0, Fz.e_ixt1, Fz.e_ixt2, Fz.e_ixt3, Fz.e_ixs, Fz.e_ixs0, Fz.szl, List.getElem?_cons_zero, List.getElem?_cons_succ, Fz.e_tupl, Fz.e_tupt, Fz.e_listl, Fz.e_listt, Fz.nodup0, Fz.nodup1, List.length_set, List.length_append, List.length_map, List.set_cons_zero, List.set_cons_succ, Nat.add_zero, Nat.zero_add, Fz.lp_nx, Fz.lp_rt, Fz.lp_bk, Fz.lp_ct, Fz.lp_x, ↓reduceIte, Nat.reduceAdd, Nat.reduceSub, Nat.reduceLeDiff, Nat.reduceLT, Nat.reduceMul, Nat.reduceDiv, Nat.reduceMod, Int.reduceMul, Int.reduceToNat, Int.reduceMod, Int.reduceDiv, Int.reduceOfNat, Int.reduceBEq, Nat.reduceEqDiff, Nat.reduceBEq, Int.reduceLT, Int.reduceLE, Int.reduceEq, Int.reduceNeg, Int.reduceAdd, Int.reduceSub, decide_eq_true_eq, ite_true, ite_false, and_self, or_self, and_true, true_and, Bool.or_self, Bool.and_self, Fz.ixn0, Fz.ixn1, Fz.ixn2, Fz.ixn3, Bool.or_eq_true, or_true, true_or, or_false, false_or, Fz.kPx5_a, Fz.kPx4_a, Fz.kPx3_v, Fz.kPx2_a, Fz.kPx1_a, Fz.kPx0_a, Fz.kPf3_a, Fz.kPf2_a, Fz.kPf1_a, Fz.kPf0_a, Fz.kH2_v, Fz.kH1_a, Fz.kAF_v, Fz.kM5_a, Fz.kM4_v, Fz.kM3_a, Fz.kM2_a, Fz.kM1_a, Fz.kSA6_a, Fz.kSA5_a, Fz.kSA4_v, Fz.kSA3_a, Fz.kSA2_a, Fz.kSA1_v, Fz.kSA1_x, Fz.kRC2_v, Fz.kRC1_v, Fz.kRL_v, Fz.kRT_v, Fz.kFS_v, Fz.kID_v, Fz.kID_x, Fz.rfo_oi, Fz.rfo_x, Fz.wsl_r, Fz.rAt_nil, Fz.rAt_nl, Fz.rAt_nt, Fz.rAt_ni, Fz.rAt_nd, Fz.rSet_nil, Fz.rSet_nl, Fz.rSet_nt, Fz.rSet_ni, Fz.rSet_nd, Fz.rSets_0, Fz.rSets_s, Fz.kids_nl, Fz.kids_nt, Fz.kids_ni, Fz.kids_nd, Fz.kidAt_nl, Fz.kidAt_nt, Fz.opApp_ol, Fz.opRev_ol, Fz.opClr_ol, Fz.opSet_nl, Fz.opSet_ol, Fz.vw_nl, Fz.vw_nt, Fz.vw_ni, Fz.vw_nd, Fz.vwL_nil, Fz.vwL_cons, Fz.wh_nl, Fz.wh_nt, Fz.wh_ni, Fz.wh_nd, Fz.whL_nil, Fz.whL_cons, Fz.vwN_nl, Fz.vwN_nt, Fz.vwN_nd, Fz.vwN_ni, Option.bind_some, Fz.isR_s, List.length_reverse, Fz.kFnC_a, Fz.n_oendC_r, Fz.n_oendC_l, Fz.kOC_a, Fz.kCr_v, Fz.kCd_t, Fz.kCd_f, Fz.kCif_v, Fz.kCsq_nx, Fz.kCv_a, Fz.kCe2_a, Fz.kCe1_v, Fz.kCe1_x, Fz.kCe0_a, Fz.kCe_v, Fz.kCe_x, Fz.kRg1_v, Fz.kRg3_v, Fz.kRg2_v, Fz.kLRg_v, Fz.kIRg_v, Fz.toRg1_i, Fz.toRg2_i, Fz.kIZ_v, Fz.zpO_l, Fz.kPar_v, Fz.kPar_x, Fz.kDctG_v, Fz.kDctG_x, Fz.kHe1_a, Fz.kHe2_v, $args,*])
set_option Elab.async false
set_option linter.all false
set_option maxRecDepth 100000
set_option maxHeartbeats 4000000
namespace K41
open PySem hiding ret plain
open Fz hiding tb nx
def st (a : Int) (ns : List Int) (c : Int) : Fz.R := .ol [.int a, .lst (ns.map D.int), .int c]
theorem vwN_st {n : Nat → Nat} {a : Int} {ns : List Int} {c : Int} {l : Sl} : vwN n (some (st a ns c) :: l) = some (.d (.lst [.int a, .lst (ns.map D.int), .int c])) :: vwN n l := rfl
theorem begin_ok (ns : List Int) : F__law_begin [.d (.lst (ns.map D.int))] = some (.v (st ((ns.length : Int) + 7) ns 0), [.d (.lst (ns.map D.int))]) := by
  refine wf_eq ?_
  unfold F__law_begin
  simp_arith only [b__law_begin]
  all_goals first | rfl | exact ⟨rfl, rfl⟩
def cell (ns : List Int) (c : Nat) : Int := ns.getD (c % ns.length) 0
def nxA (a : Int) (ns : List Int) (c : Nat) : Int := (a * 48271 + cell ns c + (c + 1)) % 2147483647
def nxR (a : Int) (ns : List Int) (c : Nat) : Int := (nxA a ns c * nxA a ns c + 16807 * nxA a ns c) % 2147483629
theorem next_eq (a : Int) (ns : List Int) (c : Nat) : F__law_next [st a ns c] = some (.v (.d (.int (nxR a ns c))), [st (nxA a ns c) ns ((c + 1 : Nat) : Int)]) := by
  refine wf_eq ?_
  have m1 : ∀ a : Int, CMulB a 48271 = True := fun a => eq_true (.inr (by decide))
  have m2 : ∀ a : Int, CMulB 16807 a = True := fun a => eq_true (.inl (by decide))
  have m3 : ∀ a : Int, CMulB (a % 2147483647) (a % 2147483647) = True := fun a => eq_true (.inl (by omega))
  unfold F__law_next st
  simp_arith only [b__law_next]
  refine wd_of (fun h => ?_) (fun h => ?_)
  · have h := of_decide_eq_true h
    have hx : dIx (.lst (ns.map D.int)) (.int ((c : Int) % (ns.length : Int))) = some (.int (cell ns c)) := by
      rw [← Int.natCast_emod, e_ixn]
      have : c % ns.length < ns.length := Nat.mod_lt _ (by omega)
      simp [cell, this]
    simp_arith only [h, hx, m1, m2, m3]
    exact ⟨rfl, rfl⟩
  · have h := of_decide_eq_false h
    have h0 : ns = [] := List.eq_nil_of_length_eq_zero (by omega)
    have hx : cell ns c = 0 := by rw [h0]; rfl
    simp_arith only [m1, m2, m3]
    rw [← hx]
    exact ⟨rfl, rfl⟩
theorem e_next {a : Int} {ns : List Int} {c : Nat} {Q : Oc R → List R → Prop} : wf F__law_next [st a ns c] Q = Q (.v (.d (.int (nxR a ns c)))) [st (nxA a ns c) ns ((c + 1 : Nat) : Int)] := wf_of (next_eq a ns c)
end K41
set_option Elab.async false
set_option linter.all false
set_option maxRecDepth 100000
set_option maxHeartbeats 4000000
namespace K41
open PySem hiding ret plain
open Fz hiding tb nx
def num (n : Nat) : Str := Str.ofString (toString ((n : Nat) : Int))
theorem num_cps' (n : Nat) : (num n).cps.toList = TL.numL n := num_cps n
theorem app_cps (a b : Str) : (a ++ b).cps.toList = a.cps.toList ++ b.cps.toList := by
  have e : (a ++ b).cps = a.cps ++ b.cps := rfl
  rw [e, Array.toList_append]
theorem num_inj {x : Str} {a b : Nat} (h : x ++ num a = x ++ num b) : a = b := by
  have e := congrArg (fun s : Str => s.cps.toList) h
  simp only [app_cps, num_cps'] at e
  exact TL.numL_inj (List.append_cancel_left e)
theorem num_len {n : Nat} (h : n < 1000000) : (num n).length ≤ 6 := by
  have : (num n).length = (num n).cps.toList.length := by simp [Str.length]
  rw [this, num_cps']
  exact TL.numL_len (by decide) (by omega)
theorem strOk_num {x : Str} (hx : ∀ c ∈ x.cps.toList, c < 128) (n : Nat) : PyData.strOk (x ++ num n) = true := by
  refine strOk_mem.mpr fun c hc => ?_
  rw [app_cps, num_cps'] at hc
  rcases List.mem_append.mp hc with h | h
  · have := hx c h; omega
  · have := TL.numL_digits n c h; omega
theorem e_str_num (n : Nat) (h : n < 1000000) : dStr [.int (n : Int)] = some (.str (num n)) := by
  unfold dStr
  exact if_pos ⟨by omega, by omega⟩
def ndD (w base k : Nat) : D := match w with
  | 0 => .int ((base + k : Nat) : Int)
  | 1 => .str (("n" : Str) ++ num (base + k))
  | 2 => .tup [.str "p", .int ((base + k : Nat) : Int)]
  | _ => .tup [.int (base : Int), .tup [.str (("q" : Str) ++ num k)]]
theorem same_i (a b : Int) : same (.int a) (.int b) = decide (a = b) := by
  show (a == b) = _
  exact rfl
theorem same_x (a b : Str) : same (.str a) (.str b) = decide (a = b) := by
  show (a == b) = _
  exact rfl
theorem same_p (x y x' y' : D) : same (.tup [x, y]) (.tup [x', y']) = (same x x' && same y y') := by
  show (same x x' && (same y y' && true)) = _
  rw [Bool.and_true]
theorem same_1 (x x' : D) : same (.tup [x]) (.tup [x']) = same x x' := by
  show (same x x' && true) = _
  rw [Bool.and_true]
theorem dec_iff {p q : Prop} [Decidable p] [Decidable q] (h : p ↔ q) : decide p = decide q := by
  by_cases hp : p
  · rw [decide_eq_true hp, decide_eq_true (h.mp hp)]
  · rw [decide_eq_false hp, decide_eq_false fun z => hp (h.mpr z)]
theorem nds (w base : Nat) : Nds (ndD w base) := by
  match w with
  | 0 =>
    refine ⟨⟨fun k => .num ((base + k : Nat) : Int), fun k => rfl, fun a b h => ?_⟩, .inl fun k => rfl, fun a b => ?_, fun k => rfl, fun k => by show (0 : Nat) ≤ 2; omega, fun k => rfl, fun k => rfl⟩
    · injection h with h; omega
    · show same (.int _) (.int _) = _
      rw [same_i]; exact dec_iff ⟨fun h => by omega, fun h => by rw [h]⟩
  | 1 =>
    refine ⟨⟨fun k => .text (("n" : Str) ++ num (base + k)), fun k => rfl, fun a b h => ?_⟩, .inl fun k => rfl, fun a b => ?_, fun k => rfl, fun k => by show (0 : Nat) ≤ 2; omega, fun k => rfl, fun k => ?_⟩
    · injection h with h
      have := num_inj h
      omega
    · show same (.str _) (.str _) = _
      rw [same_x]
      exact dec_iff ⟨fun h => by have := num_inj h; omega, fun h => by rw [h]⟩
    · show (PyData.strOk _ && true) = true
      rw [strOk_num (by decide +kernel)]; rfl
  | 2 =>
    refine ⟨⟨fun k => .tup [.text "p", .num ((base + k : Nat) : Int)], fun k => rfl, fun a b h => ?_⟩, .inr fun k => by rfl, fun a b => ?_, fun k => rfl, fun k => by show (1 : Nat) ≤ 2; omega, fun k => rfl, fun k => rfl⟩
    · injection h with h
      injection h with _ h
      injection h with h _
      injection h with h
      omega
    · show same (.tup _) (.tup _) = _
      rw [same_p, same_x, same_i]
      rw [decide_eq_true rfl, Bool.true_and]
      exact dec_iff ⟨fun h => by omega, fun h => by rw [h]⟩
  | n + 3 =>
    refine ⟨⟨fun k => .tup [.num (base : Int), .tup [.text (("q" : Str) ++ num k)]], fun k => rfl, fun a b h => ?_⟩, .inr fun k => by rfl, fun a b => ?_, fun k => rfl, fun k => by show (2 : Nat) ≤ 2; omega, fun k => rfl, fun k => rfl⟩
    · injection h with h
      injection h with _ h
      injection h with h _
      injection h with h
      injection h with h _
      injection h with h
      exact num_inj h
    · show same (.tup _) (.tup _) = _
      rw [same_p, same_i, same_1, same_x, decide_eq_true rfl, Bool.true_and]
      exact dec_iff ⟨fun h => num_inj h, fun h => by rw [h]⟩
def rgD (rs : List Nat) : D := .tup (rs.map fun r : Nat => D.int (r : Int))
abbrev Sp := Nat × List Nat
def stD (nd : Nat → D) (x : Sp) : D := .tup [nd x.1, rgD x.2]
def ssD (nd : Nat → D) (xs : List Sp) : D := .lst (xs.map (stD nd))
def grD (nd : Nat → D) (ks : List Nat) (gs : Nat → List Sp) : D := .dct (ks.map nd) (ks.map fun k => ssD nd (gs k))
theorem plains_rg (rs : List Nat) : plains (rs.map fun r : Nat => D.int (r : Int)) = true ∧ deps (rs.map fun r : Nat => D.int (r : Int)) = 0 ∧ imms (rs.map fun r : Nat => D.int (r : Int)) = true ∧ PyData.eqvAll (pys (rs.map fun r : Nat => D.int (r : Int))) (pys (rs.map fun r : Nat => D.int (r : Int))) = true := by
  induction rs with
  | nil => exact ⟨rfl, rfl, rfl, rfl⟩
  | cons r rs ih =>
    obtain ⟨a, b, c, d⟩ := ih
    refine ⟨?_, ?_, ?_, ?_⟩
    · show (true && plains _) = true; rw [a]; rfl
    · show max 0 (deps _) = 0; rw [b]; rfl
    · show (true && imms _) = true; rw [c]; rfl
    · show (same (.int (r : Int)) (.int (r : Int)) && PyData.eqvAll _ _) = true
      rw [same_i, d]; simp
theorem ss_ok {nd : Nat → D} (N : Nds nd) (xs : List Sp) : plains (xs.map (stD nd)) = true ∧ deps (xs.map (stD nd)) ≤ 3 ∧ PyData.eqvAll (pys (xs.map (stD nd))) (pys (xs.map (stD nd))) = true := by
  induction xs with
  | nil => exact ⟨rfl, Nat.zero_le _, rfl⟩
  | cons x xs ih =>
    obtain ⟨a, b, c⟩ := ih
    obtain ⟨p, q, _, r⟩ := plains_rg x.2
    refine ⟨?_, ?_, ?_⟩
    · show ((Fz.plain (nd x.1) && (plains (x.2.map fun r : Nat => D.int (r : Int)) && true)) && plains _) = true
      rw [N.pl, p, a]; rfl
    · show max (max (Fz.dep (nd x.1)) (max (deps (x.2.map fun r : Nat => D.int (r : Int)) + 1) 0) + 1) (deps _) ≤ 3
      have := N.dep x.1
      omega
    · show ((same (nd x.1) (nd x.1) && (PyData.eqvAll (pys (x.2.map fun r : Nat => D.int (r : Int))) (pys (x.2.map fun r : Nat => D.int (r : Int))) && true)) && PyData.eqvAll _ _) = true
      rw [N.same, r, c]; simp
theorem cok_ss {nd : Nat → D} (N : Nds nd) (xs : List Sp) : cok (ssD nd xs) = true ∧ same (ssD nd xs) (ssD nd xs) = true := by
  obtain ⟨a, b, c⟩ := ss_ok N xs
  refine ⟨?_, c⟩
  show (plains (xs.map (stD nd)) && decide (deps (xs.map (stD nd)) + 1 ≤ 64)) = true
  rw [a]; simp; omega
theorem valsOk_ss {nd : Nat → D} (N : Nds nd) (gs : Nat → List Sp) : ∀ ks : List Nat, valsOk (ks.map fun k => ssD nd (gs k)) (ks.map fun k => ssD nd (gs k)) = true
  | [] => rfl
  | k :: ks => by
    obtain ⟨a, b⟩ := cok_ss N (gs k)
    show (cok _ && cok _ && same _ _ && valsOk _ _) = true
    rw [a, b, valsOk_ss N gs ks]; rfl
theorem alike_gr {nd : Nat → D} (N : Nds nd) (gs : Nat → List Sp) (ks : List Nat) : alikeD (grD nd ks gs) (grD nd ks gs) = true := by
  show (decide (_ = _) && ((_ && _) || (_ && _)) && valsOk _ _) = true
  rw [decide_eq_true rfl, valsOk_ss N gs ks]
  rcases keys_nd N ks with h | h <;> rw [h] <;> simp
theorem neG_gr {nd : Nat → D} (N : Nds nd) (gs : Nat → List Sp) (ks : List Nat) : dNeG (grD nd ks gs) (grD nd ks gs) = some (.bl false) := if_pos (alike_gr N gs ks)
theorem node_at (w base j : Nat) (hw : w < 4) (hb : base < 50) (hj : j < 1000) : ∃ X1 Y1 Z1 Y2 Z2 V : D, dAdd (.int (base : Int)) (.int (j : Int)) = some X1 ∧ dStr [X1] = some Y1 ∧ dAdd (.str "n") Y1 = some Z1 ∧ dStr [.int (j : Int)] = some Y2 ∧ dAdd (.str "q") Y2 = some Z2 ∧
    dIx (.lst [X1, Z1, .tup [.str "p", X1], .tup [.int (base : Int), .tup [Z2]]]) (.int (w : Int)) = some V ∧ V = ndD w base j := by
  refine ⟨.int ((base + j : Nat) : Int), .str (num (base + j)), .str (("n" : Str) ++ num (base + j)), .str (num j), .str (("q" : Str) ++ num j), ndD w base j, ?_, e_str_num _ (by omega), ?_, e_str_num _ (by omega), ?_, ?_, rfl⟩
  · show some (D.int ((base : Int) + (j : Int))) = _
    congr 2
  · have l1 := num_len (n := base + j) (by omega)
    have : ("n" : Str).length = 1 := by decide +kernel
    show (if ("n" : Str).length + (num (base + j)).length ≤ sizeLine then _ else _) = _
    rw [if_pos (by rw [szl]; omega)]
  · have l2 := num_len (n := j) (by omega)
    have : ("q" : Str).length = 1 := by decide +kernel
    show (if ("q" : Str).length + (num j).length ≤ sizeLine then _ else _) = _
    rw [if_pos (by rw [szl]; omega)]
  · have : w = 0 ∨ w = 1 ∨ w = 2 ∨ w = 3 := by omega
    rcases this with rfl | rfl | rfl | rfl <;> rfl
theorem nodes_wf (a : Int) (ns : List Int) (c : Nat) (m : Nat) (hm : m ≤ 1000) : wf F__law_nodes [st a ns c, .d (.int (m : Int))] fun o rs => ∃ a' w base, ∃ c' : Nat, o = .v (.ol ((List.range m).map (ndD w base))) ∧ rs = [st a' ns c', .d (.int (m : Int))] := by
  unfold F__law_nodes
  obtain ⟨w, hw, ew⟩ := mod_nat (nxR a ns c) 4 (by decide)
  have ew : nxR a ns c % 4 = (w : Int) := ew
  obtain ⟨base, hb, eb⟩ := mod_nat (nxR (nxA a ns c) ns (c + 1)) 50 (by decide)
  have eb : nxR (nxA a ns c) ns (c + 1) % 50 = (base : Int) := eb
  have rm : dR1 [.int (m : Int)] = some ((List.range m).map fun i : Nat => D.int (i : Int)) := by rw [dR1_n (by omega)]; simp [rngD]
  simp_arith only [b__law_nodes, e_next, ew, eb, rm]
  refine ws_for (fun es s => ∃ (j : Nat) (x5 : Option R), isOwned x5 = false ∧ j ≤ m ∧ es = (List.range' j (m - j)).map (fun i : Nat => D.int (i : Int)) ∧ s = [some (st (nxA (nxA a ns c) ns (c + 1)) ns ((c + 1 + 1 : Nat) : Int)), some (.d (.int (m : Int))), some (.d (.int (w : Int))), some (.d (.int (base : Int))), some (.ol ((List.range j).map (ndD w base))), x5]) ⟨0, none, rfl, Nat.zero_le _, by simp [List.range_eq_range'], rfl⟩ ?_ ?_
  · rintro d r s ⟨j, x5, o5, hj, hd, rfl⟩
    have lt : j < m := by
      apply Classical.byContradiction
      intro h
      rw [show m - j = 0 by omega] at hd
      simp at hd
    obtain ⟨i, hi⟩ : ∃ i, m - j = i + 1 := ⟨m - j - 1, by omega⟩
    rw [hi, List.range'_succ, List.map_cons] at hd
    injection hd with h1 h2
    subst h2
    obtain ⟨X1, Y1, Z1, Y2, Z2, V, f1, f2, f3, f4, f5, f6, f7⟩ := node_at w base j hw (by omega) (by omega)
    rw [← h1] at f1 f4
    simp_arith only [o5, f1, f2, f3, f4, f5, f6]
    refine ⟨by simp; omega, j + 1, some (.d d), rfl, by omega, by rw [show m - (j + 1) = i by omega], ?_⟩
    rw [List.range_succ, List.map_append, f7]; rfl
  · rintro s ⟨j, x5, o5, hj, hd, rfl⟩
    have e : j = m := by
      apply Classical.byContradiction
      intro h
      obtain ⟨i, hi⟩ : ∃ i, m - j = i + 1 := ⟨m - j - 1, by omega⟩
      rw [hi, List.range'_succ] at hd
      simp at hd
    subst e
    simp_arith only []
    exact ⟨_, w, base, _, rfl, rfl⟩
theorem rung_wf (a : Int) (ns : List Int) (c : Nat) (b : Nat) (hb : b ≤ 1000) : wf F__law_rung [st a ns c, .d (.int (b : Int))] fun o rs => ∃ a' qs, ∃ c' : Nat, qs.Pairwise (· < ·) ∧ (∀ q ∈ qs, q < b) ∧ o = .v (.d (rgD qs)) ∧ rs = [st a' ns c', .d (.int (b : Int))] := by
  unfold F__law_rung
  simp_arith only [b__law_rung, e_next]
  refine wd_of (fun h => ?_) (fun h => ?_)
  · simp_arith only []
    exact ⟨_, [], _, .nil, (fun q h => by cases h), rfl, rfl⟩
  have h0 : 0 < b := by have := of_decide_eq_false h; omega
  simp_arith only []
  refine wd_of (fun h => ?_) (fun h => ?_)
  · simp_arith only []
    exact ⟨_, [], _, .nil, (fun q h => by cases h), rfl, rfl⟩
  simp_arith only []
  refine wd_of (fun h => ?_) (fun h => ?_)
  · obtain ⟨q, hq, eq_⟩ := mod_nat (nxR (nxA a ns c) ns (c + 1)) b h0
    have hp : (0 < (b : Int)) = True := eq_true (by omega)
    simp_arith only [e_next, hp, eq_]
    exact ⟨_, [q], _, List.pairwise_singleton _ _, fun x hx => by rw [List.mem_singleton] at hx; omega, rfl, rfl⟩
  have rm : dR1 [.int (b : Int)] = some ((List.range b).map fun i : Nat => D.int (i : Int)) := by rw [dR1_n (by omega)]; simp [rngD]
  simp_arith only [rm]
  obtain ⟨x2, hx2⟩ : ∃ x2 : Option R, x2 = some (.d (.int (nxR a ns c % 6))) := ⟨_, rfl⟩
  refine wl_inv (fun ds ac s => ∃ (ys ss : List Nat) (a' : Int) (c' : Nat), ds = ys.map (fun i : Nat => D.int (i : Int)) ∧ ac = ss.map (fun i : Nat => D.int (i : Int)) ∧ (ss ++ ys).Sublist (List.range b) ∧ s = [some (st a' ns c'), some (.d (.int (b : Int))), some (.d (.int (nxR a ns c % 6))), none]) ⟨List.range b, [], _, _, rfl, rfl, List.Sublist.refl _, rfl⟩ ?_ ?_
  · rintro d r ac s ⟨ys, ss, a1, c1, hd, rfl, hs, rfl⟩
    cases ys with
    | nil => cases hd
    | cons y ys =>
      rw [List.map_cons] at hd
      injection hd with e1 e2
      subst e1 e2
      have hlen := hs.length_le
      simp only [List.length_append, List.length_cons, List.length_range] at hlen
      simp_arith only [e_next]
      cases hb : decide (nxR a1 ns c1 % 2 = 1) with
      | true =>
        refine .inl ⟨rfl, ?_⟩
        simp_arith only []
        exact ⟨_, rfl, by first | omega | (simp only [szl]; omega), ys, ss ++ [y], _, _, rfl, by simp, by rw [List.append_assoc]; exact hs, rfl⟩
      | false =>
        exact .inr ⟨rfl, ys, ss, _, _, rfl, rfl, List.Sublist.trans (List.Sublist.append_left (List.sublist_cons_self y ys) ss) hs, rfl⟩
  · rintro ac s ⟨ys, ss, a1, c1, hd, rfl, hs, rfl⟩
    have hy : ys = [] := by cases ys with | nil => rfl | cons y ys => cases hd
    subst hy
    rw [List.append_nil] at hs
    simp_arith only []
    exact ⟨_, ss, _, List.Pairwise.sublist hs List.pairwise_lt_range, fun q hq => List.mem_range.mp (hs.subset hq), rfl, rfl⟩
end K41
set_option Elab.async false
set_option linter.all false
set_option maxRecDepth 100000
set_option maxHeartbeats 4000000
namespace K41
open PySem hiding ret plain
open Fz hiding tb nx
abbrev En := Nat × List Sp
def dR (nd : Nat → D) (L : List En) : R := match L with
  | [] => .od [] []
  | _ => .nd (L.map fun e => nd e.1) (L.map fun e => .ol (e.2.map (stD nd)))
theorem opSet_dR {nd : Nat → D} (N : Nds nd) {L : List En} {k : Nat} {xs : List Sp} (h : k ∉ L.map (·.1)) (hl : L.length < 16777216) : opSet (dR nd L) (nd k) (.ol (xs.map (stD nd))) = some (dR nd (L ++ [(k, xs)])) := by
  have hk : (L.map fun e => nd e.1) = (L.map (·.1)).map nd := by rw [List.map_map]; rfl
  cases L with
  | nil =>
    show (if dkOk [] (nd k) = true ∧ ([] : List D).length < sizeLine then some (R.nd (dputK [] (nd k)) (dputV [] (([] : List D).map R.d) (nd k) (.ol (xs.map (stD nd))))) else none) = _
    rw [if_pos ⟨dkOk_nd N [] k, by decide⟩]; rfl
  | cons e L =>
    show (if dkOk ((e :: L).map fun e => nd e.1) (nd k) = true ∧ ((e :: L).map fun e => R.ol (e.2.map (stD nd))).length < sizeLine then some (R.nd (dputK ((e :: L).map fun e => nd e.1) (nd k)) (dputV ((e :: L).map fun e => nd e.1) ((e :: L).map fun e => R.ol (e.2.map (stD nd))) (nd k) (.ol (xs.map (stD nd))))) else none) = _
    rw [hk, if_pos ⟨dkOk_nd N _ k, by rw [List.length_map]; exact hl⟩]
    unfold dputK dputV
    rw [kposN_nd N h]
    show some (R.nd _ _) = some (R.nd _ _)
    rw [← hk]
    simp
theorem wholeL_dR {nd : Nat → D} : ∀ L : List En, wholeBL nf (L.map fun e => R.ol (e.2.map (stD nd))) = true
  | [] => rfl
  | e :: L => by show (true && wholeBL nf _) = true; rw [wholeL_dR L]; rfl
theorem whole_dR {nd : Nat → D} (L : List En) : wholeB nf (dR nd L) = true := by
  cases L with
  | nil => rfl
  | cons e L => exact wholeL_dR (e :: L)
def gsOf (L : List En) (k : Nat) : List Sp := ((L.find? fun e => decide (e.1 = k)).map (·.2)).getD []
theorem gsOf_map : ∀ {L : List En}, (L.map (·.1)).Nodup → L = (L.map (·.1)).map fun k => (k, gsOf L k)
  | [], _ => rfl
  | e :: L, h => by
    have h2 := List.nodup_cons.mp (show (e.1 :: L.map (·.1)).Nodup from h)
    have ih := gsOf_map h2.2
    show e :: L = (e.1, gsOf (e :: L) e.1) :: (L.map (·.1)).map fun k => (k, gsOf (e :: L) k)
    have e1 : gsOf (e :: L) e.1 = e.2 := by unfold gsOf; rw [List.find?_cons_of_pos (by simp)]; rfl
    have e2 : ((L.map (·.1)).map fun k => (k, gsOf (e :: L) k)) = (L.map (·.1)).map fun k => (k, gsOf L k) := by
      refine List.map_congr_left fun k hk => ?_
      have : ¬ e.1 = k := fun z => h2.1 (z ▸ hk)
      unfold gsOf
      rw [List.find?_cons_of_neg (by simp [this])]
    rw [e1, e2, ← ih]
theorem gsOf_mem {L : List En} {k : Nat} {x : Sp} (h : x ∈ gsOf L k) : ∃ e ∈ L, e.1 = k ∧ x ∈ e.2 := by
  unfold gsOf at h
  cases e : L.find? fun e => decide (e.1 = k) with
  | none => rw [e] at h; cases h
  | some y =>
    rw [e] at h
    exact ⟨y, List.mem_of_find?_eq_some e, of_decide_eq_true (by simpa using List.find?_some e), h⟩
theorem vwL_dR {nd : Nat → D} : ∀ L : List En, vwL (L.map fun e => R.ol (e.2.map (stD nd))) = L.map fun e => ssD nd e.2
  | [] => rfl
  | e :: L => by show _ :: vwL _ = _ :: _; rw [vwL_dR L]; rfl
theorem vw_dR {nd : Nat → D} {L : List En} (h : (L.map (·.1)).Nodup) : vw (dR nd L) = grD nd (L.map (·.1)) (gsOf L) := by
  have hk : (L.map fun e => nd e.1) = (L.map (·.1)).map nd := by rw [List.map_map]; rfl
  have hv : (L.map fun e => ssD nd e.2) = (L.map (·.1)).map fun k => ssD nd (gsOf L k) := by
    have e := gsOf_map h
    have := congrArg (fun M : List En => M.map fun e => ssD nd e.2) e
    simp only [List.map_map] at this
    rw [List.map_map]
    exact this
  cases L with
  | nil => rfl
  | cons e L =>
    show D.dct _ (vwL _) = D.dct _ _
    rw [vwL_dR, hk, hv]
theorem ins_perm {ord : List Nat} {j : Nat} (h : ord.Perm (List.range j)) (i : Nat) : (ord.take i ++ [j] ++ ord.drop i).Perm (List.range (j + 1)) := by
  rw [List.append_assoc, List.range_succ]
  refine (List.perm_middle (l₁ := ord.take i) (l₂ := ord.drop i) (a := j)).trans ?_
  rw [List.take_append_drop]
  exact (List.Perm.cons j h).trans (List.perm_append_comm (l₁ := [j]) (l₂ := List.range j))
theorem at_nd {nd : Nat → D} {ks : List Nat} {i : Nat} (h : i < ks.length) : dIx (.lst (ks.map nd)) (.int (i : Int)) = some (nd (ks.getD i 0)) := by
  rw [e_ixn, List.getElem?_map, List.getElem?_eq_getElem h, List.getD_eq_getElem?_getD, List.getElem?_eq_getElem h]; rfl
theorem rng_get {m i : Nat} (h : i < m) : (List.range m).getD i 0 = i := by
  rw [List.getD_eq_getElem?_getD, List.getElem?_range h]; rfl
theorem graph_wf (a : Int) (ns : List Int) (c : Nat) (m t b : Nat) (hm0 : 0 < m) (hm : m ≤ 1000) (ht : t ≤ 1000) (hb : b ≤ 1000) : wf F__law_graph [st a ns c, .d (.int (m : Int)), .d (.int (t : Int)), .d (.int (b : Int))] fun o rs => ∃ a' w base ks gs, ∃ c' : Nat, ks.Perm (List.range m) ∧ (∀ k, k < m → (gs k).length ≤ t ∧ ∀ x ∈ gs k, x.1 < m ∧ x.2.Pairwise (· < ·) ∧ ∀ q ∈ x.2, q < b) ∧ o = .v (.d (grD (ndD w base) ks gs)) ∧ rs = [st a' ns c', .d (.int (m : Int)), .d (.int (t : Int)), .d (.int (b : Int))] := by
  unfold F__law_graph
  obtain ⟨_, _, en, a1, w, base, c1, rfl, rfl⟩ := wf_get (nodes_wf a ns c m hm)
  have N := nds w base
  obtain ⟨nd, hnd⟩ : ∃ nd, nd = ndD w base := ⟨_, rfl⟩
  rw [← hnd] at en N
  have fin : ∀ {ks gs a' o rs}, ∀ c' : Nat, ks.Perm (List.range m) → (∀ k, k < m → (gs k).length ≤ t ∧ ∀ x ∈ gs k, x.1 < m ∧ x.2.Pairwise (· < ·) ∧ ∀ q ∈ x.2, q < b) → o = Oc.v (R.d (grD nd ks gs)) → rs = [st a' ns c', .d (.int (m : Int)), .d (.int (t : Int)), .d (.int (b : Int))] → ∃ a' w base ks gs, ∃ c' : Nat, ks.Perm (List.range m) ∧ (∀ k, k < m → (gs k).length ≤ t ∧ ∀ x ∈ gs k, x.1 < m ∧ x.2.Pairwise (· < ·) ∧ ∀ q ∈ x.2, q < b) ∧ o = .v (.d (grD (ndD w base) ks gs)) ∧ rs = [st a' ns c', .d (.int (m : Int)), .d (.int (t : Int)), .d (.int (b : Int))] := fun {ks gs a' o rs} c' h1 h2 h3 h4 => ⟨a', w, base, ks, gs, c', h1, h2, hnd ▸ h3, h4⟩
  have nlen : ((List.range m).map nd).length = m := by simp
  generalize hQ : (fun (o : Oc R) (rs : List R) => ∃ a' w base ks gs, ∃ c' : Nat, ks.Perm (List.range m) ∧ (∀ k, k < m → (gs k).length ≤ t ∧ ∀ x ∈ gs k, x.1 < m ∧ x.2.Pairwise (· < ·) ∧ ∀ q ∈ x.2, q < b) ∧ o = Oc.v (R.d (grD (ndD w base) ks gs)) ∧ rs = [st a' ns c', .d (.int (m : Int)), .d (.int (t : Int)), .d (.int (b : Int))]) = Q
  simp_arith only [b__law_graph, wf_of en]
  refine ws_for (fun es s => ∃ (j c' : Nat) (a' : Int) (ord : List Nat) (x7 : Option R), isOwned x7 = false ∧ j ≤ m ∧ ord.Perm (List.range j) ∧ es = (List.range' j (m - j)).map nd ∧ s = [some (st a' ns c'), some (.d (.int (m : Int))), some (.d (.int (t : Int))), some (.d (.int (b : Int))), some (.d (.lst ((List.range m).map nd))), some (.od [] []), some (.ol (ord.map nd)), x7, none, none, none, none]) ⟨0, _, _, [], none, rfl, Nat.zero_le _, .nil, by simp [List.range_eq_range'], rfl⟩ ?_ ?_
  · rintro d r s ⟨j, c', a', ord, x7, o7, hj, hp, hd, rfl⟩
    have lt : j < m := by
      apply Classical.byContradiction
      intro h
      rw [show m - j = 0 by omega] at hd
      simp at hd
    obtain ⟨i, hi⟩ : ∃ i, m - j = i + 1 := ⟨m - j - 1, by omega⟩
    rw [hi, List.range'_succ, List.map_cons] at hd
    injection hd with h1 h2
    subst h1 h2
    have ol : ord.length = j := by have := hp.length_eq; simpa using this
    obtain ⟨k, hk, ek⟩ := mod_nat (nxR a' ns c') (j + 1) (by omega)
    have ek : nxR a' ns c' % ((j : Int) + 1) = (k : Int) := by rw [← ek]; norm_cast
    have hp1 : (0 < (j : Int) + 1) = True := eq_true (by omega)
    have oi : opIns (.ol (ord.map nd)) [.int (k : Int), nd j] = some (.ol ((ord.take k ++ [j] ++ ord.drop k).map nd), .non) := by
      have sm : smallI (k : Int) = true := by simp [smallI]; omega
      show (if (ord.map nd).length < sizeLine ∧ 0 ≤ (k : Int) ∧ smallI (k : Int) = true then _ else _) = _
      rw [if_pos ⟨by rw [List.length_map, szl]; omega, by omega, sm⟩]
      simp [List.map_take, List.map_drop]
    simp_arith only [o7, e_next, vwN_st, List.length_map, ol, ek, hp1, oi]
    exact ⟨j + 1, c' + 1, _, _, some (.d (nd j)), rfl, by omega, ins_perm hp k, by rw [show m - (j + 1) = i by omega], rfl⟩
  · rintro s ⟨j, c', a', ord, x7, o7, hj, hp, hd, rfl⟩
    have e : j = m := by
      apply Classical.byContradiction
      intro h
      obtain ⟨i, hi⟩ : ∃ i, m - j = i + 1 := ⟨m - j - 1, by omega⟩
      rw [hi, List.range'_succ] at hd
      simp at hd
    subst e
    obtain ⟨n3, hn3, en3⟩ := mod_nat (nxR a' ns c') 3 (by decide)
    have en3 : nxR a' ns c' % 3 = (n3 : Int) := en3
    have okn : ord.Nodup := hp.nodup_iff.mpr List.nodup_range
    have olt : ∀ k ∈ ord, k < j := fun k hk => List.mem_range.mp (hp.mem_iff.mp hk)
    have ol : ord.length = j := by have := hp.length_eq; simpa using this
    simp_arith only [o7, e_next, en3]
    refine ws_for (fun es s => ∃ (dn : List En) (rest : List Nat) (c' : Nat) (a' : Int) (x7 x9 x10 x11 : Option R), isOwned x7 = false ∧ isOwned x9 = false ∧ isOwned x10 = false ∧ isOwned x11 = false ∧ ord = dn.map (·.1) ++ rest ∧ (∀ e ∈ dn, e.2.length ≤ t ∧ ∀ x ∈ e.2, x.1 < j ∧ x.2.Pairwise (· < ·) ∧ ∀ q ∈ x.2, q < b) ∧ es = rest.map nd ∧
      s = [some (st a' ns c'), some (.d (.int (j : Int))), some (.d (.int (t : Int))), some (.d (.int (b : Int))), some (.d (.lst ((List.range j).map nd))), some (dR nd dn), some (.d (.lst (ord.map nd))), x7, some (.d (.int (n3 : Int))), x9, x10, x11]) ⟨[], ord, _, _, _, none, none, none, o7, rfl, rfl, rfl, rfl, (fun e h => by cases h), rfl, rfl⟩ ?_ ?_
    · rintro d r s ⟨dn, rest, c1, a1, x7, x9, x10, x11, o7, o9, o10, o11, hord, hdn, hd, rfl⟩
      cases rest with
      | nil => cases hd
      | cons k rest =>
        rw [List.map_cons] at hd
        injection hd with h1 h2
        subst h1 h2
        have hkm : k ∈ ord := by rw [hord]; simp
        have hkj := olt k hkm
        have hkn : k ∉ dn.map (·.1) := fun z => by
          have := okn
          rw [hord] at this
          exact (List.nodup_append.mp this).2.2 _ z _ (.head _) rfl
        have dlen : dn.length < 16777216 := by
          have := congrArg List.length hord
          simp at this
          omega
        have ixk := index_nd N (List.nodup_range (n := j)) (j := k) (a := k) (List.getElem?_range hkj)
        obtain ⟨u, hu, eu⟩ := mod_nat (nxR a1 ns c1) (t + 1) (by omega)
        have eu : nxR a1 ns c1 % ((t : Int) + 1) = (u : Int) := by rw [← eu]; norm_cast
        have hp1 : (0 < (t : Int) + 1) = True := eq_true (by omega)
        have hpj : (0 < (j : Int)) = True := eq_true (by omega)
        have ru : dR1 [.int (u : Int)] = some ((List.range u).map fun i : Nat => D.int (i : Int)) := by rw [dR1_n (by omega)]; simp [rngD]
        simp_arith only [o7, o9, e_next, eu, hp1, ru]
        refine ws_for (fun es s => ∃ (v c' : Nat) (a' : Int) (S : List Sp) (x10 x11 : Option R), isOwned x10 = false ∧ isOwned x11 = false ∧ v ≤ u ∧ S.length = v ∧ (∀ x ∈ S, x.1 < j ∧ x.2.Pairwise (· < ·) ∧ ∀ q ∈ x.2, q < b) ∧ es = (List.range' v (u - v)).map (fun i : Nat => D.int (i : Int)) ∧
          s = [some (st a' ns c'), some (.d (.int (j : Int))), some (.d (.int (t : Int))), some (.d (.int (b : Int))), some (.d (.lst ((List.range j).map nd))), some (dR nd dn), some (.d (.lst (ord.map nd))), some (.d (nd k)), some (.d (.int (n3 : Int))), some (.ol (S.map (stD nd))), x10, x11]) ⟨0, _, _, [], x10, x11, o10, o11, Nat.zero_le _, rfl, (fun x h => by cases h), by simp [List.range_eq_range'], rfl⟩ ?_ ?_
        · rintro d r s ⟨v, c2, a2, S, x10, x11, o10, o11, hv, hS, hgS, hd, rfl⟩
          have lt : v < u := by
            apply Classical.byContradiction
            intro h
            rw [show u - v = 0 by omega] at hd
            simp at hd
          obtain ⟨i, hi⟩ : ∃ i, u - v = i + 1 := ⟨u - v - 1, by omega⟩
          rw [hi, List.range'_succ, List.map_cons] at hd
          injection hd with h1 h2
          subst h2
          have Sv : (v < 16777216) = True := eq_true (by omega)
          have slen : S.length = v := hS
          have stp : ∀ p qs, (fun z : Option R => isOwned z = false) (some (.d d)) → p < j → qs.Pairwise (· < ·) → (∀ q ∈ qs, q < b) → ∀ (a3 : Int) (c3 : Nat) (z : Option R), isOwned z = false → ∃ (y c' : Nat) (a' : Int) (S' : List Sp) (x10 x11 : Option R), isOwned x10 = false ∧ isOwned x11 = false ∧ y ≤ u ∧ S'.length = y ∧ (∀ x ∈ S', x.1 < j ∧ x.2.Pairwise (· < ·) ∧ ∀ q ∈ x.2, q < b) ∧ (List.range' (v + 1) i).map (fun i : Nat => D.int (i : Int)) = (List.range' y (u - y)).map (fun i : Nat => D.int (i : Int)) ∧
              [some (st a3 ns c3), some (.d (.int (j : Int))), some (.d (.int (t : Int))), some (.d (.int (b : Int))), some (.d (.lst ((List.range j).map nd))), some (dR nd dn), some (.d (.lst (ord.map nd))), some (.d (nd k)), some (.d (.int (n3 : Int))), some (.ol (S.map (stD nd) ++ [.tup [nd p, rgD qs]])), some (.d d), z] = [some (st a' ns c'), some (.d (.int (j : Int))), some (.d (.int (t : Int))), some (.d (.int (b : Int))), some (.d (.lst ((List.range j).map nd))), some (dR nd dn), some (.d (.lst (ord.map nd))), some (.d (nd k)), some (.d (.int (n3 : Int))), some (.ol (S'.map (stD nd))), x10, x11] := by
            intro p qs h0 hp hq1 hq2 a3 c3 z hz
            refine ⟨v + 1, c3, a3, S ++ [(p, qs)], some (.d d), z, rfl, hz, by omega, by simp [hS], fun x hx => ?_, by rw [show u - (v + 1) = i by omega], ?_⟩
            · rcases List.mem_append.mp hx with hx | hx
              · exact hgS x hx
              · rw [List.mem_singleton] at hx
                subst hx
                exact ⟨hp, hq1, hq2⟩
            · rw [List.map_append]; rfl
          obtain ⟨p1, hp1', ep1⟩ := mod_nat (nxR a2 ns c2) j hm0
          have pick : ∀ p : Nat, p < j → dIx (.lst ((List.range j).map nd)) (.int (p : Int)) = some (nd p) := fun p hp => by
            rw [at_nd (by simpa using hp), rng_get hp]
          simp_arith only [o10, o11, e_next, hpj, ep1]
          refine wd_of (fun hn => ?_) (fun hn => ?_)
          · have hn0 : 0 < n3 := by have := of_decide_eq_true hn; omega
            simp_arith only [e_next]
            refine wd_of (fun h4 => ?_) (fun h4 => ?_)
            · obtain ⟨e3, he3, ee3⟩ := mod_nat (nxR (nxA (nxA a2 ns c2) ns (c2 + 1)) ns (c2 + 1 + 1)) n3 hn0
              have hpn : (0 < (n3 : Int)) = True := eq_true (by omega)
              obtain ⟨p2, hp2, ep2⟩ := mod_nat ((k : Int) + 1 + (e3 : Int)) j hm0
              obtain ⟨_, _, er, a4, qs, c4, q1, q2, rfl, rfl⟩ := wf_get (rung_wf (nxA (nxA (nxA a2 ns c2) ns (c2 + 1)) ns (c2 + 1 + 1)) ns (c2 + 1 + 1 + 1) b hb)
              simp_arith only [e_next, ixk, hpn, ee3, hpj, ep2, pick p2 hp2, wf_of er, List.length_map, slen, Sv]
              first | exact ⟨by omega, stp p2 qs rfl hp2 q1 q2 _ _ (some (.d (.int (p2 : Int)))) rfl⟩ | exact stp p2 qs rfl hp2 q1 q2 _ _ (some (.d (.int (p2 : Int)))) rfl
            · obtain ⟨_, _, er, a4, qs, c4, q1, q2, rfl, rfl⟩ := wf_get (rung_wf (nxA (nxA a2 ns c2) ns (c2 + 1)) ns (c2 + 1 + 1) b hb)
              simp_arith only [pick p1 hp1', wf_of er, List.length_map, slen, Sv]
              first | exact ⟨by omega, stp p1 qs rfl hp1' q1 q2 _ _ (some (.d (.int (p1 : Int)))) rfl⟩ | exact stp p1 qs rfl hp1' q1 q2 _ _ (some (.d (.int (p1 : Int)))) rfl
          · obtain ⟨_, _, er, a4, qs, c4, q1, q2, rfl, rfl⟩ := wf_get (rung_wf (nxA a2 ns c2) ns (c2 + 1) b hb)
            simp_arith only [pick p1 hp1', wf_of er, List.length_map, slen, Sv]
            first | exact ⟨by omega, stp p1 qs rfl hp1' q1 q2 _ _ (some (.d (.int (p1 : Int)))) rfl⟩ | exact stp p1 qs rfl hp1' q1 q2 _ _ (some (.d (.int (p1 : Int)))) rfl
        · rintro s ⟨v, c2, a2, S, x10, x11, o10, o11, hv, hS, hgS, hd, rfl⟩
          have os := opSet_dR N (xs := S) hkn dlen
          have gk : gt (vwN nf [some (st a2 ns (c2 : Int)), some (R.d (.int (j : Int))), some (R.d (.int (t : Int))), some (R.d (.int (b : Int))), some (R.d (.lst ((List.range j).map nd))), some (dR nd dn), some (R.d (.lst (ord.map nd))), some (R.d (nd k)), some (R.d (.int (n3 : Int))), none, x10, x11]) 7 = some (some (R.d (nd k))) := rfl
          have imk : imm (nd k) = true := N.im k
          simp_arith only [gk, imk, os]
          refine ⟨dn ++ [(k, S)], rest, _, _, some (.d (nd k)), _, x10, x11, rfl, ?_, o10, o11, by rw [hord]; simp, fun e he => ?_, rfl, rfl⟩
          · rfl
          · rcases List.mem_append.mp he with he | he
            · exact hdn e he
            · rw [List.mem_singleton] at he
              subst he
              exact ⟨by show S.length ≤ t; omega, hgS⟩
    · rintro s ⟨dn, rest, c1, a1, x7, x9, x10, x11, o7, o9, o10, o11, hord, hdn, hd, rfl⟩
      have hr0 : rest = [] := by cases rest with | nil => rfl | cons k r => cases hd
      subst hr0
      rw [List.append_nil] at hord
      have nd1 : (dn.map (·.1)).Nodup := by rw [← hord]; exact okn
      have wr := whole_dR (nd := nd) dn
      have vr := vw_dR (nd := nd) nd1
      simp_arith only [wr, vr]
      rw [← hQ]
      refine fin c1 (by rw [← hord]; exact hp) (fun k hk => ?_) rfl rfl
      have key : ∀ x ∈ gsOf dn k, x.1 < j ∧ x.2.Pairwise (· < ·) ∧ ∀ q ∈ x.2, q < b := fun x hx => by
        obtain ⟨e, he, _, hxe⟩ := gsOf_mem hx
        exact (hdn e he).2 x hxe
      refine ⟨?_, key⟩
      unfold gsOf
      cases ef : dn.find? fun e => decide (e.1 = k) with
      | none => exact Nat.zero_le _
      | some e => exact (hdn e (List.mem_of_find?_eq_some ef)).1
end K41
set_option Elab.async false
set_option linter.all false
set_option maxRecDepth 100000
set_option maxHeartbeats 4000000
namespace K41
open PySem hiding ret plain
open Fz hiding tb nx
open FzQ (ext fin comeN)
structure Gr (m : Nat) (ks : List Nat) (gs : Nat → List Sp) : Prop where
  perm : ks.Perm (List.range m)
  lt : ∀ k, k < m → ∀ x ∈ gs k, x.1 < m
  len : ∀ k, k < m → (gs k).length ≤ 1000
theorem Gr.nodup {m : Nat} {ks : List Nat} {gs : Nat → List Sp} (h : Gr m ks gs) : ks.Nodup := h.perm.nodup_iff.mpr List.nodup_range
theorem Gr.mem {m : Nat} {ks : List Nat} {gs : Nat → List Sp} (h : Gr m ks gs) {k : Nat} : k ∈ ks ↔ k < m := h.perm.mem_iff.trans List.mem_range
theorem Gr.length {m : Nat} {ks : List Nat} {gs : Nat → List Sp} (h : Gr m ks gs) : ks.length = m := by have := h.perm.length_eq; simpa using this
def gt' (gs : Nat → List Sp) (k : Nat) : List Nat := (gs k).map (·.1)
theorem gT_st (nd : Nat → D) (x : Sp) (i j : Nat) (s : Sl) : gT 2 (gsC (gN i) (gsC (gN j) gsN)) (stD nd x) s = gT 2 (gsC (gN i) (gsC (gN j) gsN)) (.tup [nd x.1, rgD x.2]) s := rfl
theorem put_in {F : List Nat} {t : Nat} (h : t ∈ F) : FzQ.put F t = F := by unfold FzQ.put; rw [if_pos h]
theorem put_new {F : List Nat} {t : Nat} (h : t ∉ F) : FzQ.put F t = F ++ [t] := by unfold FzQ.put; rw [if_neg h]
section
variable {nd : Nat → D} (N : Nds nd) {m : Nat} {ks : List Nat} {gs : Nat → List Sp} (G : Gr m ks gs)
include N G
theorem ixG {k : Nat} (h : k < m) : dIxD (grD nd ks gs) (nd k) = some (ssD nd (gs k)) := ixD_nd N G.nodup (G.mem.mpr h) fun k => ssD nd (gs k)
theorem starts_wf (a : Int) (ns : List Int) (c : Nat) (hm0 : 0 < m) : wf F__law_starts [st a ns c, .d (grD nd ks gs)] fun o rs => ∃ a', ∃ S : List Nat, ∃ c' : Nat, (∀ x ∈ S, x < m) ∧ S.length ≤ 3 ∧ o = .v (.ol (S.map nd)) ∧ rs = [st a' ns c', .d (grD nd ks gs)] := by
  unfold F__law_starts
  obtain ⟨n, hn, en⟩ := mod_nat (nxR a ns c) 3 (by decide)
  have en : nxR a ns c % 3 = (n : Int) := en
  have e1 : (1 : Int) + (n : Int) = ((1 + n : Nat) : Int) := by omega
  have rm : dR1 [.int ((1 + n : Nat) : Int)] = some ((List.range (1 + n)).map fun i : Nat => D.int (i : Int)) := by rw [dR1_n (by omega)]; simp [rngD]
  have hl : gListD [grD nd ks gs] = some (ks.map nd) := listD_nd N ks _
  have kl := G.length
  have hp : (0 < (m : Int)) = True := eq_true (by omega)
  simp_arith only [b__law_starts, hl, e_next, en, e1, rm]
  refine wl_inv (fun ds ac s => ∃ (S : List Nat) (a' : Int) (c' : Nat) (x2 : R), (x2 = .ol (ks.map nd) ∨ x2 = .d (.lst (ks.map nd))) ∧ (∀ x ∈ S, x < m) ∧ ac = S.map nd ∧ S.length + ds.length = 1 + n ∧ s = [some (st a' ns c'), some (.d (grD nd ks gs)), some x2, none]) ⟨[], _, _, _, .inl rfl, (fun x h => by cases h), rfl, by simp, rfl⟩ ?_ ?_
  · rintro d r ac s ⟨S, a1, c1, x2, hx, hS, rfl, hlen, rfl⟩
    simp only [List.length_cons] at hlen
    obtain ⟨q, hq, eq_⟩ := mod_nat (nxR a1 ns c1) m hm0
    have pk : dIx (.lst (ks.map nd)) (.int (q : Int)) = some (nd (ks.getD q 0)) := at_nd (by omega)
    have hk : ks.getD q 0 < m := G.mem.mp (getD_mem (by omega))
    rcases hx with rfl | rfl <;>
    · simp_arith only [e_next, List.length_map, kl, hp, eq_, pk]
      refine .inl ⟨_, rfl, by first | omega | (simp only [szl]; omega), S ++ [ks.getD q 0], _, _, _, .inr rfl, fun x hx => ?_, by simp, by simp; omega, rfl⟩
      rcases List.mem_append.mp hx with hx | hx
      · exact hS x hx
      · rw [List.mem_singleton] at hx; subst hx; exact hk
  · rintro ac s ⟨S, a1, c1, x2, hx, hS, rfl, hlen, rfl⟩
    simp at hlen
    simp_arith only []
    exact ⟨_, S, _, hS, by omega, rfl, rfl⟩
theorem come_wf (S : List Nat) (hS : ∀ x ∈ S, x < m) (hSl : S.length ≤ 1000) (hm : m ≤ 90) : wf F__law_come [.d (grD nd ks gs), .d (.lst (S.map nd))] fun o rs => o = .v (.ol ((fin (gt' gs) m S).map nd)) ∧ rs = [.d (grD nd ks gs), .d (.lst (S.map nd))] := by
  unfold F__law_come
  simp_arith only [b__law_come]
  refine ws_for (fun es s => ∃ (rest F : List Nat) (x3 : Option R), isOwned x3 = false ∧ (∀ x ∈ rest, x < m) ∧ F.Nodup ∧ (∀ x ∈ F, x < m) ∧ ext F rest = ext [] S ∧ es = rest.map nd ∧ s = [some (.d (grD nd ks gs)), some (.d (.lst (S.map nd))), some (.ol (F.map nd)), x3, none, none, none]) ⟨S, [], none, rfl, hS, List.nodup_nil, (fun x h => by cases h), rfl, rfl, rfl⟩ ?_ ?_
  · rintro d r s ⟨rest, F, x3, o3, hr, hF, hFm, he, hd, rfl⟩
    cases rest with
    | nil => cases hd
    | cons k rest =>
      rw [List.map_cons] at hd
      injection hd with h1 h2
      subst h1 h2
      have hk := hr k (.head _)
      have hr : ∀ x ∈ rest, x < m := fun x hx => hr x (.tail _ hx)
      have fl := FzQ.len_le hF hFm
      simp_arith only [o3, nin_nd N]
      refine wd_of (fun h => ?_) (fun h => ?_)
      · have h : k ∉ F := by simpa using h
        simp_arith only [List.length_map]
        refine ⟨by omega, rest, F ++ [k], some (.d (nd k)), rfl, hr, ?_, fun x hx => ?_, ?_, rfl, by rw [List.map_append]; rfl⟩
        · rw [← put_new h]; exact FzQ.put_nodup hF k
        · rcases List.mem_append.mp hx with hx | hx
          · exact hFm x hx
          · rw [List.mem_singleton] at hx; subst hx; exact hk
        · rw [← he, FzQ.ext_cons, put_new h]
      · have h : k ∈ F := by simpa using h
        simp_arith only []
        exact ⟨rest, F, some (.d (nd k)), rfl, hr, hF, hFm, by rw [← he, FzQ.ext_cons, put_in h], rfl, rfl⟩
  · rintro s ⟨rest, F, x3, o3, hr, hF, hFm, he, hd, rfl⟩
    have hr0 : rest = [] := by cases rest with | nil => rfl | cons k r => cases hd
    subst hr0
    rw [FzQ.ext_nil] at he
    simp_arith only [o3]
    refine ws_while (fun k s => ∃ (i : Nat) (F : List Nat) (x5 x6 : Option R), isOwned x5 = false ∧ isOwned x6 = false ∧ F.Nodup ∧ (∀ x ∈ F, x < m) ∧ k + i = m + 1 ∧ i ≤ m ∧ comeN (gt' gs) k F i = fin (gt' gs) m S ∧ s = [some (.d (grD nd ks gs)), some (.d (.lst (S.map nd))), some (.ol (F.map nd)), x3, some (.d (.int (i : Int))), x5, x6]) (k := m + 1) (by omega) ⟨0, F, none, none, rfl, rfl, hF, hFm, rfl, Nat.zero_le _, by rw [he]; rfl, rfl⟩ ?_
    rintro k s ⟨i, F, x5, x6, o5, o6, hF, hFm, hki, him, hc, rfl⟩
    have fl := FzQ.len_le hF hFm
    obtain ⟨k, rfl⟩ : ∃ k', k = k' + 1 := ⟨k - 1, by omega⟩
    have gk : gt (vwN nf [x3, some (R.d (D.int (i : Int))), x5, x6]) 1 = some (some (R.d (D.int (i : Int)))) := rfl
    simp_arith only [-n_sSeq, gk, List.length_map]
    refine wd_of (fun h => ?_) (fun h => ?_)
    · have h : i < F.length := by have := of_decide_eq_true h; omega
      rw [FzQ.comeN_step h] at hc
      have hFi : F[i] < m := hFm _ (List.getElem_mem h)
      have pk : dIx (.lst (F.map nd)) (.int (i : Int)) = some (nd F[i]) := by rw [at_nd h, List.getD_eq_getElem?_getD, List.getElem?_eq_getElem h]; rfl
      have ixg := ixG N G hFi
      have ssd : ssD nd (gs F[i]) = .lst ((gs F[i]).map (stD nd)) := rfl
      simp_arith only [-n_sSeq]
      rw [vs_v, wb_t, n_sSeq]
      simp_arith only [pk, ixg, ssd]
      refine ws_for (fun es s => ∃ (rest : List Sp) (F' : List Nat) (x5 x6 : Option R), isOwned x5 = false ∧ isOwned x6 = false ∧ (∀ x ∈ rest, x.1 < m) ∧ F'.Nodup ∧ (∀ x ∈ F', x < m) ∧ ext F' (rest.map (·.1)) = ext F (gt' gs F[i]) ∧ es = rest.map (stD nd) ∧ s = [some (.d (grD nd ks gs)), some (.d (.lst (S.map nd))), some (.ol (F'.map nd)), x3, some (.d (.int (i : Int))), x5, x6]) ⟨gs F[i], F, x5, x6, o5, o6, G.lt _ hFi, hF, hFm, rfl, rfl, rfl⟩ ?_ ?_
      · rintro d r s ⟨rest, F', x5, x6, o5, o6, hr, hF', hFm', he, hd, rfl⟩
        cases rest with
        | nil => cases hd
        | cons x rest =>
          rw [List.map_cons] at hd
          injection hd with h1 h2
          subst h1 h2
          have hx := hr x (.head _)
          have hr : ∀ y ∈ rest, y.1 < m := fun y hy => hr y (.tail _ hy)
          have fl := FzQ.len_le hF' hFm'
          have gk2 : gt (vwN nf [x3, some (R.d (D.int (i : Int))), some (R.d (nd x.1)), some (R.d (rgD x.2))]) 2 = some (some (R.d (nd x.1))) := rfl
          simp_arith only [gT_st, gT_eq, gsC_eq, gN_eq, gsN_eq, o5, o6, gk2, nin_nd N]
          refine wd_of (fun h => ?_) (fun h => ?_)
          · have h : x.1 ∉ F' := by simpa using h
            simp_arith only [List.length_map]
            refine ⟨by omega, rest, F' ++ [x.1], some (.d (nd x.1)), some (.d (rgD x.2)), rfl, rfl, hr, ?_, fun y hy => ?_, ?_, rfl, by rw [List.map_append]; rfl⟩
            · rw [← put_new h]; exact FzQ.put_nodup hF' x.1
            · rcases List.mem_append.mp hy with hy | hy
              · exact hFm' y hy
              · rw [List.mem_singleton] at hy; subst hy; exact hx
            · rw [← he, List.map_cons, FzQ.ext_cons, put_new h]
          · have h : x.1 ∈ F' := by simpa using h
            simp_arith only []
            exact ⟨rest, F', some (.d (nd x.1)), some (.d (rgD x.2)), rfl, rfl, hr, hF', hFm', by rw [← he, List.map_cons, FzQ.ext_cons, put_in h], rfl, rfl⟩
      · rintro s ⟨rest, F', x5, x6, o5, o6, hr, hF', hFm', he, hd, rfl⟩
        have hr0 : rest = [] := by cases rest with | nil => rfl | cons k r => cases hd
        subst hr0
        rw [List.map_nil, FzQ.ext_nil] at he
        have ei : (i : Int) + 1 = ((i + 1 : Nat) : Int) := by omega
        simp_arith only [o5, o6, ei]
        exact ⟨k, by omega, i + 1, F', x5, x6, o5, o6, hF', hFm', by omega, by omega, by rw [he]; exact hc, rfl⟩
    · have h : ¬ i < F.length := by have := of_decide_eq_false h; omega
      rw [FzQ.comeN_end h] at hc
      simp_arith only [-n_sSeq]
      rw [vs_v, wb_f]
      simp_arith only [o5, o6, hc]
end
end K41
set_option Elab.async false
set_option linter.all false
set_option maxRecDepth 100000
set_option maxHeartbeats 4000000
namespace K41
open PySem hiding ret plain
open Fz hiding tb nx
open FzQ (ext fin comeN)
section
variable {nd : Nat → D} (N : Nds nd) {m : Nat} {ks : List Nat} {gs : Nat → List Sp} (G : Gr m ks gs)
include N G
theorem reached_wf (S : List Nat) (hS : ∀ x ∈ S, x < m) (hSl : S.length ≤ 1000) (hm : m ≤ 90) : wf F_reached [.d (grD nd ks gs), .d (.lst (S.map nd))] fun o rs => o = .v (.ol ((fin (gt' gs) m S).map nd)) ∧ rs = [.d (grD nd ks gs), .d (.lst (S.map nd))] := by
  unfold F_reached
  have tl : ∀ F : List Nat, (F.map fun _ => D.bl true).length = F.length := fun F => List.length_map _
  simp_arith only [b_reached]
  refine ws_for (fun es s => ∃ (rest F : List Nat) (x3 : Option R), isOwned x3 = false ∧ (∀ x ∈ rest, x < m) ∧ F.Nodup ∧ (∀ x ∈ F, x < m) ∧ ext F rest = ext [] S ∧ es = rest.map nd ∧ s = [some (.d (grD nd ks gs)), some (.d (.lst (S.map nd))), some (.od (F.map nd) (F.map fun _ => D.bl true)), x3, none, none, none, none]) ⟨S, [], none, rfl, hS, List.nodup_nil, (fun x h => by cases h), rfl, rfl, rfl⟩ ?_ ?_
  · rintro d r s ⟨rest, F, x3, o3, hr, hF, hFm, he, hd, rfl⟩
    cases rest with
    | nil => cases hd
    | cons k rest =>
      rw [List.map_cons] at hd
      injection hd with h1 h2
      subst h1 h2
      have hk := hr k (.head _)
      have hr : ∀ x ∈ rest, x < m := fun x hx => hr x (.tail _ hx)
      have fl := FzQ.len_le hF hFm
      by_cases h : k ∈ F
      · have os := opSetd_oldN N hF h (x := .bl true) (fun _ => D.bl true) (by omega)
        simp_arith only [o3, os]
        exact ⟨rest, F, some (.d (nd k)), rfl, hr, hF, hFm, by rw [← he, FzQ.ext_cons, put_in h], rfl, rfl⟩
      · have os := opSetd_newN N (x := .bl true) h (vs := F.map fun _ => D.bl true) (by rw [tl]; omega)
        simp_arith only [o3, os]
        refine ⟨rest, F ++ [k], some (.d (nd k)), rfl, hr, ?_, fun x hx => ?_, ?_, rfl, by rw [List.map_append (f := fun _ => D.bl true)]; rfl⟩
        · rw [← put_new h]; exact FzQ.put_nodup hF k
        · rcases List.mem_append.mp hx with hx | hx
          · exact hFm x hx
          · rw [List.mem_singleton] at hx; subst hx; exact hk
        · rw [← he, FzQ.ext_cons, put_new h]
  · rintro s ⟨rest, F, x3, o3, hr, hF, hFm, he, hd, rfl⟩
    have hr0 : rest = [] := by cases rest with | nil => rfl | cons k r => cases hd
    subst hr0
    rw [FzQ.ext_nil] at he
    have hl : gListD [.dct (F.map nd) (F.map fun _ => D.bl true)] = some (F.map nd) := listD_nd N F _
    have im : imms (F.map nd) = true := by
      clear hl he hFm hF
      induction F with
      | nil => rfl
      | cons k F ih => show (imm (nd k) && imms (F.map nd)) = true; rw [N.im, ih]; rfl
    simp_arith only [o3, hl, im]
    refine ws_while (fun k s => ∃ (i : Nat) (F : List Nat) (x6 x7 : Option R), isOwned x6 = false ∧ isOwned x7 = false ∧ F.Nodup ∧ (∀ x ∈ F, x < m) ∧ k + i = m + 1 ∧ i ≤ m ∧ comeN (gt' gs) k F i = fin (gt' gs) m S ∧ s = [some (.d (grD nd ks gs)), some (.d (.lst (S.map nd))), some (.od (F.map nd) (F.map fun _ => D.bl true)), x3, some (.ol (F.map nd)), some (.d (.int (i : Int))), x6, x7]) (k := m + 1) (by omega) ⟨0, F, none, none, rfl, rfl, hF, hFm, rfl, Nat.zero_le _, by rw [he]; rfl, rfl⟩ ?_
    rintro k s ⟨i, F, x6, x7, o6, o7, hF, hFm, hki, him, hc, rfl⟩
    have fl := FzQ.len_le hF hFm
    obtain ⟨k, rfl⟩ : ∃ k', k = k' + 1 := ⟨k - 1, by omega⟩
    have gk : gt (vwN nf [x3, some (R.ol (F.map nd)), some (R.d (D.int (i : Int))), x6, x7]) 2 = some (some (R.d (D.int (i : Int)))) := rfl
    have gk1 : gt (vwN nf [x3, some (R.ol (F.map nd)), some (R.d (D.int (i : Int))), x6, x7]) 1 = some (some (R.d (D.lst (F.map nd)))) := rfl
    simp_arith only [-n_sSeq, gk, gk1, List.length_map]
    refine wd_of (fun h => ?_) (fun h => ?_)
    · have h : i < F.length := by have := of_decide_eq_true h; omega
      rw [FzQ.comeN_step h] at hc
      have hFi : F[i] < m := hFm _ (List.getElem_mem h)
      have pk : dIx (.lst (F.map nd)) (.int (i : Int)) = some (nd F[i]) := by rw [at_nd h, List.getD_eq_getElem?_getD, List.getElem?_eq_getElem h]; rfl
      have ixg := ixG N G hFi
      have ssd : ssD nd (gs F[i]) = .lst ((gs F[i]).map (stD nd)) := rfl
      simp_arith only [-n_sSeq]
      rw [vs_v, wb_t, n_sSeq]
      simp_arith only [pk, ixg, ssd]
      refine ws_for (fun es s => ∃ (rest : List Sp) (F' : List Nat) (x6 x7 : Option R), isOwned x6 = false ∧ isOwned x7 = false ∧ (∀ x ∈ rest, x.1 < m) ∧ F'.Nodup ∧ (∀ x ∈ F', x < m) ∧ ext F' (rest.map (·.1)) = ext F (gt' gs F[i]) ∧ es = rest.map (stD nd) ∧ s = [some (.d (grD nd ks gs)), some (.d (.lst (S.map nd))), some (.od (F'.map nd) (F'.map fun _ => D.bl true)), x3, some (.ol (F'.map nd)), some (.d (.int (i : Int))), x6, x7]) ⟨gs F[i], F, x6, x7, o6, o7, G.lt _ hFi, hF, hFm, rfl, rfl, rfl⟩ ?_ ?_
      · rintro d r s ⟨rest, F', x6, x7, o6, o7, hr, hF', hFm', he, hd, rfl⟩
        cases rest with
        | nil => cases hd
        | cons x rest =>
          rw [List.map_cons] at hd
          injection hd with h1 h2
          subst h1 h2
          have hx := hr x (.head _)
          have hr : ∀ y ∈ rest, y.1 < m := fun y hy => hr y (.tail _ hy)
          have fl := FzQ.len_le hF' hFm'
          have gk2 : gt (vwN nf [x3, some (R.ol (F'.map nd)), some (R.d (D.int (i : Int))), some (R.d (nd x.1)), some (R.d (rgD x.2))]) 3 = some (some (R.d (nd x.1))) := rfl
          simp_arith only [gT_st, gT_eq, gsC_eq, gN_eq, gsN_eq, o6, o7, gk2, ninD_nd N]
          refine wd_of (fun h => ?_) (fun h => ?_)
          · have h : x.1 ∉ F' := by simpa using h
            have os := opSet_newN N (x := .bl true) h (vs := F'.map fun _ => D.bl true) (by rw [tl]; omega)
            have imk : imm (nd x.1) = true := N.im _
            simp_arith only [gk2, imk, os, List.length_map]
            refine ⟨by omega, rest, F' ++ [x.1], some (.d (nd x.1)), some (.d (rgD x.2)), rfl, rfl, hr, ?_, fun y hy => ?_, ?_, rfl, by rw [List.map_append (f := fun _ => D.bl true), List.map_append]; rfl⟩
            · rw [← put_new h]; exact FzQ.put_nodup hF' x.1
            · rcases List.mem_append.mp hy with hy | hy
              · exact hFm' y hy
              · rw [List.mem_singleton] at hy; subst hy; exact hx
            · rw [← he, List.map_cons, FzQ.ext_cons, put_new h]
          · have h : x.1 ∈ F' := by simpa using h
            simp_arith only []
            exact ⟨rest, F', some (.d (nd x.1)), some (.d (rgD x.2)), rfl, rfl, hr, hF', hFm', by rw [← he, List.map_cons, FzQ.ext_cons, put_in h], rfl, rfl⟩
      · rintro s ⟨rest, F', x6, x7, o6, o7, hr, hF', hFm', he, hd, rfl⟩
        have hr0 : rest = [] := by cases rest with | nil => rfl | cons k r => cases hd
        subst hr0
        rw [List.map_nil, FzQ.ext_nil] at he
        have ei : (i : Int) + 1 = ((i + 1 : Nat) : Int) := by omega
        simp_arith only [o6, o7, ei]
        exact ⟨k, by omega, i + 1, F', x6, x7, o6, o7, hF', hFm', by omega, by omega, by rw [he]; exact hc, rfl⟩
    · have h : ¬ i < F.length := by have := of_decide_eq_false h; omega
      rw [FzQ.comeN_end h] at hc
      simp_arith only [-n_sSeq]
      rw [vs_v, wb_f]
      simp_arith only [o6, o7, hc]
end
end K41
set_option Elab.async false
set_option linter.all false
set_option maxRecDepth 100000
set_option maxHeartbeats 4000000
namespace K41
open PySem hiding ret plain
open Fz hiding tb nx
open FzQ (ext fin comeN)
def b_rest : MS := (sSeq (sSet 5 (rCall 2 F__law_come [] (aV (eVar 3) (aV (eVar 4) aNil)))) (sSeq (sSet 6 (rDctG (eFz nf (rLc (iDi (eVar 3)) (gT 2 (gsC (gN 9) (gsC (gN 10) gsN))) cYes (eTup (eCons (eVar 9) (eCons (eFz nf (rOp dList (eCons (eVar 10) eNil))) eNil))) [9, 10])))) (sSeq (sSet 7 (rOp dList (eCons (eVar 4) eNil))) (sSeq (sSet 8 (rCall 2 F_reached [] (aV (eVar 6) (aV (eVar 7) aNil)))) (sSeq (sIf (tFull nf (cOr (cNot (eTst (eUn (dIsi "list") (eVar 8)))) (cOr (eTst (eBin dNe (eVar 8) (eVar 5))) (cOr (eTst (eBin dNeG (eVar 6) (eVar 3))) (eTst (eBin dNe (eVar 7) (eVar 4))))))) (sRet (rD (ret (.bl false)))) sNext) (sSeq (sApp' 8 (ret (.str "x"))) (sRet (rD (eAnd (eBin dEq (eFz nf (rCall 2 F_reached [] (aV (eVar 6) (aV (eVar 7) aNil)))) (eVar 5)) (eBin dEq (eFz nf (rCall 2 F_reached [] (aV (eVar 6) (aV (eFz nf (rRev (eVar 7))) aNil)))) (eFz nf (rCall 2 F__law_come [] (aV (eVar 3) (aV (eFz nf (rRev (eVar 4))) aNil))))))))))))))
theorem b_eq : b_law = sSeq (sSet 1 (rCall 1 F__law_begin [] (aV (eVar 0) aNil))) (sSeq (sSet 2 (rD (eBin dIx (eFz nf (rLst (eCons (eBin dAdd (ret (.int 1)) (eBin dMod (eFz nf (rCall 1 F__law_next [] (aO 1 aNil))) (ret (.int 8)))) (eCons (eBin dAdd (ret (.int 1)) (eBin dMod (eFz nf (rCall 1 F__law_next [] (aO 1 aNil))) (ret (.int 40)))) eNil)))) (eBin dMod (eFz nf (rCall 1 F__law_next [] (aO 1 aNil))) (ret (.int 2)))))) (sSeq (sSet 3 (rCall 4 F__law_graph [] (aO 1 (aV (eVar 2) (aV (eBin dAdd (ret (.int 1)) (eBin dMod (eFz nf (rCall 1 F__law_next [] (aO 1 aNil))) (ret (.int 4)))) (aV (ret (.int 2)) aNil)))))) (sSeq (sSet 4 (rCall 2 F__law_starts [] (aO 1 (aV (eVar 3) aNil)))) (sSeq (sIf (eTst (eBin dEq (eBin dMod (eFz nf (rCall 1 F__law_next [] (aO 1 aNil))) (ret (.int 16))) (ret (.int 1)))) (sSet 4 (rLst eNil)) sNext) b_rest)))) := rfl
theorem rest_ws {nd : Nat → D} (N : Nds nd) {m : Nat} {ks : List Nat} {gs : Nat → List Sp} (G : Gr m ks gs) (hm : m ≤ 90) (S : List Nat) (hS : ∀ x ∈ S, x < m) (hSl : S.length ≤ 3) (x0 x2 : D) (a : Int) (ns : List Int) (c : Int) :
    ws b_rest [some (R.d x0), some (st a ns c), some (.d x2), some (.d (grD nd ks gs)), some (.ol (S.map nd)), none, none, none, none, none, none] (oend 1 kNo [R.d x0] fun o _ => o = Oc.v (.d (.bl true))) := by
  obtain ⟨_, _, ec, rfl, rfl⟩ := wf_get (come_wf N G S hS (by omega) hm)
  obtain ⟨_, _, er, rfl, rfl⟩ := wf_get (reached_wf N G S hS (by omega) hm)
  have hSr : ∀ x ∈ S.reverse, x < m := fun x hx => hS x (List.mem_reverse.mp hx)
  obtain ⟨_, _, ec2, rfl, rfl⟩ := wf_get (come_wf N G S.reverse hSr (by rw [List.length_reverse]; omega) hm)
  obtain ⟨_, _, er2, rfl, rfl⟩ := wf_get (reached_wf N G S.reverse hSr (by rw [List.length_reverse]; omega) hm)
  have fn := FzQ.fin_nodup (g := gt' gs) (m := m) (S := S)
  have flt := FzQ.fin_lt (g := gt' gs) (m := m) (S := S) (fun k hk x hx => by
    obtain ⟨y, hy, rfl⟩ := List.mem_map.mp hx
    exact G.lt k hk y hy) hS
  have fl := FzQ.len_le fn flt
  have n1 := neL_nd N (fin (gt' gs) m S)
  have n2 := neG_gr N gs ks
  have n3 := neL_nd N S
  have q1 := eqL_nd N (fin (gt' gs) m S)
  have q2 := eqL_nd N (fin (gt' gs) m S.reverse)
  have i1 : ∀ l : List D, dIsi "list" (.lst l) = some (.bl true) := fun _ => rfl
  have d1 : diO (grD nd ks gs) = some (ks.map fun k => .tup [nd k, ssD nd (gs k)]) := diO_nd N ks fun k => ssD nd (gs k)
  have d2 : dctGO (.lst (ks.map fun k => .tup [nd k, ssD nd (gs k)])) = some (.od (ks.map nd) (ks.map fun k => ssD nd (gs k))) := dctG_nd N G.nodup fun k => ssD nd (gs k)
  have eg : D.dct (ks.map nd) (ks.map fun k => ssD nd (gs k)) = grD nd ks gs := rfl
  have rv : (S.map nd).reverse = S.reverse.map nd := List.map_reverse.symm
  have kl := G.length
  have fl2 : ((fin (gt' gs) m S).length < 16777216) = True := eq_true (by omega)
  generalize fin (gt' gs) m S = C1 at *
  generalize fin (gt' gs) m S.reverse = C2 at *
  unfold b_rest
  simp_arith only [wf_of ec, d1]
  refine wl_map (acc := []) (xs := ks) (fun k => .tup [nd k, ssD nd (gs k)]) (fun k => .tup [nd k, ssD nd (gs k)]) (by simp [szl]; omega) (fun k hk => ?_) ?_
  · have ess : ssD nd (gs k) = .lst ((gs k).map (stD nd)) := rfl
    simp_arith only [gT_eq, gsC_eq, gN_eq, gsN_eq, ess]
  · simp_arith only [List.nil_append, d2, eg, wf_of er, vwN_st, i1, n1, n2, n3, List.length_map, fl2, wf_of er, wf_of er2, wf_of ec2, q1, q2, rv]
end K41
set_option Elab.async false
set_option linter.all false
set_option maxRecDepth 100000
set_option maxHeartbeats 4000000
namespace K41
open PySem hiding ret plain
open Fz hiding tb nx
open FzQ (ext fin comeN)
theorem many_q (r q p : Int) : ∃ m : Nat, 0 < m ∧ m ≤ 40 ∧ dIx (.lst [.int (1 + r % 8), .int (1 + q % 40)]) (.int (p % 2)) = some (.int (m : Int)) := by
  have h := e_ixlm (xs := [.int (1 + r % 8), .int (1 + q % 40)]) (r := p) (k := 2) (by decide) (by simp)
  have h2 := (mod_natC (r := p) (k := 2) (by decide)).2
  have h3 : (p % 2).toNat = 0 ∨ (p % 2).toNat = 1 := by omega
  rw [h]
  rcases h3 with e | e <;> rw [e]
  · exact ⟨(1 + r % 8).toNat, by omega, by omega, by show some (D.int (1 + r % 8)) = _; congr 2; omega⟩
  · exact ⟨(1 + q % 40).toNat, by omega, by omega, by show some (D.int (1 + q % 40)) = _; congr 2; omega⟩
theorem law_wf (ns : List Int) : wf F_law [.d (.lst (ns.map D.int))] fun o rs => o = .v (.d (.bl true)) := by
  generalize hP : wf F_law [.d (.lst (ns.map D.int))] (fun o rs => o = .v (.d (.bl true))) = P
  obtain ⟨a0, ha0⟩ : ∃ a0, a0 = (ns.length : Int) + 7 := ⟨_, rfl⟩
  obtain ⟨c0, hc0⟩ : ∃ c0 : Nat, c0 = 0 := ⟨0, rfl⟩
  have eb : F__law_begin [.d (.lst (ns.map D.int))] = some (.v (st a0 ns (c0 : Int)), [.d (.lst (ns.map D.int))]) := by rw [hc0, ha0]; exact begin_ok ns
  obtain ⟨m, m0, hm, em⟩ := many_q (nxR a0 ns c0) (nxR (nxA a0 ns c0) ns (c0 + 1)) (nxR (nxA (nxA a0 ns c0) ns (c0 + 1)) ns (c0 + 1 + 1))
  obtain ⟨a1, ha1⟩ : ∃ a1, a1 = nxA (nxA (nxA a0 ns c0) ns (c0 + 1)) ns (c0 + 1 + 1) := ⟨_, rfl⟩
  obtain ⟨t, ht, et⟩ := mod_nat (nxR a1 ns (c0 + 1 + 1 + 1)) 4 (by decide)
  have et : nxR a1 ns (c0 + 1 + 1 + 1) % 4 = (t : Int) := et
  have et1 : (1 : Int) + (t : Int) = ((1 + t : Nat) : Int) := by omega
  obtain ⟨_, _, eg, a2, w, base, ks, gs, c2, hperm, hgs, rfl, rfl⟩ := wf_get (graph_wf (nxA a1 ns (c0 + 1 + 1 + 1)) ns (c0 + 1 + 1 + 1 + 1) m (1 + t) 2 m0 (by omega) (by omega) (by decide))
  have eg : F__law_graph [st (nxA a1 ns (c0 + 1 + 1 + 1)) ns ((c0 + 1 + 1 + 1 + 1 : Nat) : Int), .d (.int (m : Int)), .d (.int ((1 + t : Nat) : Int)), .d (.int 2)] = _ := eg
  have N := nds w base
  have G : Gr m ks gs := ⟨hperm, fun k hk x hx => ((hgs k hk).2 x hx).1, fun k hk => by have := (hgs k hk).1; omega⟩
  obtain ⟨_, _, es, a3, S, c3, hS, hSl, rfl, rfl⟩ := wf_get (starts_wf N G a2 ns c2 m0)
  have fin1 := rest_ws N G (by omega) S hS hSl (.lst (ns.map D.int)) (.int (m : Int)) (nxA a3 ns c3) ns ((c3 + 1 : Nat) : Int)
  have fin2 := rest_ws N G (by omega) [] (fun x h => by cases h) (by decide) (.lst (ns.map D.int)) (.int (m : Int)) (nxA a3 ns c3) ns ((c3 + 1 : Nat) : Int)
  have emp : (([] : List Nat).map (ndD w base)) = [] := rfl
  rw [emp] at fin2
  generalize grD (ndD w base) ks gs = GD at *
  rw [← hP]
  unfold F_law
  rw [b_eq]
  simp_arith only [wf_of eb, e_next, em, ← ha1, et, et1, wf_of eg, wf_of es]
  refine wd_of (fun h => ?_) (fun h => ?_)
  · simp_arith only []
    exact fin2
  · simp_arith only []
    exact fin1
theorem law_ok : Fz.LawDoes F_law := fun ns hl => by
  obtain ⟨o, rs, e, rfl⟩ := wf_get (law_wf ns)
  exact ⟨rs, e⟩
end K41
set_option Elab.async false
set_option linter.all false
set_option maxRecDepth 100000
set_option maxHeartbeats 0
namespace K41
open PySem PySem.Spec PyProof.Rows L2 Fz
theorem cb_all {K : PySem.W.Frag} (h : (fas.all fun f => f K) = true) : (fas0.all fun f => f K) = true := by
  unfold fas at h
  try simp only [List.all_append, Bool.and_eq_true, and_assoc] at h
  exact h
theorem cb0 {w : World} {K : PySem.W.Frag} (c : SaysC chk fns tss w K) : (fas0.all fun f => f K) = true := (cb_all c.b)
section
variable {w : World} {K : PySem.W.Frag} {h : Heap} {mg : Str → Option Value}
theorem vx_n_dict (X : K.In h) (G : h.Ns mainGlobals mg) (c : SaysC chk fns tss w K) : mg "dict" = none := He.free_ok X G (fact_at (f := fas_9) (cb0 c) 9)
theorem vx_n_isinstance (X : K.In h) (G : h.Ns mainGlobals mg) (c : SaysC chk fns tss w K) : mg "isinstance" = none := He.free_ok X G (fact_at (f := fas_10) (cb0 c) 10)
theorem vx_n_len (X : K.In h) (G : h.Ns mainGlobals mg) (c : SaysC chk fns tss w K) : mg "len" = none := He.free_ok X G (fact_at (f := fas_11) (cb0 c) 11)
theorem vx_n_list (X : K.In h) (G : h.Ns mainGlobals mg) (c : SaysC chk fns tss w K) : mg "list" = none := He.free_ok X G (fact_at (f := fas_12) (cb0 c) 12)
theorem vx_n_range (X : K.In h) (G : h.Ns mainGlobals mg) (c : SaysC chk fns tss w K) : mg "range" = none := He.free_ok X G (fact_at (f := fas_13) (cb0 c) 13)
theorem vx_n_str (X : K.In h) (G : h.Ns mainGlobals mg) (c : SaysC chk fns tss w K) : mg "str" = none := He.free_ok X G (fact_at (f := fas_14) (cb0 c) 14)
theorem vx_n_tuple (X : K.In h) (G : h.Ns mainGlobals mg) (c : SaysC chk fns tss w K) : mg "tuple" = none := He.free_ok X G (fact_at (f := fas_15) (cb0 c) 15)
theorem vx_f_reached (X : K.In h) (G : h.Ns mainGlobals mg) (c : SaysC chk fns tss w K) : GFun (tb w K) mg "reached" s_reached P_reached := let ⟨fd, F⟩ := c.t.d.def_ (d := fns_0) 0; ⟨_, fd, He.glo_ok X G (fact_at (f := fas_0) (cb0 c) 0), fun_of F, FunD.bindsN (ps := P_reached) F (fun _ _ _ _ _ _ us hl => match us, hl with | [_, _], _ => rfl)⟩
theorem vx_f__law_begin (X : K.In h) (G : h.Ns mainGlobals mg) (c : SaysC chk fns tss w K) : GFun (tb w K) mg "_law_begin" s__law_begin P__law_begin := let ⟨fd, F⟩ := c.t.d.def_ (d := fns_1) 1; ⟨_, fd, He.glo_ok X G (fact_at (f := fas_1) (cb0 c) 1), fun_of F, FunD.bindsN (ps := P__law_begin) F (fun _ _ _ _ _ _ us hl => match us, hl with | [_], _ => rfl)⟩
theorem vx_f__law_next (X : K.In h) (G : h.Ns mainGlobals mg) (c : SaysC chk fns tss w K) : GFun (tb w K) mg "_law_next" s__law_next P__law_next := let ⟨fd, F⟩ := c.t.d.def_ (d := fns_2) 2; ⟨_, fd, He.glo_ok X G (fact_at (f := fas_2) (cb0 c) 2), fun_of F, FunD.bindsN (ps := P__law_next) F (fun _ _ _ _ _ _ us hl => match us, hl with | [_], _ => rfl)⟩
theorem vx_f__law_nodes (X : K.In h) (G : h.Ns mainGlobals mg) (c : SaysC chk fns tss w K) : GFun (tb w K) mg "_law_nodes" s__law_nodes P__law_nodes := let ⟨fd, F⟩ := c.t.d.def_ (d := fns_3) 3; ⟨_, fd, He.glo_ok X G (fact_at (f := fas_3) (cb0 c) 3), fun_of F, FunD.bindsN (ps := P__law_nodes) F (fun _ _ _ _ _ _ us hl => match us, hl with | [_, _], _ => rfl)⟩
theorem vx_f__law_rung (X : K.In h) (G : h.Ns mainGlobals mg) (c : SaysC chk fns tss w K) : GFun (tb w K) mg "_law_rung" s__law_rung P__law_rung := let ⟨fd, F⟩ := c.t.d.def_ (d := fns_4) 4; ⟨_, fd, He.glo_ok X G (fact_at (f := fas_4) (cb0 c) 4), fun_of F, FunD.bindsN (ps := P__law_rung) F (fun _ _ _ _ _ _ us hl => match us, hl with | [_, _], _ => rfl)⟩
theorem vx_f__law_graph (X : K.In h) (G : h.Ns mainGlobals mg) (c : SaysC chk fns tss w K) : GFun (tb w K) mg "_law_graph" s__law_graph P__law_graph := let ⟨fd, F⟩ := c.t.d.def_ (d := fns_5) 5; ⟨_, fd, He.glo_ok X G (fact_at (f := fas_5) (cb0 c) 5), fun_of F, FunD.bindsN (ps := P__law_graph) F (fun _ _ _ _ _ _ us hl => match us, hl with | [_, _, _, _], _ => rfl)⟩
theorem vx_f__law_starts (X : K.In h) (G : h.Ns mainGlobals mg) (c : SaysC chk fns tss w K) : GFun (tb w K) mg "_law_starts" s__law_starts P__law_starts := let ⟨fd, F⟩ := c.t.d.def_ (d := fns_6) 6; ⟨_, fd, He.glo_ok X G (fact_at (f := fas_6) (cb0 c) 6), fun_of F, FunD.bindsN (ps := P__law_starts) F (fun _ _ _ _ _ _ us hl => match us, hl with | [_, _], _ => rfl)⟩
theorem vx_f__law_come (X : K.In h) (G : h.Ns mainGlobals mg) (c : SaysC chk fns tss w K) : GFun (tb w K) mg "_law_come" s__law_come P__law_come := let ⟨fd, F⟩ := c.t.d.def_ (d := fns_7) 7; ⟨_, fd, He.glo_ok X G (fact_at (f := fas_7) (cb0 c) 7), fun_of F, FunD.bindsN (ps := P__law_come) F (fun _ _ _ _ _ _ us hl => match us, hl with | [_, _], _ => rfl)⟩
theorem vx_f_law (X : K.In h) (G : h.Ns mainGlobals mg) (c : SaysC chk fns tss w K) : GFun (tb w K) mg "law" s_law P_law := let ⟨fd, F⟩ := c.t.d.def_ (d := fns_8) 8; ⟨_, fd, He.glo_ok X G (fact_at (f := fas_8) (cb0 c) 8), fun_of F, FunD.bindsN (ps := P_law) F (fun _ _ _ _ _ _ us hl => match us, hl with | [_], _ => rfl)⟩
theorem vx (X : K.In h) (G : h.Ns mainGlobals mg) (c : SaysC chk fns tss w K) : Vx w K mg where
  n_dict := vx_n_dict X G c
  n_isinstance := vx_n_isinstance X G c
  n_len := vx_n_len X G c
  n_list := vx_n_list X G c
  n_range := vx_n_range X G c
  n_str := vx_n_str X G c
  n_tuple := vx_n_tuple X G c
  f_reached := vx_f_reached X G c
  f__law_begin := vx_f__law_begin X G c
  f__law_next := vx_f__law_next X G c
  f__law_nodes := vx_f__law_nodes X G c
  f__law_rung := vx_f__law_rung X G c
  f__law_graph := vx_f__law_graph X G c
  f__law_starts := vx_f__law_starts X G c
  f__law_come := vx_f__law_come X G c
  f_law := vx_f_law X G c
end
end K41
open PySem PySem.W PySem.Calls PyProof.Rows
theorem K41.holds (hlaw : Fz.LawDoes K41.F_law) : PySem.Challenge.rw_everwalk_k41_what_is_reached.Holds := by
  w_on; o_law
  refine HandSHeadRun.head_any (r := OpenLaw.row PySem.Challenge.rw_everwalk_k41_what_is_reached) (q := view (OpenLaw.row PySem.Challenge.rw_everwalk_k41_what_is_reached).prog [10]) (H := K41.hk) (ob := K41.obH) (M := 30000) (loose := K41.nms) (d := HandSHeadRun.topDef (OpenLaw.row PySem.Challenge.rw_everwalk_k41_what_is_reached).prog 10) (kwd := []) K41.obH_eq
    (by kernel_rfl) (fun s => by kernel_rfl) K41.runH (by kernel_rfl) (by kernel_rfl) (by kernel_rfl) (by rfl) (by first | assumption | decide +kernel) (by decide +kernel) ⟨rfl, rfl, rfl, rfl, rfl, by decide +kernel⟩ ?hw ?hc
  case hw => w_witness2
  case hc =>
    refine Fz.walk_ofW (l := PySem.Challenge.rw_everwalk_k41_what_is_reached) (k := 4) (x := "_law_script") rfl (by kernel_rfl) ⟨rfl, by decide, by decide, rfl⟩ ?F
    intro w mg fa h Y G hmg0
    obtain ⟨K, KX, c⟩ := Y
    have hmg : mg ("law" : PySem.Str) = some (.ref fa) := by
      have e : (HandSHeadRun.topDef (OpenLaw.row PySem.Challenge.rw_everwalk_k41_what_is_reached).prog 10).name = ("law" : PySem.Str) := by kernel_rfl
      rw [← e]
      exact hmg0
    have V := K41.vx KX G c
    obtain ⟨f, fd, g1, g2, g3⟩ := V.f_law
    have e := hmg.symm.trans g1
    cases e
    refine ⟨K41.tb w K, fd, K41.F_law, rfl, KX, fun s u => ?_, hlaw, fun base _ _ => Fz.ok_def g2 K41.sc_law (K41.does_law V fa)⟩
    obtain ⟨oc, od, kV, doc, pm, an, cdv, ct, osl, e, _, _⟩ := g2.ex
    subst e
    exact .of_eq rfl
open PySem PySem.W PyProof.Rows
set_option maxRecDepth 100000 in
set_option maxHeartbeats 8000000 in
theorem PySem.Challenge.cw_everwalk_k41_what_is_reached_holds : PySem.Challenge.rw_everwalk_k41_what_is_reached.Holds := by
  exact K41.holds K41.law_ok
