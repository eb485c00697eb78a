import PyProof.Rows.All
import Wide.All
import OpenK.AllK
import Wide.FinOn
import HandS.Words
import HandS.HeadHook1
import HandS.HeadHook2
import HandS.HeadHook3
import HandS.HeadEnd
import HandS.Head2
import Wide.Once
import HandS.Base
import HandS.Call
import KE.KeyNested
import HandS.List
import HandS.Dict
import HandS.Iter
import HandS.Comp
import HandS.Conv
import HandS.Walk
import KE.KDictWalk
import KE.KDictKeyed
import KE.KDictPairs
import KE.KDictCopyH
import HandS.Deep
import HandS.Text
import HandS.WordsExc
import HandS.CallSlots
import HandS.ForMost
import HandS.ForExc
import HandS.TupAny
import HandS.IsInst
import HandS.Style
import HandS.More
import HandS.StrMore
import HandS.Replace
import HandS.Defaults
import HandS.Ends
import HandS.SortKw
import HandS.Set
import HandS.Strs
import PyProof.Rows.SortShellAny
import HandS.Exc
import HandS.ExcOwn
import HandS.ExcIs
import HandS.ExcValue
import HandS.TryOnly
import PyProof.NeKinds
import PyProof.ReprRoads
import PyProof.ReprLen
import PyProof.Rows.ReprShort
import PyProof.Rows.ReprOcc
import HandS.TupMul
import KE.KRevSl
import HandS.ReplaceLit
import PyProof.ToksMono
import HandS.TupLen
import HandS.FStr
import HandS.TupSets
import HandS.SortOrd
import HandS.TupLe
import HandS.Flt
import KE.KDictSum
import HandS.Nested
import KE.KNestM
import HandS.EndTab
import PySem.Challenge.RW_everwalk_k31_what_forms_read
set_option Elab.async false
set_option linter.all false
set_option maxRecDepth 100000
set_option maxHeartbeats 2000000
namespace Fz
open PySem L2 PySem.Spec PyProof.Rows
abbrev AlC : Type := Bool × He.AlT
def obsC (chk : PySem.W.Frag → Bool) (fn : List He.DefD) (ts : List He.Tab) (K : PySem.W.Frag) : AlC := (chk K, He.obsT [] fn ts K)
def valC (fn : List He.DefD) (ts : List He.Tab) (w : World) : AlC := (true, He.valT fn ts w)
def SaysC (chk : PySem.W.Frag → Bool) (fn : List He.DefD) (ts : List He.Tab) (w : World) (K : PySem.W.Frag) : Prop := obsC chk fn ts K = valC fn ts w
section
variable {chk : PySem.W.Frag → Bool} {fn : List He.DefD} {ts : List He.Tab} {w : World} {K : PySem.W.Frag} {h : Heap} {mg : Str → Option Value}
theorem SaysC.b (c : SaysC chk fn ts w K) : chk K = true := congrArg (fun z : AlC => z.1) c
theorem SaysC.t (c : SaysC chk fn ts w K) : He.SaysT [] fn ts w K := congrArg (fun z : AlC => z.2) c
theorem fact_at {fs : List (PySem.W.Frag → Bool)} (hc : (fs.all fun f => f K) = true) (i : Nat) {f : PySem.W.Frag → Bool} (h : fs[i]? = some f := by rfl) : f K = true := List.all_eq_true.mp hc f (List.mem_of_getElem? h)
end
theorem map3 {α β γ δ : Type} {o : Option α} {a : α → β} {b : α → γ} {c : α → δ} {x : β} {y : γ} {z : δ} (h1 : o.map a = some x) (h2 : o.map b = some y) (h3 : o.map c = some z) : o.map (fun s => (a s, b s, c s)) = some (x, y, z) := by
  cases o with
  | none => cases h1
  | some s => cases h1; cases h2; cases h3; rfl
end Fz
set_option Elab.async false
set_option linter.all false
set_option maxRecDepth 100000
set_option maxHeartbeats 2000000
namespace Fz
open PySem L2
inductive D where
  | non | bl (b : Bool) | int (i : Int) | str (s : Str) | tup (ds : List D) | lst (ds : List D) | obj (c : Nat) (fs : List D) | dct (ks vs : List D) | ext (k : Nat) (ds : List D)
structure Tab where
  K : PySem.W.Frag
  cls : Nat → Addr
  flds : Nat → List Str
  /-- further objects that stand as they are, of values -/
  xo : Nat → Addr → List V → HO
  /-- the world (its hashes of texts) -/
  w : World
  /-- the tables of code objects of the defs that make functions, and the names that those bear -/
  tt : List (Addr × Str) := []
  /-- defs that are handed on as values -/
  gf : Nat → Addr → Prop := fun _ _ => False
def CodeO (c : Addr) (q : Str) : HO := .ext fun h => ∃ (oc : Obj) (vs : Array Value) (t : Tok), h.get? c = some oc ∧ oc.data = .fields vs ∧ vs[1]? = some (.str q t)
def isTb (o : HO) : Prop := (∃ ps, o = .tbl ps) ∨ ∃ c q, o = CodeO c q
structure TbOk (T : Tab) (B F H : Hp) : Prop where
  noF : ∀ a o, F a = some o → ¬ isTb o
  tab : ∀ p ∈ T.tt, B p.1 = none ∧ ∃ ps : Array Value, H p.1 = some (.tbl ps) ∧ TriplesOk ps.toList ∧ ∀ (pos : Pos) (cv : Value), codeAmong pos ps.toList = some cv → ∃ c, cv = .ref c ∧ B c = some (CodeO c p.2)
def Tu (T : Tab) (B : Hp) (a : Addr) (xs : List V) : Prop := B a = some (.tup xs) ∨ ∃ (o : Obj) (its : Array Value) (n : Nat), T.K.lookup a = some o ∧ o.cls = .type "tuple" ∧ o.data = .seq its n ∧ its.size ≤ sizeLine ∧ Vals xs its.toList
theorem Tu.sq {T : Tab} {B : Hp} {a : Addr} {xs : List V} (h : Tu T B a xs) : SqT T.K B a xs := h.elim (fun h => .inl (.inl h)) .inr
def DKey : D → Key → Prop
  | .int i, k => k = .inl i
  | .str s, k => k = .inr s
  | _, _ => False
mutual
def nk : D → Option NestedKey
  | .non => some .none
  | .bl b => some (.num (if b = true then 1 else 0))
  | .int i => some (.num i)
  | .str s => some (.text s)
  | .tup ds => (nks ds).map .tup
  | _ => none
def nks : List D → Option (List NestedKey)
  | [] => some []
  | d :: ds => (nk d).bind fun k => (nks ds).map (k :: ·)
end
inductive KX where
  | v (k : Key) | t (k : NestedKey) (a : Addr)
def KX.hash (w : World) : KX → Int
  | .v k => keyH w k
  | .t k _ => k.hash w
def KX.is : KX → Value → Prop
  | .v k, u => keyIs k u = true
  | .t _ a, u => u = .ref a
def entOk (w : World) (x : KX × V) (e : DictEntry) : Prop := e.hash = x.1.hash w ∧ x.1.is e.key ∧ RelV x.2 e.val
def dG (w : World) (a : Addr) (ep : Nat) (es : List (KX × V)) : HO := .ext fun h => ∃ o e, h.get? a = some o ∧ o.ExactDict ∧ o.data = .dict e ep ∧ Paired (entOk w) es e.toList
def KX.isV : KX → Bool
  | .v _ => true
  | .t _ _ => false
def KX.isT : KX → Bool
  | .t (.tup ks) _ => decide (NestedKey.depth (.tup ks) ≤ 8)
  | _ => false
def KX.nk : KX → NestedKey
  | .v (.inl i) => .num i
  | .v (.inr x) => .text x
  | .t k _ => k
structure DGOk (a : Addr) (es : List (KX × V)) : Prop where
  len : es.length ≤ sizeLine
  sm : (a == sysModules) = false
  nd : (es.map fun e => e.1.nk).Nodup
  kd : (∀ e ∈ es, e.1.isV = true) ∨ ∀ e ∈ es, e.1.isT = true
mutual
def Rep (T : Tab) (B : Hp) : D → V → Prop
  | .non, v => v = .non
  | .bl b, v => v = .bl b
  | .int i, v => v = .int i
  | .str s, v => v = .str s ∧ PyData.strOk s = true
  | .tup ds, v => ∃ a xs, v = .ref a ∧ Tu T B a xs ∧ Reps T B ds xs
  | .lst ds, v => ∃ a xs, v = .ref a ∧ SqL T.K B a xs ∧ Reps T B ds xs
  | .obj c fs, v => ∃ a dx fvs, v = .ref a ∧ B a = some (.ins (T.cls c) dx fvs) ∧ fvs.map (·.1) = T.flds c ∧ Reps T B fs (fvs.map (·.2))
  | .dct ks vs, v => ∃ a ep es, v = .ref a ∧ B a = some (dG T.w a ep es) ∧ DGOk a es ∧ KReps T B ks (es.map (·.1)) ∧ Reps T B vs (es.map (·.2))
  | .ext k ds, v => ∃ a xs, v = .ref a ∧ (B a = some (T.xo k a xs) ∨ (ds = [.bl true] ∧ T.gf k a)) ∧ Reps T B ds xs
def Reps (T : Tab) (B : Hp) : List D → List V → Prop
  | [], xs => xs = []
  | d :: ds, xs => ∃ v r, xs = v :: r ∧ Rep T B d v ∧ Reps T B ds r
def KReps (T : Tab) (B : Hp) : List D → List KX → Prop
  | [], xs => xs = []
  | d :: ds, xs => ∃ x r, xs = x :: r ∧ (match x with
    | .v k => DKey d k
    | .t k a => nk d = some k ∧ Rep T B d (.ref a)) ∧ KReps T B ds r
end
def keyK : D → Bool
  | .int _ => true
  | .str _ => true
  | _ => false
def DctAt (T : Tab) (B H : Hp) (a : Addr) (ks : List D) (xs : List V) : Prop := ∃ ep es, H a = some (dG T.w a ep es) ∧ DGOk a es ∧ KReps T B ks (es.map (·.1)) ∧ xs = es.map (·.2)
theorem rep_dct {T : Tab} {B : Hp} {ks vs : List D} {v : V} : Rep T B (.dct ks vs) v ↔ ∃ a xs, v = .ref a ∧ DctAt T B B a ks xs ∧ Reps T B vs xs := by
  unfold Rep
  constructor
  · rintro ⟨a, ep, es, h1, h2, h3, h4, h5⟩
    exact ⟨a, _, h1, ⟨ep, es, h2, h3, h4, rfl⟩, h5⟩
  · rintro ⟨a, xs, h1, ⟨ep, es, h2, h3, h4, rfl⟩, h5⟩
    exact ⟨a, ep, es, h1, h2, h3, h4, h5⟩
def Ex (H H' : Hp) : Prop := ∀ a o, H a = some o → H' a = some o
theorem Ex.refl (H : Hp) : Ex H H := fun _ _ h => h
theorem Ex.trans {H H1 H2 : Hp} (a : Ex H H1) (b : Ex H1 H2) : Ex H H2 := fun x o h => b x o (a x o h)
theorem Ex.free {H H' : Hp} (e : Ex H H') {l : Addr} (h : H' l = none) : H l = none := by
  cases q : H l with
  | none => rfl
  | some o => rw [e l o q] at h; cases h
theorem Ex.new {H : Hp} {p : Addr} {o : HO} (h : H p = none) : Ex H (upd H p o) := fun a u e => by
  rw [upd_ne (ne_of_none e h)]; exact e
theorem Ex.rd {H H' : Hp} {a : Addr} {u : HO} (e : Ex H H') (h : Rd H a u) : Rd H' a u := h.elim (fun h => .inl (e a _ h)) fun ⟨o, h⟩ => .inr ⟨o, e a _ h⟩
theorem Ex.sqL {K : PySem.W.Frag} {H H' : Hp} {a : Addr} {xs : List V} (e : Ex H H') (h : SqL K H a xs) : SqL K H' a xs := h.elim (fun h => .inl (e.rd h)) .inr
theorem Ex.tu {T : Tab} {H H' : Hp} {a : Addr} {xs : List V} (e : Ex H H') (h : Tu T H a xs) : Tu T H' a xs := h.elim (fun h => .inl (e a _ h)) .inr
mutual
theorem Rep.mono {T : Tab} {B B' : Hp} (e : Ex B B') : ∀ (d : D) {v : V}, Rep T B d v → Rep T B' d v
  | .non, _, h => h
  | .bl _, _, h => h
  | .int _, _, h => h
  | .str _, _, h => h
  | .tup ds, v, h => by
    unfold Rep at h ⊢
    obtain ⟨a, xs, h1, h2, h3⟩ := h
    exact ⟨a, xs, h1, e.tu h2, Reps.mono e ds h3⟩
  | .lst ds, v, h => by
    unfold Rep at h ⊢
    obtain ⟨a, xs, h1, h2, h3⟩ := h
    exact ⟨a, xs, h1, e.sqL h2, Reps.mono e ds h3⟩
  | .obj c fs, v, h => by
    unfold Rep at h ⊢
    obtain ⟨a, dx, fvs, h1, h2, h3, h4⟩ := h
    exact ⟨a, dx, fvs, h1, e a _ h2, h3, Reps.mono e fs h4⟩
  | .dct ks vs, v, h => by
    unfold Rep at h ⊢
    obtain ⟨a, ep, es, h1, h2, h3, h4, h5⟩ := h
    exact ⟨a, ep, es, h1, e a _ h2, h3, KReps.mono e ks h4, Reps.mono e vs h5⟩
  | .ext k ds, v, h => by
    unfold Rep at h ⊢
    obtain ⟨a, xs, h1, h2, h3⟩ := h
    exact ⟨a, xs, h1, h2.imp (e a _) id, Reps.mono e ds h3⟩
theorem Reps.mono {T : Tab} {B B' : Hp} (e : Ex B B') : ∀ (ds : List D) {xs : List V}, Reps T B ds xs → Reps T B' ds xs
  | [], _, h => h
  | d :: ds, xs, h => by
    unfold Reps at h ⊢
    obtain ⟨v, r, h1, h2, h3⟩ := h
    exact ⟨v, r, h1, Rep.mono e d h2, Reps.mono e ds h3⟩
theorem KReps.mono {T : Tab} {B B' : Hp} (e : Ex B B') : ∀ (ds : List D) {xs : List KX}, KReps T B ds xs → KReps T B' ds xs
  | [], _, h => h
  | d :: ds, xs, h => by
    unfold KReps at h ⊢
    obtain ⟨x, r, h1, h2, h3⟩ := h
    refine ⟨x, r, h1, ?_, KReps.mono e ds h3⟩
    cases x with
    | v k => exact h2
    | t k a => exact ⟨h2.1, Rep.mono e d h2.2⟩
end
theorem Reps.length {T : Tab} {B : Hp} : ∀ {ds : List D} {xs : List V}, Reps T B ds xs → ds.length = xs.length
  | [], _, h => by unfold Reps at h; subst h; rfl
  | d :: ds, xs, h => by
    unfold Reps at h
    obtain ⟨v, r, rfl, _, h3⟩ := h
    simp [Reps.length h3]
theorem Reps.get {T : Tab} {B : Hp} : ∀ {ds : List D} {xs : List V} {i : Nat} {d : D}, Reps T B ds xs → ds[i]? = some d → ∃ v, xs[i]? = some v ∧ Rep T B d v
  | [], _, _, _, _, e => by simp at e
  | d :: ds, xs, i, d', h, e => by
    unfold Reps at h
    obtain ⟨v, r, rfl, h2, h3⟩ := h
    cases i with
    | zero => simp at e; subst e; exact ⟨v, rfl, h2⟩
    | succ i =>
      obtain ⟨u, a, b⟩ := Reps.get (i := i) h3 (by simpa using e)
      exact ⟨u, by simpa using a, b⟩
theorem Reps.append {T : Tab} {B : Hp} : ∀ {ds es : List D} {xs ys : List V}, Reps T B ds xs → Reps T B es ys → Reps T B (ds ++ es) (xs ++ ys)
  | [], _, _, _, h, g => by unfold Reps at h; subst h; exact g
  | d :: ds, es, xs, ys, h, g => by
    unfold Reps at h
    obtain ⟨v, r, rfl, h2, h3⟩ := h
    show Reps T B (d :: (ds ++ es)) (v :: (r ++ ys))
    unfold Reps
    exact ⟨v, _, rfl, h2, Reps.append h3 g⟩
theorem Reps.set {T : Tab} {B : Hp} : ∀ {ds : List D} {xs : List V} {i : Nat} {d : D} {v : V}, Reps T B ds xs → Rep T B d v → Reps T B (ds.set i d) (xs.set i v)
  | [], _, _, _, _, h, _ => by unfold Reps at h; subst h; unfold Reps; rfl
  | e :: ds, xs, i, d, v, h, g => by
    unfold Reps at h
    obtain ⟨u, r, rfl, h2, h3⟩ := h
    cases i with
    | zero => show Reps T B (d :: ds) (v :: r); unfold Reps; exact ⟨v, r, rfl, g, h3⟩
    | succ i => show Reps T B (e :: ds.set i d) (u :: r.set i v); unfold Reps; exact ⟨u, _, rfl, h2, Reps.set h3 g⟩
theorem reps_nil {T : Tab} {B : Hp} : Reps T B [] [] := by unfold Reps; rfl
theorem reps_cons {T : Tab} {B : Hp} {d : D} {ds : List D} {v : V} {xs : List V} (h : Rep T B d v) (g : Reps T B ds xs) : Reps T B (d :: ds) (v :: xs) := by unfold Reps; exact ⟨v, xs, rfl, h, g⟩
mutual
def imm : D → Bool
  | .lst _ => false
  | .obj _ _ => false
  | .dct _ _ => false
  | .ext _ _ => false
  | .tup ds => imms ds
  | _ => true
def imms : List D → Bool
  | [] => true
  | d :: ds => imm d && imms ds
end
theorem imm_rep {T : Tab} {B B' : Hp} (e : ∀ a xs, B a = some (.tup xs) → B' a = some (.tup xs)) : ∀ (d : D) {v : V}, imm d = true → Rep T B d v → Rep T B' d v := by
  intro d
  refine D.rec (motive_1 := fun d => ∀ {v : V}, imm d = true → Rep T B d v → Rep T B' d v) (motive_2 := fun ds => ∀ {xs : List V}, imms ds = true → Reps T B ds xs → Reps T B' ds xs) ?_ ?_ ?_ ?_ ?_ ?_ ?_ ?_ ?_ ?_ ?_ d
  · exact fun _ h => h
  · exact fun _ _ _ h => h
  · exact fun _ _ _ h => h
  · exact fun _ _ _ h => h
  · intro ds ih v i h
    unfold Rep at h ⊢
    unfold imm at i
    obtain ⟨a, xs, h1, h2, h3⟩ := h
    exact ⟨a, xs, h1, h2.elim (fun h => .inl (e a _ h)) .inr, ih i h3⟩
  · intro ds _ v i; simp [imm] at i
  · intro c ds _ v i; simp [imm] at i
  · intro c ds _ _ v i; simp [imm] at i
  · intro c ds _ v i; simp [imm] at i
  · exact fun _ h => h
  · intro d ds h1 h2 xs i h
    unfold Reps at h ⊢
    unfold imms at i
    obtain ⟨v, r, e1, e2, e3⟩ := h
    have i' := (Bool.and_eq_true _ _).mp i
    exact ⟨v, r, e1, h1 i'.1 e2, h2 i'.2 e3⟩
inductive R where
  | d (x : D) | ol (xs : List D) | oi (c : Nat) (fs : List D) | od (ks vs : List D)
  | nl (cs : List R) | nt (cs : List R) | ni (c : Nat) (cs : List R) | nd (ks : List D) (cs : List R)
def HeldAt (H : Hp) (a : Addr) (xs : List V) : Prop := H a = some (.lst xs) ∨ H a = some (.tup xs) ∨ (∃ C dx fs, H a = some (.ins C dx fs) ∧ xs = fs.map (·.2)) ∨
  ∃ w ep es, H a = some (dG w a ep es) ∧ xs = es.map (·.2)
def unv : Value → V
  | .none => .non
  | .bool b => .bl b
  | .int i _ => .int i
  | .str x _ => .str x
  | .bytes b _ => .byt b
  | .float b _ => .flt b
  | .ref a => .ref a
  | .type n => .ty n
  | _ => .non
theorem unv_of : ∀ {v : V} {x : Value}, RelV v x → unv x = v
  | .non, _, h => by cases h; rfl
  | .bl _, _, h => by cases h; rfl
  | .int _, _, h => by obtain ⟨t, rfl⟩ := h; rfl
  | .str _, _, h => by obtain ⟨t, rfl⟩ := h; rfl
  | .byt _, _, h => by obtain ⟨t, rfl⟩ := h; rfl
  | .flt _, _, h => by obtain ⟨t, rfl⟩ := h; rfl
  | .ref _, _, h => by cases h; rfl
  | .ty _, _, h => by cases h; rfl
theorem relV_inj {u v : V} {x : Value} (h : RelV u x) (g : RelV v x) : u = v := by rw [← unv_of h, ← unv_of g]
def valOf : V → Value
  | .non => .none
  | .bl b => .bool b
  | .int i => .int i default
  | .str x => .str x default
  | .byt b => .bytes b default
  | .flt b => .float b default
  | .ref a => .ref a
  | .ty n => .type n
theorem valOf_rel : ∀ v : V, RelV v (valOf v)
  | .non => rfl
  | .bl _ => rfl
  | .int _ => ⟨_, rfl⟩
  | .str _ => ⟨_, rfl⟩
  | .byt _ => ⟨_, rfl⟩
  | .flt _ => ⟨_, rfl⟩
  | .ref _ => rfl
  | .ty _ => rfl
def KX.val : KX → Value
  | .v (.inl i) => .int i default
  | .v (.inr x) => .str x default
  | .t _ a => .ref a
theorem KX.val_is : ∀ k : KX, k.is k.val
  | .v (.inl i) => keyIs_int i _
  | .v (.inr x) => keyIs_str x _
  | .t _ _ => rfl
theorem dG_inj {w w' : World} {a : Addr} {ep ep' : Nat} {es es' : List (KX × V)} (h : dG w a ep es = dG w' a ep' es') : es.map (·.2) = es'.map (·.2) := by
  unfold dG at h
  have h := HO.ext.inj h
  let ys : List DictEntry := es.map fun e => ⟨e.1.hash w, e.1.val, valOf e.2⟩
  let ob : Obj := { cls := .type "dict", data := .dict ys.toArray ep }
  let hp : Heap := { objs := Array.replicate (a + 1) ob }
  have hg : hp.get? a = some ob := by
    have : hp.objs[a]? = some ob := by show (Array.replicate (a + 1) ob)[a]? = some ob; simp
    unfold Heap.get?
    rw [this]
  have pr : ∀ es : List (KX × V), Paired (entOk w) es (es.map fun e => (⟨e.1.hash w, e.1.val, valOf e.2⟩ : DictEntry)) := fun es => by
    induction es with
    | nil => exact .nil
    | cons e es ih => exact .cons ⟨rfl, KX.val_is _, valOf_rel _⟩ ih
  have l := congrFun h hp
  obtain ⟨o, e, g1, _, g2, g3⟩ := l.mp ⟨ob, ys.toArray, hg, ⟨rfl, rfl, rfl⟩, rfl, pr es⟩
  rw [hg] at g1
  cases g1
  injection g2 with g2 _
  rw [← g2] at g3
  have g3 : Paired (entOk w') es' ys := g3
  have fin : ∀ {xs xs' : List (KX × V)}, Paired (entOk w') xs' (xs.map fun e => (⟨e.1.hash w, e.1.val, valOf e.2⟩ : DictEntry)) → xs.map (·.2) = xs'.map (·.2) := fun {xs} => by
    induction xs with
    | nil => intro xs' p; cases p; rfl
    | cons x xs ih =>
      intro xs' p
      cases p with
      | cons q r =>
        simp only [List.map_cons, List.cons.injEq]
        exact ⟨relV_inj (valOf_rel _) q.2.2, ih r⟩
  exact fin g3
theorem HeldAt.inj {H : Hp} {a : Addr} {xs ys : List V} (h : HeldAt H a xs) (g : HeldAt H a ys) : xs = ys := by
  rcases h with h | h | ⟨C, dx, fs, h, rfl⟩ | ⟨w, ep, es, h, rfl⟩ <;> rcases g with g | g | ⟨C', dx', fs', g, rfl⟩ | ⟨w', ep', es', g, rfl⟩ <;> rw [h] at g <;> have g := Option.some.inj g <;>
    first | (cases g; rfl) | exact dG_inj g | (unfold dG at g; cases g) | cases g
theorem HeldAt.keep {H H' : Hp} {a : Addr} {xs : List V} (h : HeldAt H a xs) (k : ∀ o, H a = some o → H' a = some o) : HeldAt H' a xs := by
  rcases h with h | h | ⟨C, dx, fs, h, e⟩ | ⟨w, ep, es, h, e⟩
  · exact .inl (k _ h)
  · exact .inr (.inl (k _ h))
  · exact .inr (.inr (.inl ⟨C, dx, fs, k _ h, e⟩))
  · exact .inr (.inr (.inr ⟨w, ep, es, k _ h, e⟩))
theorem HeldAt.some {H : Hp} {a : Addr} {xs : List V} (h : HeldAt H a xs) : ∃ o, H a = some o := by
  rcases h with h | h | ⟨C, dx, fs, h, e⟩ | ⟨w, ep, es, h, e⟩ <;> exact ⟨_, h⟩
mutual
def Ow (H : Hp) : R → V → Addr → Prop
  | .d _, _, _ => False
  | .ol _, v, b => v = .ref b
  | .oi _ _, v, b => v = .ref b
  | .od _ _, v, b => v = .ref b
  | .nl cs, v, b => v = .ref b ∨ ∃ a xs, v = .ref a ∧ HeldAt H a xs ∧ OwL H cs xs b
  | .nt cs, v, b => ∃ a xs, v = .ref a ∧ HeldAt H a xs ∧ OwL H cs xs b
  | .ni _ cs, v, b => v = .ref b ∨ ∃ a xs, v = .ref a ∧ HeldAt H a xs ∧ OwL H cs xs b
  | .nd _ cs, v, b => v = .ref b ∨ ∃ a xs, v = .ref a ∧ HeldAt H a xs ∧ OwL H cs xs b
def OwL (H : Hp) : List R → List V → Addr → Prop
  | [], _, _ => False
  | r :: rs, xs, b => ∃ y t, xs = y :: t ∧ (Ow H r y b ∨ OwL H rs t b)
end
mutual
def RelR (T : Tab) (B H : Hp) : R → V → Prop
  | .d x, v => Rep T B x v
  | .ol xs, v => ∃ a ys, v = .ref a ∧ H a = some (.lst ys) ∧ Reps T B xs ys
  | .oi c fs, v => ∃ a dx fvs, v = .ref a ∧ H a = some (.ins (T.cls c) dx fvs) ∧ fvs.map (·.1) = (T.flds c).take fs.length ∧ Reps T B fs (fvs.map (·.2))
  | .od ks vs, v => ∃ a xs, v = .ref a ∧ DctAt T B H a ks xs ∧ Reps T B vs xs
  | .nl cs, v => ∃ a ys, v = .ref a ∧ H a = some (.lst ys) ∧ RelRs T B H cs ys ∧ ¬ OwL H cs ys a
  | .nt cs, v => ∃ a ys, v = .ref a ∧ (B a = some (.tup ys) ∧ H a = some (.tup ys)) ∧ RelRs T B H cs ys
  | .ni c cs, v => ∃ a dx fvs, v = .ref a ∧ H a = some (.ins (T.cls c) dx fvs) ∧ fvs.map (·.1) = (T.flds c).take cs.length ∧ RelRs T B H cs (fvs.map (·.2)) ∧ ¬ OwL H cs (fvs.map (·.2)) a
  | .nd ks cs, v => ∃ a xs, v = .ref a ∧ DctAt T B H a ks xs ∧ RelRs T B H cs xs ∧ ¬ OwL H cs xs a
def RelRs (T : Tab) (B H : Hp) : List R → List V → Prop
  | [], ys => ys = []
  | r :: rs, ys => ∃ y t, ys = y :: t ∧ RelR T B H r y ∧ RelRs T B H rs t ∧ ∀ b, Ow H r y b → OwL H rs t b → False
end
abbrev Sl := List (Option R)
structure Sim (T : Tab) (st : Sl) (σ : St) (B F H : Hp) : Prop where
  exB : Ex B H
  exF : Ex F H
  dis : ∀ a o, F a = some o → B a = none
  tup : ∀ a xs, H a = some (.tup xs) → B a = some (.tup xs)
  len : st.length = σ.length
  rel : ∀ (i : Nat) r, st[i]? = some (some r) → ∃ v, σ[i]? = some (some v) ∧ RelR T B H r v
  own : ∀ (i : Nat) r v a, st[i]? = some (some r) → σ[i]? = some (some v) → Ow H r v a → B a = none ∧ F a = none
  sep : ∀ (i j : Nat) r q v u a, i ≠ j → st[i]? = some (some r) → σ[i]? = some (some v) → st[j]? = some (some q) → σ[j]? = some (some u) → Ow H r v a → Ow H q u a → False
  tbs : TbOk T B F H
theorem DctAt.held {T : Tab} {B H : Hp} {a : Addr} {ks : List D} {xs : List V} (h : DctAt T B H a ks xs) : HeldAt H a xs := by
  obtain ⟨ep, es, q1, q2, q3, q4⟩ := h
  exact .inr (.inr (.inr ⟨_, ep, es, q1, q4⟩))
theorem DctAt.keep {T : Tab} {B B' H H' : Hp} {a : Addr} {ks : List D} {xs : List V} (h : DctAt T B H a ks xs) (e : Ex B B') (k : ∀ o, H a = some o → H' a = some o) : DctAt T B' H' a ks xs := by
  obtain ⟨ep, es, q1, q2, q3, q4⟩ := h
  exact ⟨ep, es, k _ q1, q2, KReps.mono e ks q3, q4⟩
theorem DctAt.notTup {T : Tab} {B H : Hp} {a : Addr} {ks : List D} {xs : List V} (h : DctAt T B H a ks xs) (ys : List V) : H a ≠ some (.tup ys) := by
  obtain ⟨ep, es, q1, q2, q3, q4⟩ := h
  rw [q1]; unfold dG; intro z; cases z
theorem ex_of {H : Hp} {a : Addr} {o : HO} (h : H a = some o) (n : ∀ xs, o ≠ .tup xs) : (∃ o, H a = some o) ∧ ∀ xs, H a ≠ some (.tup xs) := ⟨⟨o, h⟩, fun xs z => by rw [h] at z; exact n xs (Option.some.inj z)⟩
mutual
theorem RelR.ow {T : Tab} {B H : Hp} : ∀ {r : R} {v : V} {a : Addr}, RelR T B H r v → Ow H r v a → (∃ o, H a = some o) ∧ ∀ xs, H a ≠ some (.tup xs)
  | .d x, v, a, h, o => by unfold Ow at o; exact o.elim
  | .ol xs, v, a, h, o => by unfold RelR at h; unfold Ow at o; obtain ⟨b, ys, h1, h2, _⟩ := h; rw [o] at h1; cases h1; exact ex_of h2 (fun _ z => nomatch z)
  | .oi c fs, v, a, h, o => by unfold RelR at h; unfold Ow at o; obtain ⟨b, dx, fvs, h1, h2, _⟩ := h; rw [o] at h1; cases h1; exact ex_of h2 (fun _ z => nomatch z)
  | .od ks vs, v, a, h, o => by unfold RelR at h; unfold Ow at o; obtain ⟨b, xs, h1, h2, _⟩ := h; rw [o] at h1; cases h1; exact ⟨h2.held.some, h2.notTup⟩
  | .nl cs, v, a, h, o => by
    unfold RelR at h; unfold Ow at o
    obtain ⟨b, ys, h1, h2, h3, _⟩ := h
    rcases o with o | ⟨p, xs, o1, o2, o3⟩
    · rw [o] at h1; cases h1; exact ex_of h2 (fun _ z => nomatch z)
    · rw [h1] at o1; cases o1
      cases (HeldAt.inj (.inl h2) o2)
      exact RelRs.ow h3 o3
  | .nt cs, v, a, h, o => by
    unfold RelR at h; unfold Ow at o
    obtain ⟨b, ys, h1, h2, h3⟩ := h
    obtain ⟨p, xs, o1, o2, o3⟩ := o
    rw [h1] at o1; cases o1
    cases (HeldAt.inj (.inr (.inl h2.2)) o2)
    exact RelRs.ow h3 o3
  | .ni c cs, v, a, h, o => by
    unfold RelR at h; unfold Ow at o
    obtain ⟨b, dx, fvs, h1, h2, _, h3, _⟩ := h
    rcases o with o | ⟨p, xs, o1, o2, o3⟩
    · rw [o] at h1; cases h1; exact ex_of h2 (fun _ z => nomatch z)
    · rw [h1] at o1; cases o1
      cases (HeldAt.inj (.inr (.inr (.inl ⟨_, _, _, h2, rfl⟩))) o2)
      exact RelRs.ow h3 o3
  | .nd ks cs, v, a, h, o => by
    unfold RelR at h; unfold Ow at o
    obtain ⟨b, ys, h1, h2, h3, _⟩ := h
    rcases o with o | ⟨p, xs, o1, o2, o3⟩
    · rw [o] at h1; cases h1; exact ⟨h2.held.some, h2.notTup⟩
    · rw [h1] at o1; cases o1
      cases (HeldAt.inj h2.held o2)
      exact RelRs.ow h3 o3
theorem RelRs.ow {T : Tab} {B H : Hp} : ∀ {rs : List R} {vs : List V} {a : Addr}, RelRs T B H rs vs → OwL H rs vs a → (∃ o, H a = some o) ∧ ∀ xs, H a ≠ some (.tup xs)
  | [], vs, a, h, o => by unfold OwL at o; exact o.elim
  | r :: rs, vs, a, h, o => by
    unfold RelRs at h; unfold OwL at o
    obtain ⟨y, t, h1, h2, h3, _⟩ := h
    obtain ⟨y', t', o1, o2⟩ := o
    rw [h1] at o1; cases o1
    rcases o2 with o2 | o2
    · exact RelR.ow h2 o2
    · exact RelRs.ow h3 o2
end
theorem dG_ntb {w : World} {a : Addr} {ep : Nat} {es : List (KX × V)} : ¬ isTb (dG w a ep es) := by
  rintro (⟨ps, z⟩ | ⟨c, q, z⟩)
  · unfold dG at z; cases z
  · unfold dG CodeO at z
    have h := HO.ext.inj z
    let ys : List DictEntry := es.map fun e => ⟨e.1.hash w, e.1.val, valOf e.2⟩
    let ob : Obj := { cls := .type "dict", data := .dict ys.toArray ep }
    let hp : Heap := { objs := Array.replicate (a + 1) ob }
    have hg : hp.get? a = some ob := by
      have : hp.objs[a]? = some ob := by show (Array.replicate (a + 1) ob)[a]? = some ob; simp
      unfold Heap.get?
      rw [this]
    have pr : ∀ es : List (KX × V), Paired (entOk w) es (es.map fun e => (⟨e.1.hash w, e.1.val, valOf e.2⟩ : DictEntry)) := fun es => by
      induction es with
      | nil => exact .nil
      | cons e es ih => exact .cons ⟨rfl, KX.val_is _, valOf_rel _⟩ ih
    obtain ⟨oc, vs, t, h1, h2, _⟩ := (congrFun h hp).mp ⟨ob, ys.toArray, hg, ⟨rfl, rfl, rfl⟩, rfl, pr es⟩
    have e : oc = ob := by
      unfold Heap.get? at h1
      have : ∀ o, hp.objs[c]? = some o → o = ob := fun o z => by
        have z : (Array.replicate (a + 1) ob)[c]? = some o := z
        rw [Array.getElem?_replicate] at z
        split at z
        · exact (Option.some.inj z).symm
        · cases z
      split at h1
      · cases h1
      · exact this _ h1
    rw [e] at h2
    cases h2
theorem ntb_of {H : Hp} {a : Addr} {o : HO} (h : H a = some o) (n : ¬ isTb o) : ∀ u, H a = some u → ¬ isTb u := fun u z => by rw [h] at z; cases z; exact n
theorem lst_ntb {xs : List V} : ¬ isTb (.lst xs) := by rintro (⟨_, z⟩ | ⟨_, _, z⟩) <;> first | cases z | (unfold CodeO at z; cases z)
theorem tup_ntb {xs : List V} : ¬ isTb (.tup xs) := by rintro (⟨_, z⟩ | ⟨_, _, z⟩) <;> first | cases z | (unfold CodeO at z; cases z)
theorem ins_ntb {C dx : Addr} {xs : List (Str × V)} : ¬ isTb (.ins C dx xs) := by rintro (⟨_, z⟩ | ⟨_, _, z⟩) <;> first | cases z | (unfold CodeO at z; cases z)
mutual
theorem RelR.ntb {T : Tab} {B H : Hp} : ∀ {r : R} {v : V} {a : Addr}, RelR T B H r v → Ow H r v a → ∀ u, H a = some u → ¬ isTb u
  | .d x, v, a, h, o => by unfold Ow at o; exact o.elim
  | .ol xs, v, a, h, o => by unfold RelR at h; unfold Ow at o; obtain ⟨b, ys, h1, h2, _⟩ := h; rw [o] at h1; cases h1; exact ntb_of h2 lst_ntb
  | .oi c fs, v, a, h, o => by unfold RelR at h; unfold Ow at o; obtain ⟨b, dx, fvs, h1, h2, _⟩ := h; rw [o] at h1; cases h1; exact ntb_of h2 ins_ntb
  | .od ks vs, v, a, h, o => by unfold RelR at h; unfold Ow at o; obtain ⟨b, xs, h1, ⟨ep, es, h2, _⟩, _⟩ := h; rw [o] at h1; cases h1; exact ntb_of h2 dG_ntb
  | .nl cs, v, a, h, o => by
    unfold RelR at h; unfold Ow at o
    obtain ⟨b, ys, h1, h2, h3, _⟩ := h
    rcases o with o | ⟨p, xs, o1, o2, o3⟩
    · rw [o] at h1; cases h1; exact ntb_of h2 lst_ntb
    · rw [h1] at o1; cases o1
      cases (HeldAt.inj (.inl h2) o2)
      exact RelRs.ntb h3 o3
  | .nt cs, v, a, h, o => by
    unfold RelR at h; unfold Ow at o
    obtain ⟨b, ys, h1, h2, h3⟩ := h
    obtain ⟨p, xs, o1, o2, o3⟩ := o
    rw [h1] at o1; cases o1
    cases (HeldAt.inj (.inr (.inl h2.2)) o2)
    exact RelRs.ntb h3 o3
  | .ni c cs, v, a, h, o => by
    unfold RelR at h; unfold Ow at o
    obtain ⟨b, dx, fvs, h1, h2, _, h3, _⟩ := h
    rcases o with o | ⟨p, xs, o1, o2, o3⟩
    · rw [o] at h1; cases h1; exact ntb_of h2 ins_ntb
    · rw [h1] at o1; cases o1
      cases (HeldAt.inj (.inr (.inr (.inl ⟨_, _, _, h2, rfl⟩))) o2)
      exact RelRs.ntb h3 o3
  | .nd ks cs, v, a, h, o => by
    unfold RelR at h; unfold Ow at o
    obtain ⟨b, ys, h1, h2, h3, _⟩ := h
    rcases o with o | ⟨p, xs, o1, o2, o3⟩
    · rw [o] at h1; cases h1; obtain ⟨ep, es, h2, _⟩ := h2; exact ntb_of h2 dG_ntb
    · rw [h1] at o1; cases o1
      cases (HeldAt.inj h2.held o2)
      exact RelRs.ntb h3 o3
theorem RelRs.ntb {T : Tab} {B H : Hp} : ∀ {rs : List R} {vs : List V} {a : Addr}, RelRs T B H rs vs → OwL H rs vs a → ∀ u, H a = some u → ¬ isTb u
  | [], vs, a, h, o => by unfold OwL at o; exact o.elim
  | r :: rs, vs, a, h, o => by
    unfold RelRs at h; unfold OwL at o
    obtain ⟨y, t, h1, h2, h3, _⟩ := h
    obtain ⟨y', t', o1, o2⟩ := o
    rw [h1] at o1; cases o1
    rcases o2 with o2 | o2
    · exact RelR.ntb h2 o2
    · exact RelRs.ntb h3 o2
end
theorem Sim.ntb {T : Tab} {st : Sl} {σ : St} {B F H : Hp} (S : Sim T st σ B F H) {i : Nat} {r : R} {v : V} {a : Addr} (h1 : st[i]? = some (some r)) (h2 : σ[i]? = some (some v)) (h3 : Ow H r v a) : ∀ u, H a = some u → ¬ isTb u := by
  obtain ⟨v', h4, h5⟩ := S.rel i r h1
  rw [h2] at h4; cases h4
  exact h5.ntb h3
theorem TbOk.stay {T : Tab} {B F H B' F' H' : Hp} (x : TbOk T B F H) (eB : ∀ a o, B a = some o → B' a = some o) (eH : ∀ a u, H a = some u → isTb u → H' a = some u) (nB : ∀ a u, H a = some u → isTb u → B a = none → B' a = none)
    (nF : ∀ a o, F' a = some o → ¬ isTb o) : TbOk T B' F' H' := ⟨nF, fun p hp => by
  obtain ⟨h1, ps, h3, h4, h5⟩ := x.tab p hp
  exact ⟨nB _ _ h3 (.inl ⟨ps, rfl⟩) h1, ps, eH _ _ h3 (.inl ⟨ps, rfl⟩), h4, fun pos cv hc => let ⟨c, a, b⟩ := h5 pos cv hc; ⟨c, a, eB _ _ b⟩⟩⟩
theorem TbOk.new {T : Tab} {B F H : Hp} (x : TbOk T B F H) {p : Addr} {o : HO} (hp : H p = none) : TbOk T B F (upd H p o) :=
  x.stay (fun _ _ h => h) (fun a ps h _ => by rw [upd_ne (by intro e; subst e; rw [hp] at h; cases h)]; exact h) (fun _ _ _ _ n => n) x.noF
theorem TbOk.upd {T : Tab} {B F H : Hp} (x : TbOk T B F H) {p : Addr} {o : HO} (hp : ∀ u, H p = some u → ¬ isTb u) : TbOk T B F (upd H p o) :=
  x.stay (fun _ _ h => h) (fun a ps h t => by rw [upd_ne (by intro e; subst e; exact hp _ h t)]; exact h) (fun _ _ _ _ n => n) x.noF
def Tk (H H' : Hp) : Prop := ∀ a xs, H a = some (.tup xs) → H' a = some (.tup xs)
theorem Ex.tk {H H' : Hp} (e : Ex H H') : Tk H H' := fun a xs h => e a _ h
theorem Tk.refl (H : Hp) : Tk H H := fun _ _ h => h
mutual
theorem Ow.back {T : Tab} {B H H' : Hp} (tk : Tk H H') : ∀ {r : R} {v : V} {a : Addr}, RelR T B H r v → (∀ p o, Ow H r v p → H p = some o → H' p = some o) → Ow H' r v a → Ow H r v a
  | .d x, v, a, h, k, o => by unfold Ow at o ⊢; exact o
  | .ol xs, v, a, h, k, o => by unfold Ow at o ⊢; exact o
  | .oi c fs, v, a, h, k, o => by unfold Ow at o ⊢; exact o
  | .od ks vs, v, a, h, k, o => by unfold Ow at o ⊢; exact o
  | .nl cs, v, a, h, k, o => by
    unfold RelR at h; unfold Ow at o ⊢
    obtain ⟨b, ys, h1, h2, h3, _⟩ := h
    rcases o with o | ⟨p, xs, o1, o2, o3⟩
    · exact .inl o
    · rw [h1] at o1; cases o1
      have q := k b _ (by unfold Ow; exact .inl h1) h2
      cases (HeldAt.inj (.inl q) o2)
      exact .inr ⟨b, ys, h1, .inl h2, OwL.back tk h3 (fun p o z => k p o (by unfold Ow; exact .inr ⟨b, ys, h1, .inl h2, z⟩)) o3⟩
  | .nt cs, v, a, h, k, o => by
    unfold RelR at h; unfold Ow at o ⊢
    obtain ⟨b, ys, h1, h2, h3⟩ := h
    obtain ⟨p, xs, o1, o2, o3⟩ := o
    rw [h1] at o1; cases o1
    cases (HeldAt.inj (.inr (.inl (tk b _ h2.2))) o2)
    exact ⟨b, ys, h1, .inr (.inl h2.2), OwL.back tk h3 (fun p o z => k p o (by unfold Ow; exact ⟨b, ys, h1, .inr (.inl h2.2), z⟩)) o3⟩
  | .ni c cs, v, a, h, k, o => by
    unfold RelR at h; unfold Ow at o ⊢
    obtain ⟨b, dx, fvs, h1, h2, _, h3, _⟩ := h
    rcases o with o | ⟨p, xs, o1, o2, o3⟩
    · exact .inl o
    · rw [h1] at o1; cases o1
      have q := k b _ (by unfold Ow; exact .inl h1) h2
      cases (HeldAt.inj (.inr (.inr (.inl ⟨_, _, _, q, rfl⟩))) o2)
      exact .inr ⟨b, _, h1, .inr (.inr (.inl ⟨_, _, _, h2, rfl⟩)), OwL.back tk h3 (fun p o z => k p o (by unfold Ow; exact .inr ⟨b, _, h1, .inr (.inr (.inl ⟨_, _, _, h2, rfl⟩)), z⟩)) o3⟩
  | .nd ks cs, v, a, h, k, o => by
    unfold RelR at h; unfold Ow at o ⊢
    obtain ⟨b, ys, h1, h2, h3, _⟩ := h
    rcases o with o | ⟨p, xs, o1, o2, o3⟩
    · exact .inl o
    · rw [h1] at o1; cases o1
      have q := h2.held.keep fun o z => k b o (by unfold Ow; exact .inl h1) z
      cases (HeldAt.inj q o2)
      exact .inr ⟨b, ys, h1, h2.held, OwL.back tk h3 (fun p o z => k p o (by unfold Ow; exact .inr ⟨b, ys, h1, h2.held, z⟩)) o3⟩
theorem OwL.back {T : Tab} {B H H' : Hp} (tk : Tk H H') : ∀ {rs : List R} {vs : List V} {a : Addr}, RelRs T B H rs vs → (∀ p o, OwL H rs vs p → H p = some o → H' p = some o) → OwL H' rs vs a → OwL H rs vs a
  | [], vs, a, h, k, o => by unfold OwL at o ⊢; exact o
  | r :: rs, vs, a, h, k, o => by
    unfold RelRs at h; unfold OwL at o ⊢
    obtain ⟨y, t, h1, h2, h3, _⟩ := h
    obtain ⟨y', t', o1, o2⟩ := o
    rw [h1] at o1; cases o1
    refine ⟨y, t, h1, ?_⟩
    rcases o2 with o2 | o2
    · exact .inl (Ow.back tk h2 (fun p o z => k p o (by unfold OwL; exact ⟨y, t, h1, .inl z⟩)) o2)
    · exact .inr (OwL.back tk h3 (fun p o z => k p o (by unfold OwL; exact ⟨y, t, h1, .inr z⟩)) o2)
end
mutual
theorem RelR.keep {T : Tab} {B B' H H' : Hp} (e : Ex B B') (tk : Tk H H') : ∀ {r : R} {v : V}, RelR T B H r v → (∀ p o, Ow H r v p → H p = some o → H' p = some o) → RelR T B' H' r v
  | .d x, v, h, k => by unfold RelR at h ⊢; exact Rep.mono e x h
  | .ol xs, v, h, k => by unfold RelR at h ⊢; obtain ⟨b, ys, h1, h2, h3⟩ := h; exact ⟨b, ys, h1, k b _ (by unfold Ow; exact h1) h2, Reps.mono e _ h3⟩
  | .oi c fs, v, h, k => by unfold RelR at h ⊢; obtain ⟨b, dx, fvs, h1, h2, h3, h4⟩ := h; exact ⟨b, dx, fvs, h1, k b _ (by unfold Ow; exact h1) h2, h3, Reps.mono e _ h4⟩
  | .od ks vs, v, h, k => by unfold RelR at h ⊢; obtain ⟨b, xs, h1, h2, h3⟩ := h; exact ⟨b, xs, h1, h2.keep e fun o z => k b o (by unfold Ow; exact h1) z, Reps.mono e _ h3⟩
  | .nl cs, v, h, k => by
    unfold RelR at h ⊢
    obtain ⟨b, ys, h1, h2, h3, h4⟩ := h
    have ko : ∀ p o, OwL H cs ys p → H p = some o → H' p = some o := fun p o z => k p o (by unfold Ow; exact .inr ⟨b, ys, h1, .inl h2, z⟩)
    exact ⟨b, ys, h1, k b _ (by unfold Ow; exact .inl h1) h2, RelRs.keep e tk h3 ko, fun z => h4 (OwL.back tk h3 ko z)⟩
  | .nt cs, v, h, k => by
    unfold RelR at h ⊢
    obtain ⟨b, ys, h1, h2, h3⟩ := h
    exact ⟨b, ys, h1, ⟨e b _ h2.1, tk b _ h2.2⟩, RelRs.keep e tk h3 fun p o z => k p o (by unfold Ow; exact ⟨b, ys, h1, .inr (.inl h2.2), z⟩)⟩
  | .ni c cs, v, h, k => by
    unfold RelR at h ⊢
    obtain ⟨b, dx, fvs, h1, h2, h5, h3, h4⟩ := h
    have ko : ∀ p o, OwL H cs (fvs.map (·.2)) p → H p = some o → H' p = some o := fun p o z => k p o (by unfold Ow; exact .inr ⟨b, _, h1, .inr (.inr (.inl ⟨_, _, _, h2, rfl⟩)), z⟩)
    exact ⟨b, dx, fvs, h1, k b _ (by unfold Ow; exact .inl h1) h2, h5, RelRs.keep e tk h3 ko, fun z => h4 (OwL.back tk h3 ko z)⟩
  | .nd ks cs, v, h, k => by
    unfold RelR at h ⊢
    obtain ⟨b, ys, h1, h2, h3, h4⟩ := h
    have ko : ∀ p o, OwL H cs ys p → H p = some o → H' p = some o := fun p o z => k p o (by unfold Ow; exact .inr ⟨b, ys, h1, h2.held, z⟩)
    exact ⟨b, ys, h1, h2.keep e fun o z => k b o (by unfold Ow; exact .inl h1) z, RelRs.keep e tk h3 ko, fun z => h4 (OwL.back tk h3 ko z)⟩
theorem RelRs.keep {T : Tab} {B B' H H' : Hp} (e : Ex B B') (tk : Tk H H') : ∀ {rs : List R} {vs : List V}, RelRs T B H rs vs → (∀ p o, OwL H rs vs p → H p = some o → H' p = some o) → RelRs T B' H' rs vs
  | [], vs, h, k => by unfold RelRs at h ⊢; exact h
  | r :: rs, vs, h, k => by
    unfold RelRs at h ⊢
    obtain ⟨y, t, h1, h2, h3, h4⟩ := h
    have k1 : ∀ p o, Ow H r y p → H p = some o → H' p = some o := fun p o z => k p o (by unfold OwL; exact ⟨y, t, h1, .inl z⟩)
    have k2 : ∀ p o, OwL H rs t p → H p = some o → H' p = some o := fun p o z => k p o (by unfold OwL; exact ⟨y, t, h1, .inr z⟩)
    exact ⟨y, t, h1, RelR.keep e tk h2 k1, RelRs.keep e tk h3 k2, fun b z1 z2 => h4 b (Ow.back tk h2 k1 z1) (OwL.back tk h3 k2 z2)⟩
end
structure Ext (B H B' H' : Hp) : Prop where
  b : Ex B B'
  h : Ex H H'
  bh : Ex B' H'
  new : ∀ a o, B' a = some o → B a = some o ∨ H a = none
  tup : ∀ a xs, H' a = some (.tup xs) → H a = some (.tup xs) ∨ B' a = some (.tup xs)
theorem Ext.refl {B H : Hp} (e : Ex B H) : Ext B H B H := ⟨.refl _, .refl _, e, fun _ _ h => .inl h, fun _ _ h => .inl h⟩
theorem Sim.ext {T : Tab} {st : Sl} {σ : St} {B F H B' H' : Hp} (S : Sim T st σ B F H) (e : Ext B H B' H') : Sim T st σ B' F H' := by
  have back : ∀ (i : Nat) r v a, st[i]? = some (some r) → σ[i]? = some (some v) → Ow H' r v a → Ow H r v a := fun i r v a h1 h2 o => by
    obtain ⟨v', h4, h5⟩ := S.rel i r h1
    rw [h2] at h4; cases h4
    exact Ow.back e.h.tk h5 (fun p o _ q => e.h p o q) o
  exact {
    exB := e.bh
    exF := S.exF.trans e.h
    dis := fun a o h => by
      cases q : B' a with
      | none => rfl
      | some u =>
        rcases e.new a u q with z | z
        · rw [S.dis a o h] at z; cases z
        · rw [S.exF a o h] at z; cases z
    tup := fun a xs h => by
      rcases e.tup a xs h with z | z
      · exact e.b a _ (S.tup a xs z)
      · exact z
    len := S.len
    rel := fun i r h => by
      obtain ⟨v, h1, h2⟩ := S.rel i r h
      exact ⟨v, h1, h2.keep e.b e.h.tk fun a o _ z => e.h a o z⟩
    own := fun i r v a h1 h2 h3 => by
      have h3 := back i r v a h1 h2 h3
      obtain ⟨z1, z2⟩ := S.own i r v a h1 h2 h3
      refine ⟨?_, z2⟩
      obtain ⟨v', h4, h5⟩ := S.rel i r h1
      rw [h2] at h4; cases h4
      obtain ⟨⟨o, h6⟩, _⟩ := h5.ow h3
      cases q : B' a with
      | none => rfl
      | some u =>
        rcases e.new a u q with z | z
        · rw [z1] at z; cases z
        · rw [h6] at z; cases z
    sep := fun i j r q v u a n h1 h2 h3 h4 h5 h6 => S.sep i j r q v u a n h1 h2 h3 h4 (back i r v a h1 h2 h5) (back j q u a h3 h4 h6)
    tbs := S.tbs.stay e.b (fun a ps h _ => e.h a _ h) (fun a ps h _ n => by
      cases q : B' a with
      | none => rfl
      | some u =>
        rcases e.new a u q with z | z
        · rw [n] at z; cases z
        · rw [h] at z; cases z) S.tbs.noF }
theorem Ext.newT {B H : Hp} {p : Addr} {o : HO} (e : Ex B H) (h : H p = none) : Ext B H (upd B p o) (upd H p o) := by
  refine ⟨.new (e.free h), .new h, fun a u q => ?_, fun a u q => ?_, fun a xs q => ?_⟩
  · by_cases z : a = p
    · subst z; rw [upd_same] at q ⊢; exact q
    · rw [upd_ne z] at q ⊢; exact e a u q
  · by_cases z : a = p
    · subst z; exact .inr h
    · rw [upd_ne z] at q; exact .inl q
  · by_cases z : a = p
    · subst z; rw [upd_same] at q ⊢; exact .inr q
    · rw [upd_ne z] at q; exact .inl q
end Fz
set_option Elab.async false
set_option linter.all false
set_option maxRecDepth 100000
set_option maxHeartbeats 2000000
namespace Fz
open PySem L2
inductive Oc (α : Type) where
  | v (a : α) | x (c : Nat)
abbrev DN := { d : Option Addr // d = none }
abbrev M (α : Type) := Sl → Option (Oc α × Sl)
def ret {α : Type} (a : α) : M α := fun st => some (.v a, st)
def bnd {α β : Type} (m : M α) (k : α → M β) : M β := fun st => match m st with
  | none => none
  | some (.x c, s) => some (.x c, s)
  | some (.v a, s) => k a s
def opt {α : Type} (o : Option α) : M α := fun st => match o with
  | none => none
  | some a => some (.v a, st)
variable (T : Tab)
section
variable (E : XK)
def Okx {α : Type} (o : Oc α) (st : Sl) (σ : St) (B F : Hp) (Q : α → Hp → Hp → Prop) : Prop := match o with
  | .v a => ∀ B' H', Ex B B' → Sim T st σ B' F H' → Q a B' H'
  | .x c => ∀ (d : DN) B' H', Ex B B' → Sim T st σ B' F H' → E (.ref (T.cls c)) d.1 H'
def Okr (o : Oc R) (st : Sl) (σ : St) (B F : Hp) (Q : V → Hp → Hp → Prop) : Prop := match o with
  | .v r => ∀ v B' H', Ex B B' → Sim T (some r :: st) (some v :: σ) B' F H' → Q v B' H'
  | .x c => ∀ (d : DN) B' H', Ex B B' → Sim T st σ B' F H' → E (.ref (T.cls c)) d.1 H'
end
variable (E : L2.St → XK)
def SemE (te : TE) (f : M D) : Prop := ∀ st σ B F H, Sim T st σ B F H → ∀ o s, f st = some (o, s) → ∀ Q : VK, Okx T (E σ) o s σ B F (fun x B' H' => ∀ v, Rep T B' x v → Q v H') → te σ H Q
def SemT (tt : TT) (f : M Bool) : Prop := ∀ st σ B F H, Sim T st σ B F H → ∀ o s, f st = some (o, s) → ∀ Q : Bool → Hp → Prop, Okx T (E σ) o s σ B F (fun b _ H' => Q b H') → tt σ H Q
def SemA (ta : TA) (f : M (List D)) : Prop := ∀ st σ B F H, Sim T st σ B F H → ∀ o s, f st = some (o, s) → ∀ Q : List V → Hp → Prop, Okx T (E σ) o s σ B F (fun xs B' H' => ∀ vs, Reps T B' xs vs → Q vs H') → ta σ H Q
def SemR (te : TE) (f : M R) : Prop := ∀ st σ B F H, Sim T st σ B F H → ∀ o s, f st = some (o, s) → ∀ Q : VK, Okr T (E σ) o s σ B F (fun v _ H' => Q v H') → te σ H Q
section
variable {T : Tab} {E : XK} {st : Sl} {σ : St} {B F H B' H' : Hp}
theorem Sim.push (S : Sim T st σ B F H) {x : D} {v : V} (r : Rep T B x v) : Sim T (some (.d x) :: st) (some v :: σ) B F H where
  exB := S.exB
  exF := S.exF
  dis := S.dis
  tup := S.tup
  len := by simp [S.len]
  rel := fun i q h => by
    cases i with
    | zero => simp at h; subst h; exact ⟨v, rfl, r⟩
    | succ i => obtain ⟨u, a, b⟩ := S.rel i q (by simpa using h); exact ⟨u, by simpa using a, b⟩
  own := fun i q u a h1 h2 h3 => by
    cases i with
    | zero => simp at h1; subst h1; exact h3.elim
    | succ i => exact S.own i q u a (by simpa using h1) (by simpa using h2) h3
  sep := fun i j q p u w a n h1 h2 h3 h4 h5 h6 => by
    cases i with
    | zero => simp at h1; subst h1; exact h5.elim
    | succ i =>
      cases j with
      | zero => simp at h3; subst h3; exact h6.elim
      | succ j => exact S.sep i j q p u w a (by omega) (by simpa using h1) (by simpa using h2) (by simpa using h3) (by simpa using h4) h5 h6
  tbs := S.tbs
theorem Sim.pop {s : Option R} {v : Option V} (S : Sim T (s :: st) (v :: σ) B F H) : Sim T st σ B F H where
  exB := S.exB
  exF := S.exF
  dis := S.dis
  tup := S.tup
  len := by have := S.len; simpa using this
  rel := fun i q h => by obtain ⟨u, a, b⟩ := S.rel (i + 1) q (by simpa using h); exact ⟨u, by simpa using a, b⟩
  own := fun i q u a h1 h2 h3 => S.own (i + 1) q u a (by simpa using h1) (by simpa using h2) h3
  sep := fun i j q p u w a n h1 h2 h3 h4 h5 h6 => S.sep (i + 1) (j + 1) q p u w a (by omega) (by simpa using h1) (by simpa using h2) (by simpa using h3) (by simpa using h4) h5 h6
  tbs := S.tbs
theorem Sim.top {r : R} {v : V} (S : Sim T (some r :: st) (some v :: σ) B F H) : RelR T B H r v := by
  obtain ⟨u, a, b⟩ := S.rel 0 r rfl
  cases a; exact b
theorem Sim.forget (S : Sim T st σ B F H) (i : Nat) : Sim T (st.set i none) σ B F H where
  exB := S.exB
  exF := S.exF
  dis := S.dis
  tup := S.tup
  len := by simp [S.len]
  rel := fun j q h => by
    rw [List.getElem?_set] at h
    split at h
    · split at h <;> simp at h
    · exact S.rel j q h
  own := fun j q u a h1 h2 h3 => by
    rw [List.getElem?_set] at h1
    split at h1
    · split at h1 <;> simp at h1
    · exact S.own j q u a h1 h2 h3
  sep := fun j k q p u w a n h1 h2 h3 h4 h5 h6 => by
    rw [List.getElem?_set] at h1 h3
    split at h1
    · split at h1 <;> simp at h1
    · split at h3
      · split at h3 <;> simp at h3
      · exact S.sep j k q p u w a n h1 h2 h3 h4 h5 h6
  tbs := S.tbs
theorem Sim.store {r : R} {v : V} (S : Sim T (some r :: st) (some v :: σ) B F H) (i : Nat) : Sim T (st.set i (some r)) (σ.set i (some v)) B F H := by
  have S' := S.pop
  have ln := S'.len
  refine ⟨S.exB, S.exF, S.dis, S.tup, by simp [ln], fun j q h => ?_, fun j q u a h1 h2 h3 => ?_, fun j k q p u w a n h1 h2 h3 h4 h5 h6 => ?_, S.tbs⟩
  · rw [List.getElem?_set] at h
    by_cases e : i = j
    · subst e
      rw [if_pos rfl] at h
      split at h
      · cases h
        refine ⟨v, ?_, S.top⟩
        rw [List.getElem?_set_self (by omega)]
      · cases h
    · rw [if_neg e] at h
      obtain ⟨u, a, b⟩ := S'.rel j q h
      exact ⟨u, by rw [List.getElem?_set_ne e]; exact a, b⟩
  · rw [List.getElem?_set] at h1 h2
    by_cases e : i = j
    · subst e
      rw [if_pos rfl] at h1 h2
      split at h1
      · cases h1
        rw [if_pos (by omega)] at h2
        cases h2
        exact S.own 0 r v a rfl rfl h3
      · cases h1
    · rw [if_neg e] at h1 h2
      exact S'.own j q u a h1 h2 h3
  · rw [List.getElem?_set] at h1 h2 h3 h4
    by_cases e : i = j
    · subst e
      rw [if_pos rfl] at h1 h2
      rw [if_neg n] at h3 h4
      split at h1
      · cases h1
        rw [if_pos (by omega)] at h2
        cases h2
        exact S.sep 0 (k + 1) r p v w a (by omega) rfl rfl (by simpa using h3) (by simpa using h4) h5 h6
      · cases h1
    · rw [if_neg e] at h1 h2
      by_cases e' : i = k
      · subst e'
        rw [if_pos rfl] at h3 h4
        split at h3
        · cases h3
          rw [if_pos (by omega)] at h4
          cases h4
          exact S.sep (j + 1) 0 q r u v a (by omega) (by simpa using h1) (by simpa using h2) rfl rfl h5 h6
        · cases h3
      · rw [if_neg e'] at h3 h4
        exact S'.sep j k q p u w a n h1 h2 h3 h4 h5 h6
mutual
def vw : R → D
  | .d x => x
  | .ol xs => .lst xs
  | .oi c fs => .obj c fs
  | .od ks vs => .dct ks vs
  | .nl cs => .lst (vwL cs)
  | .nt cs => .tup (vwL cs)
  | .ni c cs => .obj c (vwL cs)
  | .nd ks cs => .dct ks (vwL cs)
def vwL : List R → List D
  | [] => []
  | r :: rs => vw r :: vwL rs
end
mutual
def whole (T : Tab) : R → Prop
  | .oi c fs => fs.length = (T.flds c).length
  | .nl cs => wholeL T cs
  | .nt cs => wholeL T cs
  | .ni c cs => cs.length = (T.flds c).length ∧ wholeL T cs
  | .nd _ cs => wholeL T cs
  | _ => True
def wholeL (T : Tab) : List R → Prop
  | [] => True
  | r :: rs => whole T r ∧ wholeL T rs
end
noncomputable def addS (B H : Hp) (S : Addr → Prop) : Hp := fun b => by classical exact if S b then H b else B b
theorem addS_in {B H : Hp} {S : Addr → Prop} {b : Addr} (h : S b) : addS B H S b = H b := by unfold addS; exact if_pos h
theorem addS_out {B H : Hp} {S : Addr → Prop} {b : Addr} (h : ¬ S b) : addS B H S b = B b := by unfold addS; exact if_neg h
theorem addS_ex {B H : Hp} {S : Addr → Prop} (hb : ∀ a, S a → B a = none) : Ex B (addS B H S) := fun b o h => by
  by_cases q : S b
  · rw [hb b q] at h; cases h
  · rw [addS_out q]; exact h
mutual
theorem repR {S : Addr → Prop} (e : Ex B (addS B H S)) : ∀ {r : R} {v : V}, RelR T B H r v → (∀ b, Ow H r v b → S b) → whole T r → Rep T (addS B H S) (vw r) v
  | .d x, v, h, k, w => by unfold RelR at h; exact Rep.mono e x h
  | .ol xs, v, h, k, w => by
    unfold RelR at h; obtain ⟨b, ys, h1, h2, h3⟩ := h
    unfold vw; unfold Rep
    exact ⟨b, ys, h1, .inl (.inl (by rw [addS_in (k b (by unfold Ow; exact h1))]; exact h2)), Reps.mono e _ h3⟩
  | .oi c fs, v, h, k, w => by
    unfold RelR at h; obtain ⟨b, dx, fvs, h1, h2, h3, h4⟩ := h
    unfold vw; unfold Rep
    unfold whole at w
    exact ⟨b, dx, fvs, h1, by rw [addS_in (k b (by unfold Ow; exact h1))]; exact h2, by rw [h3, w, List.take_length], Reps.mono e _ h4⟩
  | .od ks vs, v, h, k, w => by
    unfold RelR at h; obtain ⟨b, xs, h1, h2, h4⟩ := h
    unfold vw; rw [rep_dct]
    exact ⟨b, xs, h1, h2.keep e fun o z => by rw [addS_in (k b (by unfold Ow; exact h1))]; exact z, Reps.mono e _ h4⟩
  | .nl cs, v, h, k, w => by
    unfold RelR at h; obtain ⟨b, ys, h1, h2, h3, _⟩ := h
    unfold vw; unfold Rep
    unfold whole at w
    exact ⟨b, ys, h1, .inl (.inl (by rw [addS_in (k b (by unfold Ow; exact .inl h1))]; exact h2)), repRs e h3 (fun p z => k p (by unfold Ow; exact .inr ⟨b, ys, h1, .inl h2, z⟩)) w⟩
  | .nt cs, v, h, k, w => by
    unfold RelR at h; obtain ⟨b, ys, h1, h2, h3⟩ := h
    unfold vw; unfold Rep
    unfold whole at w
    exact ⟨b, ys, h1, .inl (e b _ h2.1), repRs e h3 (fun p z => k p (by unfold Ow; exact ⟨b, ys, h1, .inr (.inl h2.2), z⟩)) w⟩
  | .ni c cs, v, h, k, w => by
    unfold RelR at h; obtain ⟨b, dx, fvs, h1, h2, h5, h3, _⟩ := h
    unfold vw; unfold Rep
    unfold whole at w
    exact ⟨b, dx, fvs, h1, by rw [addS_in (k b (by unfold Ow; exact .inl h1))]; exact h2, by rw [h5, w.1, List.take_length], repRs e h3 (fun p z => k p (by unfold Ow; exact .inr ⟨b, _, h1, .inr (.inr (.inl ⟨_, _, _, h2, rfl⟩)), z⟩)) w.2⟩
  | .nd ks cs, v, h, k, w => by
    unfold RelR at h; obtain ⟨b, xs, h1, h2, h3, _⟩ := h
    unfold vw; rw [rep_dct]
    unfold whole at w
    exact ⟨b, xs, h1, h2.keep e fun o z => by rw [addS_in (k b (by unfold Ow; exact .inl h1))]; exact z, repRs e h3 (fun p z => k p (by unfold Ow; exact .inr ⟨b, xs, h1, h2.held, z⟩)) w⟩
theorem repRs {S : Addr → Prop} (e : Ex B (addS B H S)) : ∀ {rs : List R} {vs : List V}, RelRs T B H rs vs → (∀ b, OwL H rs vs b → S b) → wholeL T rs → Reps T (addS B H S) (vwL rs) vs
  | [], vs, h, k, w => by unfold RelRs at h; unfold vwL; unfold Reps; exact h
  | r :: rs, vs, h, k, w => by
    unfold RelRs at h; obtain ⟨y, t, h1, h2, h3, _⟩ := h
    unfold vwL; unfold Reps
    unfold wholeL at w
    exact ⟨y, t, h1, repR e h2 (fun b z => k b (by unfold OwL; exact ⟨y, t, h1, .inl z⟩)) w.1, repRs e h3 (fun b z => k b (by unfold OwL; exact ⟨y, t, h1, .inr z⟩)) w.2⟩
end
theorem relR_vw {r : R} {v : V} (h : RelR T B H r v) (w : whole T r) (e : Ex B (addS B H (Ow H r v))) : Rep T (addS B H (Ow H r v)) (vw r) v := repR e h (fun _ z => z) w
theorem Sim.freeze (S : Sim T st σ B F H) {i : Nat} {r : R} (h : st[i]? = some (some r)) (w : whole T r) :
    ∃ B', Ex B B' ∧ Sim T (st.set i (some (.d (vw r)))) σ B' F H ∧ ∀ v, σ[i]? = some (some v) → Rep T B' (vw r) v := by
  obtain ⟨v, hv, rel⟩ := S.rel i r h
  have e : Ex B (addS B H (Ow H r v)) := addS_ex fun a o => (S.own i r v a h hv o).1
  have rp := relR_vw rel w e
  refine ⟨addS B H (Ow H r v), e, ⟨fun b o q => ?_, S.exF, fun b o q => ?_, fun b xs q => ?_, by simp [S.len], fun j q hj => ?_, fun j q u b h1 h2 h3 => ?_, fun j k q p u w' b n h1 h2 h3 h4 h5 h6 => ?_, S.tbs.stay e (fun _ _ z _ => z) (fun a ps z t n => by rw [addS_out (fun o => S.ntb h hv o _ z t)]; exact n) S.tbs.noF⟩, fun v' hv' => ?_⟩
  · by_cases z : Ow H r v b
    · rw [addS_in z] at q; exact q
    · rw [addS_out z] at q; exact S.exB b o q
  · by_cases z : Ow H r v b
    · rw [(S.own i r v b h hv z).2] at q; cases q
    · rw [addS_out z]; exact S.dis b o q
  · exact e b _ (S.tup b xs q)
  · rw [List.getElem?_set] at hj
    by_cases z : i = j
    · subst z
      rw [if_pos rfl] at hj
      split at hj
      · cases hj; exact ⟨v, hv, by unfold RelR; exact rp⟩
      · cases hj
    · rw [if_neg z] at hj
      obtain ⟨u, h1, h2⟩ := S.rel j q hj
      exact ⟨u, h1, h2.keep e (Tk.refl H) fun _ _ _ q => q⟩
  · rw [List.getElem?_set] at h1
    by_cases z : i = j
    · subst z
      rw [if_pos rfl] at h1
      split at h1
      · cases h1; exact h3.elim
      · cases h1
    · rw [if_neg z] at h1
      obtain ⟨y1, y2⟩ := S.own j q u b h1 h2 h3
      refine ⟨?_, y2⟩
      by_cases y : Ow H r v b
      · exact (S.sep i j r q v u b z h hv h1 h2 y h3).elim
      · rw [addS_out y]; exact y1
  · rw [List.getElem?_set] at h1 h3
    by_cases z : i = j
    · subst z
      rw [if_pos rfl] at h1
      split at h1
      · cases h1; exact h5.elim
      · cases h1
    · rw [if_neg z] at h1
      by_cases z' : i = k
      · subst z'
        rw [if_pos rfl] at h3
        split at h3
        · cases h3; exact h6.elim
        · cases h3
      · rw [if_neg z'] at h3
        exact S.sep j k q p u w' b n h1 h2 h3 h4 h5 h6
  · rw [hv] at hv'; cases hv'; exact rp
theorem Sim.freezeTop {r : R} {v : V} (S : Sim T (some r :: st) (some v :: σ) B F H) (w : whole T r) : ∃ B', Ex B B' ∧ Sim T st σ B' F H ∧ Rep T B' (vw r) v := by
  obtain ⟨B', e, S', h⟩ := S.freeze (i := 0) rfl w
  exact ⟨B', e, Sim.pop (show Sim T (some (.d (vw r)) :: st) (some v :: σ) B' F H from S'), h v rfl⟩
theorem Sim.alloc (S : Sim T st σ B F H) {p : Addr} {o : HO} {r : R} (hp : H p = none) (nt : ∀ xs, o ≠ .tup xs) (hr : RelR T B (upd H p o) r (.ref p)) (ho : ∀ a, Ow (upd H p o) r (.ref p) a → a = p := by intro a h; exact (V.ref.inj h).symm) : Sim T (some r :: st) (some (.ref p) :: σ) B F (upd H p o) := by
  have back : ∀ (i : Nat) q v a, st[i]? = some (some q) → σ[i]? = some (some v) → Ow (upd H p o) q v a → Ow H q v a := fun i q v a h1 h2 z => by
    obtain ⟨v', h4, h5⟩ := S.rel i q h1
    rw [h2] at h4; cases h4
    exact Ow.back (Ex.new hp).tk h5 (fun b u _ e => (Ex.new hp) b u e) z
  have no : ∀ (k : Nat) y x, st[k]? = some (some y) → σ[k]? = some (some x) → Ow H y x p → False := fun k y x g1 g2 g3 => by
    obtain ⟨u', a', b'⟩ := S.rel k y g1
    rw [g2] at a'; cases a'
    obtain ⟨⟨o', h'⟩, _⟩ := b'.ow g3
    rw [hp] at h'; cases h'
  refine ⟨S.exB.trans (.new hp), S.exF.trans (.new hp), S.dis, fun a xs q => ?_, by simp [S.len], fun i q h => ?_, fun i q u a h1 h2 h3 => ?_, fun i j q t u w a n h1 h2 h3 h4 h5 h6 => ?_, S.tbs.new hp⟩
  · by_cases z : a = p
    · subst z; rw [upd_same] at q; cases q; exact (nt xs rfl).elim
    · rw [upd_ne z] at q; exact S.tup a xs q
  · cases i with
    | zero => simp at h; subst h; exact ⟨_, rfl, hr⟩
    | succ i =>
      obtain ⟨u, a, b⟩ := S.rel i q (by simpa using h)
      exact ⟨u, by simpa using a, b.keep (.refl B) (Ex.new hp).tk fun a o _ z => (Ex.new hp) a o z⟩
  · cases i with
    | zero =>
      simp at h1 h2; subst h1; subst h2
      have e := ho a h3
      subst e
      exact ⟨S.exB.free hp, S.exF.free hp⟩
    | succ i =>
      have h1 : st[i]? = some (some q) := by simpa using h1
      have h2 : σ[i]? = some (some u) := by simpa using h2
      exact S.own i q u a h1 h2 (back i q u a h1 h2 h3)
  · cases i with
    | zero =>
      simp at h1 h2; subst h1; subst h2
      have e := ho a h5
      subst e
      cases j with
      | zero => exact n rfl
      | succ j =>
        have h3 : st[j]? = some (some t) := by simpa using h3
        have h4 : σ[j]? = some (some w) := by simpa using h4
        exact no j t w h3 h4 (back j t w _ h3 h4 h6)
    | succ i =>
      have h1 : st[i]? = some (some q) := by simpa using h1
      have h2 : σ[i]? = some (some u) := by simpa using h2
      cases j with
      | zero =>
        simp at h3 h4; subst h3; subst h4
        have e := ho a h6
        subst e
        exact no i q u h1 h2 (back i q u _ h1 h2 h5)
      | succ j =>
        have h3 : st[j]? = some (some t) := by simpa using h3
        have h4 : σ[j]? = some (some w) := by simpa using h4
        exact S.sep i j q t u w a (by omega) h1 h2 h3 h4 (back i q u a h1 h2 h5) (back j t w a h3 h4 h6)
theorem Sim.change2 {q : R} {u : V} (S : Sim T (some q :: st) (some u :: σ) B F H) {i : Nat} {r r' : R} {v : V} {a : Addr} {o : HO} (h : st[i]? = some (some r)) (hv : σ[i]? = some (some v)) (ho : Ow H r v a) (nt : ∀ xs, o ≠ .tup xs)
    (hr : RelR T B (upd H a o) r' v) (hb : ∀ b, Ow (upd H a o) r' v b → Ow H r v b ∨ Ow H q u b) : Sim T (st.set i (some r')) σ B F (upd H a o) := by
  have S' := S.pop
  obtain ⟨ba, fa⟩ := S'.own i r v a h hv ho
  obtain ⟨vr, hvr, relr⟩ := S'.rel i r h
  rw [hv] at hvr; cases hvr
  have tk : Tk H (upd H a o) := fun b xs z => by
    rw [upd_ne (by intro e; subst e; exact (relr.ow ho).2 xs z)]; exact z
  have other : ∀ j q u, i ≠ j → st[j]? = some (some q) → σ[j]? = some (some u) → ∀ b, Ow H q u b → b ≠ a := fun j q u n g1 g2 b g3 e => by
    subst e; exact S'.sep i j r q v u b n h hv g1 g2 ho g3
  have back : ∀ j q u, i ≠ j → st[j]? = some (some q) → σ[j]? = some (some u) → ∀ b, Ow (upd H a o) q u b → Ow H q u b := fun j q u n g1 g2 b g3 => by
    obtain ⟨v', h4, h5⟩ := S'.rel j q g1
    rw [g2] at h4; cases h4
    exact Ow.back tk h5 (fun p w g4 g5 => by rw [upd_ne (other j q u n g1 g2 p g4)]; exact g5) g3
  have ln := S'.len
  have two : ∀ j p w b, i ≠ j → st[j]? = some (some p) → σ[j]? = some (some w) → Ow (upd H a o) r' v b → Ow H p w b → False := fun j p w b n g1 g2 g3 g4 => by
    rcases hb b g3 with z | z
    · exact S'.sep i j r p v w b n h hv g1 g2 z g4
    · exact S.sep 0 (j + 1) q p u w b (by omega) rfl rfl (by simpa using g1) (by simpa using g2) z g4
  refine ⟨fun b u q => ?_, fun b u q => ?_, S'.dis, fun b xs q => ?_, by simp [ln], fun j q hj => ?_, fun j p w b h1 h2 h3 => ?_, fun j k q p u w b n h1 h2 h3 h4 h5 h6 => ?_, S'.tbs.upd (S'.ntb h hv ho)⟩
  · rw [upd_ne (by intro e; subst e; rw [ba] at q; cases q)]; exact S'.exB b u q
  · rw [upd_ne (by intro e; subst e; rw [fa] at q; cases q)]; exact S'.exF b u q
  · by_cases z : b = a
    · subst z; rw [upd_same] at q; cases q; exact (nt xs rfl).elim
    · rw [upd_ne z] at q; exact S'.tup b xs q
  · rw [List.getElem?_set] at hj
    by_cases z : i = j
    · subst z
      rw [if_pos rfl] at hj
      split at hj
      · cases hj; exact ⟨v, hv, hr⟩
      · cases hj
    · rw [if_neg z] at hj
      obtain ⟨u, h1, h2⟩ := S'.rel j q hj
      exact ⟨u, h1, h2.keep (.refl B) tk fun b ob g1 g2 => by rw [upd_ne (other j q u z hj h1 b g1)]; exact g2⟩
  · rw [List.getElem?_set] at h1
    by_cases z : i = j
    · subst z
      rw [if_pos rfl] at h1
      split at h1
      · cases h1
        rw [hv] at h2; cases h2
        rcases hb b h3 with z | z
        · exact S'.own i r v b h hv z
        · exact S.own 0 q u b rfl rfl z
      · cases h1
    · rw [if_neg z] at h1
      exact S'.own j p w b h1 h2 (back j p w z h1 h2 b h3)
  · rw [List.getElem?_set] at h1 h3
    by_cases z : i = j
    · subst z
      rw [if_pos rfl] at h1
      rw [if_neg n] at h3
      split at h1
      · cases h1
        rw [hv] at h2; cases h2
        exact two k p w b n h3 h4 h5 (back k p w n h3 h4 b h6)
      · cases h1
    · rw [if_neg z] at h1
      by_cases z' : i = k
      · subst z'
        rw [if_pos rfl] at h3
        split at h3
        · cases h3
          rw [hv] at h4; cases h4
          exact two j q u b z h1 h2 h6 (back j q u z h1 h2 b h5)
        · cases h3
      · rw [if_neg z'] at h3
        exact S'.sep j k q p u w b n h1 h2 h3 h4 (back j q u z h1 h2 b h5) (back k p w z' h3 h4 b h6)
theorem Sim.change (S : Sim T st σ B F H) {i : Nat} {r r' : R} {v : V} {a : Addr} {o : HO} (h : st[i]? = some (some r)) (hv : σ[i]? = some (some v)) (ho : Ow H r v a) (nt : ∀ xs, o ≠ .tup xs)
    (hr : RelR T B (upd H a o) r' v) (hb : ∀ b, Ow (upd H a o) r' v b → Ow H r v b := by intro b h; exact h) : Sim T (st.set i (some r')) σ B F (upd H a o) :=
  Sim.change2 (q := .d .non) (u := .non) (S.push (show Rep T B .non .non by unfold Rep; rfl)) h hv ho nt hr fun b z => .inl (hb b z)
end
end Fz
set_option Elab.async false
set_option linter.all false
set_option maxRecDepth 100000
set_option maxHeartbeats 2000000
namespace Fz
open PySem L2 PySem.Spec PyProof.Rows
def XV (xs : List (NestedKey × Addr × V)) (ys : List (NestedKey × Addr × Value)) : Prop := Paired (fun p q => p.1 = q.1 ∧ p.2.1 = q.2.1 ∧ RelV p.2.2 q.2.2) xs ys
theorem XV.get {xs : List (NestedKey × Addr × V)} {ys : List (NestedKey × Addr × Value)} (r : XV xs ys) : ∀ {i : Nat} {y : NestedKey × Addr × Value}, ys[i]? = some y → ∃ x, xs[i]? = some x ∧ x.1 = y.1 ∧ x.2.1 = y.2.1 ∧ RelV x.2.2 y.2.2 := by
  induction r with
  | nil => intro i y hi; simp at hi
  | @cons p q xs ys r _ ih =>
    intro i y hi
    cases i with
    | zero => simp at hi; subst hi; exact ⟨p, rfl, r⟩
    | succ i => simpa using ih (i := i) (by simpa using hi)
section
variable {P : Program} {w : World} {H : Hp} {h : Heap} {a : Addr} {ep : Nat} {es : List (KX × V)}
theorem KReps.get {T : Tab} : ∀ {ks : List D} {xs : List KX} {i : Nat} {x : KX}, KReps T H ks xs → xs[i]? = some x → ∃ d, ks[i]? = some d ∧ nk d = some x.nk ∧ (match x with
    | .v k => DKey d k
    | .t k a => nk d = some k ∧ Rep T H d (.ref a))
  | [], xs, i, x, h, e => by unfold KReps at h; subst h; simp at e
  | d :: ds, xs, i, x, h, e => by
    unfold KReps at h
    obtain ⟨y, r, rfl, h1, h2⟩ := h
    cases i with
    | zero =>
      simp at e; subst e
      refine ⟨d, rfl, ?_, h1⟩
      cases y with
      | v k =>
        have h1 : DKey d k := h1
        cases d <;> first | exact h1.elim | (cases (show k = _ from h1); rfl)
      | t k a => exact h1.1
    | succ i => exact KReps.get (i := i) h2 (by simpa using e)
theorem KReps.length {T : Tab} : ∀ {ks : List D} {xs : List KX}, KReps T H ks xs → ks.length = xs.length
  | [], xs, h => by unfold KReps at h; subst h; rfl
  | d :: ds, xs, h => by unfold KReps at h; obtain ⟨y, r, rfl, _, h2⟩ := h; simp [KReps.length h2]
end
end Fz
set_option Elab.async false
set_option linter.all false
set_option maxRecDepth 100000
set_option maxHeartbeats 2000000
namespace Fz
open PySem L2 PySem.Spec PyProof.Rows
def tupK (d : D) : Bool := match nk d with
  | some (.tup ks) => decide (NestedKey.depth (.tup ks) ≤ 8)
  | _ => false
def dkOk (ks : List D) (d : D) : Bool := (keyK d && ks.all keyK) || (tupK d && ks.all tupK)
def kpos (ks : List D) (d : D) : Option Nat := ks.findIdx? fun x => decide (nk x = nk d)
section
variable {P : Program} {w : World} {T : Tab} {H : Hp} {h : Heap} {a : Addr} {ep : Nat} {es : List (KX × V)} {ks : List D}
theorem XV.at {xs : List (NestedKey × Addr × V)} {ys : List (NestedKey × Addr × Value)} (r : XV xs ys) : ∀ {j : Nat} {v : V}, (xs.map (·.2.2))[j]? = some v → ∃ p, (ys.map (·.2))[j]? = some p ∧ RelV v p.2 := by
  induction r with
  | nil => intro j v hi; simp at hi
  | @cons p q xs ys r _ ih =>
    intro j v hi
    cases j with
    | zero => simp at hi; subst hi; exact ⟨q.2, rfl, r.2.2⟩
    | succ j => simpa using ih (j := j) (by simpa using hi)
theorem XV.length {xs : List (NestedKey × Addr × V)} {ys : List (NestedKey × Addr × Value)} (r : XV xs ys) : xs.length = ys.length := Paired.length r
end
section
variable {X : Cx} {T : Tab} {pins : List (Addr × Obj)} {σ : L2.St} {H : Hp} {s : Shared} {a : Addr} {ks : List D} {xs : List V} {d : D} {y v : V} {u : Value} {A : Around} {E : Value → Shared → Prop}
end
end Fz
set_option Elab.async false
set_option linter.all false
set_option maxRecDepth 100000
set_option maxHeartbeats 2000000
namespace Fz
open PySem L2 PySem.Spec PyProof.Rows
def dputK (ks : List D) (d : D) : List D := match kpos ks d with
  | some _ => ks
  | none => ks ++ [d]
def dputV {α : Type} (ks : List D) (xs : List α) (d : D) (v : α) : List α := match kpos ks d with
  | some j => xs.set j v
  | none => xs ++ [v]
section
variable {T : Tab} {B H : Hp} {a : Addr} {ks : List D} {es : List (KX × V)} {d : D} {x : KX} {v : V}
end
section
variable {X : Cx} {T : Tab} {pins : List (Addr × Obj)} {σ : L2.St} {B H : Hp} {s : Shared} {a : Addr} {ks : List D} {xs : List V} {d : D} {y v : V} {u r : Value} {A : Around} {E : Value → Shared → Prop}
end
end Fz
set_option Elab.async false
set_option linter.all false
set_option maxRecDepth 100000
set_option maxHeartbeats 2000000
namespace Fz
open PySem L2 PySem.Spec PyProof.Rows
def KX.vv : KX → V
  | .v k => kV k
  | .t _ a => .ref a
theorem KX.rel : ∀ {k : KX} {u : Value}, k.is u → RelV k.vv u
  | .v k, u, h => relV_key h
  | .t _ a, u, h => h
section
variable {P : Program} {w : World} {K : PySem.W.Frag} {tg : Expr} {d : Addr} {ep : Nat} {es : List (KX × V)}
end
section
variable {X : Cx} {tg e : Expr} {td : TE} {apos cpos : Pos}
end
end Fz
set_option Elab.async false
set_option linter.all false
set_option maxRecDepth 100000
set_option maxHeartbeats 2000000
namespace Fz
open PySem L2
theorem bnd_some {α β : Type} {m : M α} {k : α → M β} {st : Sl} {o : Oc β} {s : Sl} (h : bnd m k st = some (o, s)) :
    (∃ c, m st = some (.x c, s) ∧ o = .x c) ∨ ∃ a s1, m st = some (.v a, s1) ∧ k a s1 = some (o, s) := by
  unfold bnd at h
  split at h
  · cases h
  · rename_i c s' e; cases h; exact .inl ⟨c, e, rfl⟩
  · rename_i a s' e; exact .inr ⟨a, s', e, h⟩
theorem opt_some {α : Type} {q : Option α} {st : Sl} {o : Oc α} {s : Sl} (h : opt q st = some (o, s)) : ∃ a, q = some a ∧ o = .v a ∧ s = st := by
  unfold opt at h
  split at h
  · cases h
  · cases h; exact ⟨_, rfl, rfl, rfl⟩
section
variable {T : Tab} {E : XK} {st : Sl} {σ : St} {B F H B' H' : Hp}
theorem Okx.weak {α : Type} {o : Oc α} {s : Sl} {Q Q' : α → Hp → Hp → Prop} (h : Okx T E o s σ B F Q) (e : Ex B B') (k : ∀ a B1 H1, Ex B' B1 → Sim T s σ B1 F H1 → Q a B1 H1 → Q' a B1 H1) : Okx T E o s σ B' F Q' := by
  cases o with
  | v a => exact fun B1 H1 e1 S => k a B1 H1 e1 S (h B1 H1 (e.trans e1) S)
  | x c => exact fun d B1 H1 e1 S => h d B1 H1 (e.trans e1) S
theorem okx_bnd {α β : Type} {m : M α} {k : α → M β} {o : Oc β} {s : Sl} (h : bnd m k st = some (o, s)) {Q : β → Hp → Hp → Prop} (hQ : Okx T E o s σ B F Q) {R : α → Hp → Hp → Prop} {P : Prop}
    (run : ∀ o1 s1, m st = some (o1, s1) → Okx T E o1 s1 σ B F R → P)
    (next : ∀ a s1 B1 H1, m st = some (.v a, s1) → k a s1 = some (o, s) → Ex B B1 → Sim T s1 σ B1 F H1 → Okx T E o s σ B1 F Q → R a B1 H1) : P := by
  rcases bnd_some h with ⟨c, e1, rfl⟩ | ⟨a, s1, e1, e2⟩
  · exact run _ _ e1 fun d B1 H1 e S => hQ d B1 H1 e S
  · exact run _ _ e1 fun B1 H1 e S => next a s1 B1 H1 e1 e2 e S (hQ.weak e fun _ _ _ _ _ q => q)
end
def Prim1 (T : Tab) (r : V → Hp → VK → Prop) (g : D → Option D) : Prop := ∀ x z vx B H (Q : VK), Ex B H → Rep T B x vx → g x = some z → (∀ v B' H', Ext B H B' H' → Rep T B' z v → Q v H') → r vx H Q
def Prim2 (T : Tab) (r : R2) (g : D → D → Option D) : Prop := ∀ x y z vx vy B H (Q : VK), Ex B H → Rep T B x vx → Rep T B y vy → g x y = some z → (∀ v B' H', Ext B H B' H' → Rep T B' z v → Q v H') → r vx vy H Q
def PrimN (T : Tab) (r : List V → Hp → VK → Prop) (g : List D → Option D) : Prop := ∀ xs z vs B H (Q : VK), Ex B H → Reps T B xs vs → g xs = some z → (∀ v B' H', Ext B H B' H' → Rep T B' z v → Q v H') → r vs H Q
def PrimL (T : Tab) (r : List V → Hp → VK → Prop) (g : List D → Option (List D)) : Prop := ∀ xs zs vs B H (Q : VK), Ex B H → Reps T B xs vs → g xs = some zs →
  (∀ p ys B1 H1, Ext B H B1 H1 → H1 p = none → Reps T B1 zs ys → Q (.ref p) (upd H1 p (.lst ys))) → r vs H Q
def eUn (g : D → Option D) (fa : M D) : M D := bnd fa fun x => opt (g x)
def eBin (g : D → D → Option D) (fa fb : M D) : M D := bnd fa fun x => bnd fb fun y => opt (g x y)
def eCons (fa : M D) (fr : M (List D)) : M (List D) := bnd fa fun x => bnd fr fun xs => ret (x :: xs)
def eNil : M (List D) := ret []
def eOp (g : List D → Option D) (fa : M (List D)) : M D := bnd fa fun xs => opt (g xs)
def eTup (fa : M (List D)) : M D := bnd fa fun xs => opt (if xs.length ≤ sizeLine then some (.tup xs) else none)
def rD (fa : M D) : M R := bnd fa fun x => ret (.d x)
def rOp (g : List D → Option (List D)) (fa : M (List D)) : M R := bnd fa fun xs => opt ((g xs).map .ol)
def rLst (fa : M (List D)) : M R := bnd fa fun xs => opt (if xs.length ≤ sizeLine then some (.ol xs) else none)
mutual
def wholeB (n : Nat → Nat) : R → Bool
  | .oi c fs => fs.length == n c
  | .nl cs => wholeBL n cs
  | .nt cs => wholeBL n cs
  | .ni c cs => cs.length == n c && wholeBL n cs
  | .nd _ cs => wholeBL n cs
  | _ => true
def wholeBL (n : Nat → Nat) : List R → Bool
  | [] => true
  | r :: rs => wholeB n r && wholeBL n rs
end
def eFz (n : Nat → Nat) (fr : M R) : M D := bnd fr fun r => opt (if wholeB n r then some (vw r) else none)
section
variable {T : Tab} {E : L2.St → XK} {ta tb te : TE} {fa fb : M D}
theorem semE_un {r : V → Hp → VK → Prop} {g : D → Option D} (hr : Prim1 T r g) (ha : SemE T E ta fa) : SemE T E (tUn r ta) (eUn g fa) := by
  intro st σ B F H S o s h Q hQ
  refine okx_bnd h hQ (fun o1 s1 e1 q => ha st σ B F H S o1 s1 e1 _ q) fun a s1 B1 H1 _ h2 e1 S1 hQ1 v hv => ?_
  obtain ⟨z, hz, rfl, rfl⟩ := opt_some h2
  exact hr a z v B1 H1 Q S1.exB hv hz fun u B2 H2 e2 hu => hQ1 B2 H2 e2.b (S1.ext e2) u hu
theorem semE_op {r : R2} {g : D → D → Option D} (hr : Prim2 T r g) (ha : SemE T E ta fa) (hb : SemE T E tb fb) : SemE T E (tOp r ta tb) (eBin g fa fb) := by
  intro st σ B F H S o s h Q hQ
  refine okx_bnd h hQ (fun o1 s1 e1 q => ha st σ B F H S o1 s1 e1 _ q) fun a s1 B1 H1 _ h2 e1 S1 hQ1 v hv => ?_
  refine okx_bnd h2 hQ1 (fun o1 s2 e2 q => hb s1 σ B1 F H1 S1 o1 s2 e2 _ q) fun b s2 B2 H2 _ h3 e2 S2 hQ2 u hu => ?_
  obtain ⟨z, hz, rfl, rfl⟩ := opt_some h3
  exact hr a b z v u B2 H2 Q S2.exB (Rep.mono e2 a hv) hu hz fun u B3 H3 e3 hu => hQ2 B3 H3 e3.b (S2.ext e3) u hu
theorem semA_nil : SemA T E tNil eNil := by
  intro st σ B F H S o s h Q hQ
  have e : eNil st = some (.v [], st) := rfl
  rw [e] at h; cases h
  exact hQ B H (.refl B) S [] reps_nil
theorem semA_cons {t : TA} {fr : M (List D)} (ha : SemE T E ta fa) (hr : SemA T E t fr) : SemA T E (tCons ta t) (eCons fa fr) := by
  intro st σ B F H S o s h Q hQ
  refine okx_bnd h hQ (fun o1 s1 e1 q => ha st σ B F H S o1 s1 e1 _ q) fun a s1 B1 H1 _ h2 e1 S1 hQ1 v hv => ?_
  refine okx_bnd h2 hQ1 (fun o1 s2 e2 q => hr s1 σ B1 F H1 S1 o1 s2 e2 _ q) fun b s2 B2 H2 _ h3 e2 S2 hQ2 us hus => ?_
  cases h3
  exact hQ2 B2 H2 (.refl _) S2 (v :: us) (reps_cons (Rep.mono e2 a hv) hus)
theorem semE_callN {r : List V → Hp → VK → Prop} {g : List D → Option D} {t : TA} {f : M (List D)} (hr : PrimN T r g) (ha : SemA T E t f) : SemE T E (tCB r t) (eOp g f) := by
  intro st σ B F H S o s h Q hQ
  refine okx_bnd h hQ (fun o1 s1 e1 q => ha st σ B F H S o1 s1 e1 _ q) fun a s1 B1 H1 _ h2 e1 S1 hQ1 v hv => ?_
  obtain ⟨z, hz, rfl, rfl⟩ := opt_some h2
  exact hr a z v B1 H1 Q S1.exB hv hz fun u B2 H2 e2 hu => hQ1 B2 H2 e2.b (S1.ext e2) u hu
theorem relR_ol {B H : Hp} {p : Addr} {ys : List V} {xs : List D} (h : H p = some (.lst ys)) (r : Reps T B xs ys) : RelR T B H (.ol xs) (.ref p) := ⟨p, ys, rfl, h, r⟩
theorem semR_callL {r : List V → Hp → VK → Prop} {g : List D → Option (List D)} {t : TA} {f : M (List D)} (hr : PrimL T r g) (ha : SemA T E t f) : SemR T E (tCB r t) (rOp g f) := by
  intro st σ B F H S o s h Q hQ
  rcases bnd_some h with ⟨c, e1, rfl⟩ | ⟨a, s1, e1, e2⟩
  · exact ha st σ B F H S _ _ e1 _ hQ
  · obtain ⟨z, hz, rfl, rfl⟩ := opt_some e2
    cases hg : g a with
    | none => rw [hg] at hz; cases hz
    | some zs =>
      rw [hg] at hz; cases hz
      refine ha st σ B F H S _ _ e1 _ fun B1 H1 x1 S1 vs hvs => ?_
      refine hr a zs vs B1 H1 Q S1.exB hvs hg fun p ys B2 H2 x2 hp hy => ?_
      have S2 := S1.ext x2
      exact hQ _ B2 _ (x1.trans x2.b) (S2.alloc hp (fun _ z => nomatch z) (relR_ol upd_same hy))
theorem rep_tup {B : Hp} {p : Addr} {xs : List D} {vs : List V} (h : B p = some (.tup vs)) (r : Reps T B xs vs) : Rep T B (.tup xs) (.ref p) := by
  unfold Rep; exact ⟨p, vs, rfl, .inl h, r⟩
theorem semE_tup {t : TA} {f : M (List D)} (ha : SemA T E t f) : SemE T E (tTup t) (eTup f) := by
  intro st σ B F H S o s h Q hQ
  refine okx_bnd h hQ (fun o1 s1 e1 q => ha st σ B F H S o1 s1 e1 _ q) fun a s1 B1 H1 _ h2 e1 S1 hQ1 v hv => ?_
  obtain ⟨z, hz, rfl, rfl⟩ := opt_some h2
  split at hz
  · rename_i hl
    cases hz
    refine ⟨by rw [← hv.length]; exact hl, fun p hp => ?_⟩
    have x := Ext.newT (o := .tup v) S1.exB hp
    exact hQ1 _ _ x.b (S1.ext x) _ (rep_tup upd_same (Reps.mono x.b _ hv))
  · cases hz
theorem semR_lst {t : TA} {f : M (List D)} (ha : SemA T E t f) : SemR T E (tLst t) (rLst f) := by
  intro st σ B F H S o s h Q hQ
  rcases bnd_some h with ⟨c, e1, rfl⟩ | ⟨a, s1, e1, e2⟩
  · exact ha st σ B F H S _ _ e1 _ hQ
  · obtain ⟨z, hz, rfl, rfl⟩ := opt_some e2
    split at hz
    · rename_i hl
      cases hz
      refine ha st σ B F H S _ _ e1 _ fun B1 H1 x1 S1 vs hvs => ?_
      exact ⟨by rw [← hvs.length]; exact hl, fun p hp => hQ _ B1 _ x1 (S1.alloc hp (fun _ z => nomatch z) (relR_ol upd_same hvs))⟩
    · cases hz
theorem semR_d (ha : SemE T E ta fa) : SemR T E ta (rD fa) := by
  intro st σ B F H S o s h Q hQ
  rcases bnd_some h with ⟨c, e1, rfl⟩ | ⟨a, s1, e1, e2⟩
  · exact ha st σ B F H S _ _ e1 _ hQ
  · cases e2
    exact ha st σ B F H S _ _ e1 _ fun B1 H1 x1 S1 v hv => hQ v B1 H1 x1 (S1.push hv)
mutual
theorem whole_of : ∀ {r : R}, wholeB (fun c => (T.flds c).length) r = true → whole T r
  | .d _, _ => by unfold whole; trivial
  | .ol _, _ => by unfold whole; trivial
  | .od _ _, _ => by unfold whole; trivial
  | .oi c fs, h => by unfold whole; unfold wholeB at h; exact beq_iff_eq.mp h
  | .nl cs, h => by unfold whole; unfold wholeB at h; exact wholeL_of h
  | .nt cs, h => by unfold whole; unfold wholeB at h; exact wholeL_of h
  | .nd _ cs, h => by unfold whole; unfold wholeB at h; exact wholeL_of h
  | .ni c cs, h => by
    unfold whole; unfold wholeB at h
    have h := (Bool.and_eq_true _ _).mp h
    exact ⟨beq_iff_eq.mp h.1, wholeL_of h.2⟩
theorem wholeL_of : ∀ {rs : List R}, wholeBL (fun c => (T.flds c).length) rs = true → wholeL T rs
  | [], _ => by unfold wholeL; trivial
  | r :: rs, h => by
    unfold wholeL; unfold wholeBL at h
    have h := (Bool.and_eq_true _ _).mp h
    exact ⟨whole_of h.1, wholeL_of h.2⟩
end
theorem semE_fz {fr : M R} (ha : SemR T E ta fr) : SemE T E ta (eFz (fun c => (T.flds c).length) fr) := by
  intro st σ B F H S o s h Q hQ
  rcases bnd_some h with ⟨c, e1, rfl⟩ | ⟨a, s1, e1, e2⟩
  · exact ha st σ B F H S _ _ e1 _ hQ
  · obtain ⟨z, hz, rfl, rfl⟩ := opt_some e2
    split at hz
    · rename_i hw
      cases hz
      refine ha st σ B F H S _ _ e1 _ fun v B1 H1 x1 S1 => ?_
      obtain ⟨B2, x2, S2, hv⟩ := S1.freezeTop (whole_of hw)
      exact hQ B2 H1 (x1.trans x2) S2 v hv
    · cases hz
def eVar (i : Nat) : M D := fun st => match st[i]? with
  | some (some (.d x)) => some (.v x, st)
  | some (some (.ol xs)) => some (.v (.lst xs), st.set i (some (.d (.lst xs))))
  | some (some (.od ks vs)) => some (.v (.dct ks vs), st.set i (some (.d (.dct ks vs))))
  | _ => none
theorem semE_var {i : Nat} : SemE T E (tVar i) (eVar i) := by
  intro st σ B F H S o s h Q hQ
  unfold eVar at h
  split at h
  · rename_i x hi
    cases h
    obtain ⟨v, hv, r⟩ := S.rel i _ hi
    exact ⟨v, hv, hQ B H (.refl B) S v r⟩
  · rename_i x hi
    cases h
    obtain ⟨v, hv, r⟩ := S.rel i _ hi
    obtain ⟨B1, e1, S1, hr⟩ := S.freeze hi trivial
    exact ⟨v, hv, hQ B1 H e1 S1 v (hr v hv)⟩
  · rename_i ks vs hi
    cases h
    obtain ⟨v, hv, r⟩ := S.rel i _ hi
    obtain ⟨B1, e1, S1, hr⟩ := S.freeze hi trivial
    exact ⟨v, hv, hQ B1 H e1 S1 v (hr v hv)⟩
  · cases h
theorem semE_c {x : D} {v : V} (hr : ∀ B, Rep T B x v) : SemE T E (tC v) (ret x) := by
  intro st σ B F H S o s h Q hQ
  cases h
  exact hQ B H (.refl B) S v (hr B)
end
def vwN (n : Nat → Nat) (st : Sl) : Sl := st.map fun s => match s with
  | some r => if wholeB n r then some (.d (vw r)) else none
  | none => none
section
variable {T : Tab} {E : L2.St → XK} {st : Sl} {σ : St} {B F H B' H' : Hp}
def inTT (T : Tab) (a : Addr) : Prop := ∃ p ∈ T.tt, p.1 = a
open Classical in
noncomputable def noT (T : Tab) (H : Hp) : Hp := fun a => if inTT T a then none else H a
theorem noT_ex : Ex (noT T H) H := fun a o h => by
  unfold noT at h
  split at h
  · cases h
  · exact h
theorem noT_out {a : Addr} (n : ¬ inTT T a) : noT T H a = H a := if_neg n
theorem TbOk.nin (x : TbOk T B F H) {a : Addr} {o : HO} (h : H a = some o) (n : ∀ ps, o ≠ .tbl ps) : ¬ inTT T a := by
  rintro ⟨p, hp, e⟩
  obtain ⟨_, ps, h3, _⟩ := x.tab p hp
  rw [e, h] at h3
  exact n ps (Option.some.inj h3)
theorem ntb_tbl {o : HO} (h : ¬ isTb o) : ∀ ps, o ≠ .tbl ps := fun ps e => h (.inl ⟨ps, e⟩)
theorem addS_noT (S : Sim T st σ B F H) : addS B H (fun a => ¬ inTT T a) = noT T H := by
  funext b
  by_cases h : inTT T b
  · rw [addS_out (fun z => z h)]
    obtain ⟨p, hp, e⟩ := h
    rw [show noT T H b = none from if_pos ⟨p, hp, e⟩, ← e]
    exact (S.tbs.tab p hp).1
  · rw [addS_in h, noT_out h]
theorem code_ne_tbl {c : Addr} {q : Str} : ∀ ps, CodeO c q ≠ .tbl ps := fun ps z => by unfold CodeO at z; cases z
theorem Sim.exN (S : Sim T st σ B F H) : Ex B (noT T H) := fun a o h => by
  rw [noT_out]
  · exact S.exB a o h
  · rintro ⟨p, hp, e⟩
    have := (S.tbs.tab p hp).1
    rw [e, h] at this; cases this
theorem relR_full (S : Sim T st σ B F H) {r : R} {v : V} (h : RelR T B H r v) (w : whole T r) : Rep T (noT T H) (vw r) v := by
  have := repR (S := fun a => ¬ inTT T a) (by rw [addS_noT S]; exact S.exN) h (fun b z => by
    obtain ⟨⟨o, ho⟩, _⟩ := h.ow z
    exact S.tbs.nin ho (ntb_tbl (h.ntb z o ho))) w
  rwa [addS_noT S] at this
theorem Sim.full (S : Sim T st σ B F H) : Sim T (vwN (fun c => (T.flds c).length) st) σ (noT T H) (fun _ => none) H := by
  have inv : ∀ {i : Nat} {r : R}, (vwN (fun c => (T.flds c).length) st)[i]? = some (some r) → ∃ q, st[i]? = some (some q) ∧ whole T q ∧ r = .d (vw q) := fun {i r} h => by
    unfold vwN at h
    rw [List.getElem?_map] at h
    cases e : st[i]? with
    | none => rw [e] at h; cases h
    | some s =>
      rw [e] at h
      cases s with
      | none => cases h
      | some q =>
        by_cases hw : wholeB (fun c => (T.flds c).length) q = true
        · simp only [Option.map_some, hw, if_true] at h
          cases h
          exact ⟨q, rfl, whole_of hw, rfl⟩
        · simp only [Option.map_some, hw, if_false] at h
          cases h
  refine ⟨noT_ex, fun _ _ h => (nomatch h), fun _ _ h => (nomatch h), fun a xs h => by rw [noT_out (S.tbs.nin h (fun ps z => nomatch z))]; exact h, by unfold vwN; rw [List.length_map]; exact S.len, fun i r h => ?_, fun i r v a h1 h2 h3 => ?_, fun i j r q v u a n h1 h2 h3 h4 h5 h6 => ?_, ⟨fun _ _ h => (nomatch h), fun p hp => ?_⟩⟩
  · obtain ⟨q, h1, w, rfl⟩ := inv h
    obtain ⟨v, hv, rel⟩ := S.rel i q h1
    exact ⟨v, hv, relR_full S rel w⟩
  · obtain ⟨q, _, _, rfl⟩ := inv h1
    exact h3.elim
  · obtain ⟨q', _, _, rfl⟩ := inv h1
    exact h5.elim
  · obtain ⟨h1, ps, h3, h4, h5⟩ := S.tbs.tab p hp
    refine ⟨if_pos ⟨p, hp, rfl⟩, ps, h3, h4, fun pos cv hc => ?_⟩
    obtain ⟨c, a, b⟩ := h5 pos cv hc
    exact ⟨c, a, S.exN _ _ b⟩
def isCd (T : Tab) (H : Hp) (a : Addr) : Prop := ∃ p ∈ T.tt, ∃ (ps : Array Value) (pos : Pos), H p.1 = some (.tbl ps) ∧ codeAmong pos ps.toList = some (.ref a)
open Classical in
noncomputable def tups (T : Tab) (B H : Hp) : Hp := fun a => if (∃ xs, H a = some (.tup xs)) ∨ isCd T H a then H a else B a
theorem isCd_at {B1 F1 : Hp} (t : TbOk T B1 F1 H) (b : Ex B1 H) {a : Addr} (h : isCd T H a) : ∃ q, H a = some (CodeO a q) := by
  obtain ⟨p, hp, ps, pos, h1, h2⟩ := h
  obtain ⟨_, ps', h3, _, h5⟩ := t.tab p hp
  rw [h1] at h3; cases h3
  obtain ⟨c, e, z⟩ := h5 pos _ h2
  cases e
  exact ⟨_, b _ _ z⟩
theorem code_isTb {c : Addr} {q : Str} : isTb (CodeO c q) := .inr ⟨c, q, rfl⟩
theorem Sim.atB (S : Sim T st σ B F H) (e : Ex (noT T H) H') {a : Addr} {o : HO} (h : H a = some o) (n : ¬ isTb o) : H' a = some o := e a o (by rw [noT_out (S.tbs.nin h (ntb_tbl n))]; exact h)
theorem Sim.tkB (S : Sim T st σ B F H) (e : Ex (noT T H) H') : Tk H H' := fun a xs h => S.atB e h tup_ntb
theorem Sim.bkOw (S : Sim T st σ B F H) (e : Ex (noT T H) H') {i : Nat} {r : R} {v : V} {a : Addr} (h1 : st[i]? = some (some r)) (h2 : σ[i]? = some (some v)) (o : Ow H' r v a) : Ow H r v a := by
  obtain ⟨v', h4, h5⟩ := S.rel i r h1
  rw [h2] at h4; cases h4
  exact Ow.back (S.tkB e) h5 (fun p o z q => S.atB e q (S.ntb h1 h2 z o q)) o
theorem free_noT {B1 F1 : Hp} (x : Ex (noT T H) B1) {p : Addr} (n : B1 p = none) (t : TbOk T B1 F1 H') {o : HO} (h : H' p = some o) (k : ∀ ps, o ≠ .tbl ps) : H p = none := by
  have := x.free n
  rwa [noT_out (t.nin h k)] at this
theorem Sim.back {B1 F1 : Hp} (S : Sim T st σ B F H) (e : Ex (noT T H) H') (t : TbOk T B1 F1 H') (b : Ex B1 H') : Ex B (tups T B H') ∧ Sim T st σ (tups T B H') F H' ∧ ∀ a xs, H' a = some (.tup xs) → tups T B H' a = some (.tup xs) := by
  have at_ : ∀ {a : Addr} {o : HO}, H a = some o → ¬ isTb o → H' a = some o := fun {a o} h n => e a o (by rw [noT_out (S.tbs.nin h (ntb_tbl n))]; exact h)
  have tk : Tk H H' := fun a xs h => at_ h tup_ntb
  have ko : ∀ (i : Nat) r v, st[i]? = some (some r) → σ[i]? = some (some v) → ∀ p o, Ow H r v p → H p = some o → H' p = some o := fun i r v h1 h2 p o z q => at_ q (S.ntb h1 h2 z o q)
  have bk : ∀ (i : Nat) r v a, st[i]? = some (some r) → σ[i]? = some (some v) → Ow H' r v a → Ow H r v a := fun i r v a h1 h2 o => by
    obtain ⟨v', h4, h5⟩ := S.rel i r h1
    rw [h2] at h4; cases h4
    exact Ow.back tk h5 (ko i r v h1 h2) o
  have eB : Ex B H' := fun a o h => e a o (S.exN a o h)
  have e1 : Ex B (tups T B H') := fun a o h => by
    unfold tups
    split
    · exact eB a o h
    · exact h
  have tp : ∀ a xs, H' a = some (.tup xs) → tups T B H' a = some (.tup xs) := fun a xs h => by
    unfold tups
    rw [if_pos (.inl ⟨xs, h⟩)]; exact h
  have eF : Ex F H' := fun a o h => at_ (S.exF a o h) (S.tbs.noF a o h)
  refine ⟨e1, ⟨fun a o h => ?_, eF, fun a o h => ?_, tp, S.len, fun i r h => ?_, fun i r v a h1 h2 h3 => ?_, fun i j r q v u a n h1 h2 h3 h4 h5 h6 => S.sep i j r q v u a n h1 h2 h3 h4 (bk i r v a h1 h2 h5) (bk j q u a h3 h4 h6), ⟨S.tbs.noF, fun p hp => ?_⟩⟩, tp⟩
  · unfold tups at h
    split at h
    · exact h
    · exact eB a o h
  · unfold tups
    split
    · rename_i z
      have q := eF a o h
      rcases z with ⟨xs, z⟩ | z
      · rw [z] at q
        cases q
        have := S.tup a xs (S.exF a _ h)
        rw [S.dis a _ h] at this; cases this
      · obtain ⟨n, z⟩ := isCd_at t b z
        rw [z] at q
        cases q
        exact (S.tbs.noF a _ h code_isTb).elim
    · exact S.dis a o h
  · obtain ⟨v, h1, h2⟩ := S.rel i r h
    exact ⟨v, h1, h2.keep e1 tk (ko i r v h h1)⟩
  · have h3 := bk i r v a h1 h2 h3
    obtain ⟨z1, z2⟩ := S.own i r v a h1 h2 h3
    refine ⟨?_, z2⟩
    obtain ⟨v', h4, h5⟩ := S.rel i r h1
    rw [h2] at h4; cases h4
    obtain ⟨⟨o, h6⟩, nt⟩ := h5.ow h3
    have ob := h5.ntb h3 o h6
    unfold tups
    split
    · rename_i z
      have q := at_ h6 ob
      rcases z with ⟨xs, z⟩ | z
      · rw [q] at z
        cases z
        exact (nt xs h6).elim
      · obtain ⟨n, z⟩ := isCd_at t b z
        rw [q] at z
        cases z
        exact (ob code_isTb).elim
    · exact z1
  · obtain ⟨h1, ps, h3, h4, h5⟩ := t.tab p hp
    refine ⟨?_, ps, h3, h4, fun pos cv hc => ?_⟩
    · unfold tups
      rw [if_neg]
      · exact (S.tbs.tab p hp).1
      · rintro (⟨xs, z⟩ | z)
        · rw [h3] at z; cases z
        · obtain ⟨n, z⟩ := isCd_at t b z
          rw [h3] at z
          exact code_ne_tbl _ (Option.some.inj z).symm
    · obtain ⟨c, a1, b1⟩ := h5 pos cv hc
      refine ⟨c, a1, ?_⟩
      subst a1
      unfold tups
      rw [if_pos (.inr ⟨p, hp, ps, pos, h3, hc⟩)]
      exact b _ _ b1
def eFull (n : Nat → Nat) (f : M D) : M D := fun st => match f (vwN n st) with
  | some (.v x, _) => if imm x then some (.v x, st) else none
  | some (.x c, _) => some (.x c, st)
  | none => none
theorem semE_all {te : TE} {f : M D} (h : SemE T E te f) : SemE T E te (eFull (fun c => (T.flds c).length) f) := by
  intro st σ B F H S o s hf Q hQ
  unfold eFull at hf
  split at hf
  · rename_i x s1 e1
    split at hf
    · rename_i hi
      cases hf
      refine h _ σ (noT T H) _ H S.full _ _ e1 Q fun B1 H1 x1 S1 v hv => ?_
      obtain ⟨b1, b2, b3⟩ := S.back (x1.trans S1.exB) S1.tbs S1.exB
      exact hQ _ H1 b1 b2 v (imm_rep (fun a xs z => b3 a xs (S1.exB a _ z)) x hi hv)
    · cases hf
  · rename_i c s1 e1
    cases hf
    refine h _ σ (noT T H) _ H S.full _ _ e1 Q fun d B1 H1 x1 S1 => ?_
    obtain ⟨b1, b2, b3⟩ := S.back (x1.trans S1.exB) S1.tbs S1.exB
    exact hQ d _ H1 b1 b2
  · cases hf
theorem imms_rep {T : Tab} {B B' : Hp} (e : ∀ a xs, B a = some (.tup xs) → B' a = some (.tup xs)) : ∀ (ds : List D) {xs : List V}, imms ds = true → Reps T B ds xs → Reps T B' ds xs
  | [], _, _, h => h
  | d :: ds, xs, i, h => by
    unfold Reps at h
    unfold imms at i
    obtain ⟨v, r, e1, e2, e3⟩ := h
    have i' := (Bool.and_eq_true _ _).mp i
    unfold Reps
    exact ⟨v, r, e1, imm_rep e d i'.1 e2, imms_rep e ds i'.2 e3⟩
def rFull (n : Nat → Nat) (f : M R) : M R := fun st => match f (vwN n st) with
  | some (.v (.ol xs), _) => if imms xs then some (.v (.ol xs), st) else none
  | some (.v (.d x), _) => if imm x then some (.v (.d x), st) else none
  | some (.x c, _) => some (.x c, st)
  | _ => none
theorem semR_all {te : TE} {f : M R} (h : SemR T E te f) : SemR T E te (rFull (fun c => (T.flds c).length) f) := by
  intro st σ B F H S o s hf Q hQ
  unfold rFull at hf
  split at hf
  · rename_i xs s1 e1
    split at hf
    · rename_i hi
      cases hf
      refine h _ σ (noT T H) _ H S.full _ _ e1 Q fun v B1 H1 x1 S1 => ?_
      obtain ⟨b1, b2, b3⟩ := S.back (x1.trans S1.exB) S1.tbs S1.exB
      obtain ⟨p, ys, ev, hp, hr⟩ := S1.top
      subst ev
      have hn : B1 p = none := (S1.own 0 _ _ p rfl rfl rfl).1
      have hH : H p = none := free_noT x1 hn S1.tbs hp (fun _ z => nomatch z)
      refine hQ _ _ H1 b1 ⟨b2.exB, b2.exF, b2.dis, b2.tup, by simp [b2.len], fun i r q => ?_, fun i r v a h1 h2 h3 => ?_, fun i j r q v u a n h1 h2 h3 h4 h5 h6 => ?_, b2.tbs⟩
      · cases i with
        | zero => simp at q; subst q; exact ⟨_, rfl, p, ys, rfl, hp, imms_rep (fun a xs z => b3 a xs (S1.exB a _ z)) _ hi hr⟩
        | succ i => obtain ⟨u, a, b⟩ := b2.rel i r (by simpa using q); exact ⟨u, by simpa using a, b⟩
      · cases i with
        | zero =>
          simp at h1 h2; subst h1; subst h2
          have e : p = a := by cases h3; rfl
          subst e
          refine ⟨?_, S.exF.free hH⟩
          unfold tups
          rw [if_neg (by
            rintro (⟨xs, z⟩ | z)
            · rw [hp] at z; cases z
            · obtain ⟨n, z⟩ := isCd_at S1.tbs S1.exB z
              rw [hp] at z
              exact lst_ntb (.inr ⟨_, _, Option.some.inj z⟩))]
          exact S.exB.free hH
        | succ i => exact b2.own i r v a (by simpa using h1) (by simpa using h2) h3
      · have no : ∀ (k : Nat) y x, st[k]? = some (some y) → σ[k]? = some (some x) → Ow H1 y x p → False := fun k y x g1 g2 g3 => by
          obtain ⟨u', a', b'⟩ := S.rel k y g1
          rw [g2] at a'; cases a'
          obtain ⟨⟨o', h'⟩, _⟩ := b'.ow (S.bkOw (x1.trans S1.exB) g1 g2 g3)
          rw [hH] at h'; cases h'
        cases i with
        | zero =>
          simp at h1 h2; subst h1; subst h2
          have e : p = a := by cases h5; rfl
          subst e
          cases j with
          | zero => exact n rfl
          | succ j => exact no j q u (by simpa using h3) (by simpa using h4) h6
        | succ i =>
          cases j with
          | zero =>
            simp at h3 h4; subst h3; subst h4
            have e : p = a := by cases h6; rfl
            subst e
            exact no i r v (by simpa using h1) (by simpa using h2) h5
          | succ j => exact b2.sep i j r q v u a (by omega) (by simpa using h1) (by simpa using h2) (by simpa using h3) (by simpa using h4) h5 h6
    · cases hf
  · rename_i x s1 e1
    split at hf
    · rename_i hi
      cases hf
      refine h _ σ (noT T H) _ H S.full _ _ e1 Q fun v B1 H1 x1 S1 => ?_
      obtain ⟨b1, b2, b3⟩ := S.back (x1.trans S1.exB) S1.tbs S1.exB
      exact hQ _ _ H1 b1 (b2.push (imm_rep (fun a xs z => b3 a xs (S1.exB a _ z)) x hi S1.top))
    · cases hf
  · rename_i c s1 e1
    cases hf
    refine h _ σ (noT T H) _ H S.full _ _ e1 Q fun d B1 H1 x1 S1 => ?_
    obtain ⟨b1, b2, b3⟩ := S.back (x1.trans S1.exB) S1.tbs S1.exB
    exact hQ d _ H1 b1 b2
  · cases hf
end
end Fz
set_option Elab.async false
set_option linter.all false
set_option maxRecDepth 100000
set_option maxHeartbeats 2000000
namespace Fz
open PySem L2
inductive Fl where
  | nx | rt (r : R) | bk | ct | x (c : Nat)
abbrev MS := Sl → Option (Fl × Sl)
def Kp (kp : Nat → Bool) (σ σ' : St) : Prop := ∀ i, kp i = true → σ'[i]? = σ[i]?
theorem Kp.refl (kp : Nat → Bool) (σ : St) : Kp kp σ σ := fun _ _ => rfl
theorem Kp.trans {kp : Nat → Bool} {a b c : St} (h : Kp kp a b) (g : Kp kp b c) : Kp kp a c := fun i e => (g i e).trans (h i e)
theorem Kp.set {kp : Nat → Bool} {σ : St} {i : Nat} {v : Option V} (h : kp i = false) : Kp kp σ (σ.set i v) := fun j e => by
  rw [List.getElem?_set_ne]
  rintro rfl
  rw [h] at e; cases e
def OkS (T : Tab) (E : L2.St → XK) (kp : Nat → Bool) (fl : Fl) (st : Sl) (σ : St) (B F : Hp) (D : Ends) : Prop := match fl with
  | .nx => ∀ σ' B' H', Ex B B' → Kp kp σ σ' → Sim T st σ' B' F H' → D.nx σ' H'
  | .bk => ∀ σ' B' H', Ex B B' → Kp kp σ σ' → Sim T st σ' B' F H' → D.bk σ' H'
  | .ct => ∀ σ' B' H', Ex B B' → Kp kp σ σ' → Sim T st σ' B' F H' → D.ct σ' H'
  | .rt r => ∀ v σ' B' H', Ex B B' → Kp kp σ σ' → Sim T (some r :: st) (some v :: σ') B' F H' → D.rt v H'
  | .x c => ∀ (d : DN) σ' B' H', Ex B B' → Kp kp σ σ' → Sim T st σ' B' F H' → E σ' (.ref (T.cls c)) d.1 H'
def SemS (T : Tab) (E : L2.St → XK) (kp : Nat → Bool) (ts : TS) (f : MS) : Prop := ∀ st σ B F H, Sim T st σ B F H → ∀ fl s, f st = some (fl, s) → ∀ D : Ends, OkS T E kp fl s σ B F D → ts D σ H
def SemG (T : Tab) (kp : Nat → Bool) (g : TG) (gf : D → Sl → Option Sl) : Prop := ∀ st σ B F H, Sim T st σ B F H → ∀ d v s, Rep T B d v → gf d st = some s → ∀ Q : St → Hp → Prop, (∀ σ', Kp kp σ σ' → Sim T s σ' B F H → Q σ' H) → g v σ H Q
def SemGs (T : Tab) (kp : Nat → Bool) (g : TGs) (gf : List D → Sl → Option Sl) : Prop := ∀ st σ B F H, Sim T st σ B F H → ∀ ds vs s, Reps T B ds vs → gf ds st = some s → ∀ Q : St → Hp → Prop, (∀ σ', Kp kp σ σ' → Sim T s σ' B F H → Q σ' H) → g vs σ H Q
structure Steps (T : Tab) (J : It) (ds : List D) (B : Hp) : Prop where
  go : ∀ i H, i < ds.length → Ex B H → J.go i H
  stop : ∀ H, Ex B H → J.stop ds.length H
  yld : ∀ i d H x H' B1, ds[i]? = some d → Ex B B1 → Ex B1 H → J.yld i H x H' → ∃ B2, Ext B1 H B2 H' ∧ Rep T B2 d x
def SemI (T : Tab) (E : L2.St → XK) (wi : TI) (f : M (List D)) : Prop := ∀ st σ B F H, Sim T st σ B F H → ∀ o s, f st = some (o, s) → ∀ R : It → Hp → Prop, Okx T (E σ) o s σ B F (fun ds B' H' => ∀ J, Steps T J ds B' → R J H') → wi σ H R
def gN (i : Nat) : D → Sl → Option Sl := fun d st => some (st.set i (some (.d d)))
def gsN : List D → Sl → Option Sl := fun ds st => match ds with
  | [] => some st
  | _ => none
def gsC (f : D → Sl → Option Sl) (g : List D → Sl → Option Sl) : List D → Sl → Option Sl := fun ds st => match ds with
  | d :: r => (f d st).bind (g r)
  | [] => none
def gT (n : Nat) (g : List D → Sl → Option Sl) : D → Sl → Option Sl := fun d st => match d with
  | .tup ds => if ds.length = n then g ds st else none
  | _ => none
section
variable {T : Tab} {E : L2.St → XK} {kp : Nat → Bool} {st : Sl} {σ σ' : St} {B F H B' H' : Hp}
theorem OkS.weak {fl : Fl} {s : Sl} {D D' : Ends} (h : OkS T E kp fl s σ B F D) (e : Ex B B') (k : Kp kp σ σ') (hn : fl = .nx → ∀ a b, D.nx a b → D'.nx a b) (hb : fl = .bk → ∀ a b, D.bk a b → D'.bk a b) (hc : fl = .ct → ∀ a b, D.ct a b → D'.ct a b) (hr : ∀ a b, D.rt a b → D'.rt a b) : OkS T E kp fl s σ' B' F D' := by
  cases fl with
  | nx => exact fun σ1 B1 H1 e1 k1 S => hn rfl _ _ (h σ1 B1 H1 (e.trans e1) (k.trans k1) S)
  | bk => exact fun σ1 B1 H1 e1 k1 S => hb rfl _ _ (h σ1 B1 H1 (e.trans e1) (k.trans k1) S)
  | ct => exact fun σ1 B1 H1 e1 k1 S => hc rfl _ _ (h σ1 B1 H1 (e.trans e1) (k.trans k1) S)
  | rt r => exact fun v σ1 B1 H1 e1 k1 S => hr _ _ (h v σ1 B1 H1 (e.trans e1) (k.trans k1) S)
  | x c => exact fun d σ1 B1 H1 e1 k1 S => h d σ1 B1 H1 (e.trans e1) (k.trans k1) S
theorem OkS.same {fl : Fl} {s : Sl} {D : Ends} (h : OkS T E kp fl s σ B F D) (e : Ex B B') (k : Kp kp σ σ') : OkS T E kp fl s σ' B' F D :=
  h.weak e k (fun _ _ _ z => z) (fun _ _ _ z => z) (fun _ _ _ z => z) fun _ _ z => z
theorem semG_name {i : Nat} (hk : kp i = false) : SemG T kp (gName i) (gN i) := by
  intro st σ B F H S d v s r h Q q
  cases h
  exact q _ (Kp.set hk) (Sim.store (S.push r) i)
theorem semGs_nil : SemGs T kp gNil gsN := by
  intro st σ B F H S ds vs s r h Q q
  cases ds with
  | nil =>
    unfold Reps at r
    cases h
    exact ⟨r, q _ (Kp.refl _ _) S⟩
  | cons d ds => cases h
theorem semGs_cons {g : TG} {gs : TGs} {f : D → Sl → Option Sl} {fs : List D → Sl → Option Sl} (h1 : SemG T kp g f) (h2 : SemGs T kp gs fs) : SemGs T kp (gCons g gs) (gsC f fs) := by
  intro st σ B F H S ds vs s r h Q q
  cases ds with
  | nil => cases h
  | cons d ds =>
    unfold Reps at r
    obtain ⟨v, r', rfl, rd, rr⟩ := r
    have h : (f d st).bind (fs ds) = some s := h
    cases e : f d st with
    | none => rw [e] at h; cases h
    | some s1 =>
      rw [e] at h
      exact ⟨v, r', rfl, h1 st σ B F H S d v s1 rd e _ fun σ1 k1 S1 => h2 s1 σ1 B F H S1 ds r' s rr h _ fun σ2 k2 S2 => q σ2 (k1.trans k2) S2⟩
theorem semG_tup {n : Nat} {gs : TGs} {fs : List D → Sl → Option Sl} (h1 : SemGs T kp gs fs) : SemG T kp (gTup T.K n gs) (gT n fs) := by
  intro st σ B F H S d v s r h Q q
  unfold gT at h
  split at h
  · rename_i ds
    split at h
    · rename_i hl
      unfold Rep at r
      obtain ⟨a, xs, rfl, ht, hr⟩ := r
      exact ⟨a, xs, rfl, (S.exB.tu ht).sq, by rw [← hr.length]; exact hl, h1 st σ B F H S ds xs s hr h Q q⟩
    · cases h
  · cases h
def sNext : MS := fun st => some (.nx, st)
def sSeq (f g : MS) : MS := fun st => match f st with
  | some (.nx, s) => g s
  | r => r
theorem semS_next : SemS T E kp tNext sNext := by
  intro st σ B F H S fl s h D hD
  cases h
  exact hD σ B H (Ex.refl _) (Kp.refl _ _) S
theorem semS_seq {t u : TS} {f g : MS} (h1 : SemS T E kp t f) (h2 : SemS T E kp u g) : SemS T E kp (tSeq t u) (sSeq f g) := by
  intro st σ B F H S fl s h D hD
  unfold sSeq at h
  split at h
  · rename_i s1 e
    exact h1 st σ B F H S _ _ e _ fun σ1 B1 H1 e1 k1 S1 => h2 s1 σ1 B1 F H1 S1 fl s h D (hD.same e1 k1)
  · rename_i r hn
    refine h1 st σ B F H S fl s h _ (hD.weak (Ex.refl _) (Kp.refl _ _) (fun e => ?_) (fun _ _ _ z => z) (fun _ _ _ z => z) fun _ _ z => z)
    subst e
    exact (hn s h).elim
def sSet (i : Nat) (m : M R) : MS := fun st => match m st with
  | some (.v r, s) => some (.nx, s.set i (some r))
  | some (.x c, s) => some (.x c, s)
  | none => none
theorem semS_set {te : TE} {m : M R} {i : Nat} (hk : kp i = false) (h : SemR T E te m) : SemS T E kp (tAsg te (gName i)) (sSet i m) := by
  intro st σ B F H S fl s hf D hD
  unfold sSet at hf
  split at hf
  · rename_i r s1 e
    cases hf
    exact h st σ B F H S _ _ e _ fun v B1 H1 e1 S1 => hD _ B1 H1 e1 (Kp.set hk) (S1.store i)
  · rename_i c s1 e
    cases hf
    exact h st σ B F H S _ _ e _ fun d B1 H1 e1 S1 => hD d σ B1 H1 e1 (Kp.refl _ _) S1
  · cases hf
def sAsg (m : M D) (g : D → Sl → Option Sl) : MS := fun st => match m st with
  | some (.v r, s) => (g r s).map fun s => (.nx, s)
  | some (.x c, s) => some (.x c, s)
  | none => none
def sIf (c : M Bool) (f g : MS) : MS := fun st => match c st with
  | some (.v b, s) => if b = true then f s else g s
  | some (.x c, s) => some (.x c, s)
  | none => none
theorem semS_if {tc : TT} {c : M Bool} {t u : TS} {f g : MS} (hc : SemT T E tc c) (h1 : SemS T E kp t f) (h2 : SemS T E kp u g) : SemS T E kp (tIfS tc t u) (sIf c f g) := by
  intro st σ B F H S fl s hf D hD
  unfold sIf at hf
  split at hf
  · rename_i b s1 e
    refine hc st σ B F H S _ _ e _ fun B1 H1 e1 S1 => ?_
    cases b with
    | true => exact h1 s1 σ B1 F H1 S1 fl s hf D (hD.same e1 (Kp.refl _ _))
    | false => exact h2 s1 σ B1 F H1 S1 fl s hf D (hD.same e1 (Kp.refl _ _))
  · rename_i c s1 e
    cases hf
    exact hc st σ B F H S _ _ e _ fun d B1 H1 e1 S1 => hD d σ B1 H1 e1 (Kp.refl _ _) S1
  · cases hf
def sRet (m : M R) : MS := fun st => match m st with
  | some (.v r, s) => some (.rt r, s)
  | some (.x c, s) => some (.x c, s)
  | none => none
theorem semS_ret {te : TE} {m : M R} (h : SemR T E te m) : SemS T E kp (tRet te) (sRet m) := by
  intro st σ B F H S fl s hf D hD
  unfold sRet at hf
  split at hf
  · rename_i r s1 e
    cases hf
    exact h st σ B F H S _ _ e _ fun v B1 H1 e1 S1 => hD v σ B1 H1 e1 (Kp.refl _ _) S1
  · rename_i c s1 e
    cases hf
    exact h st σ B F H S _ _ e _ fun d B1 H1 e1 S1 => hD d σ B1 H1 e1 (Kp.refl _ _) S1
  · cases hf
def sRetN : MS := fun st => some (.rt (.d .non), st)
def sBrk : MS := fun st => some (.bk, st)
def sCt : MS := fun st => some (.ct, st)
theorem semS_ct : SemS T E kp tCont sCt := by
  intro st σ B F H S fl s hf D hD
  cases hf
  exact hD σ B H (Ex.refl _) (Kp.refl _ _) S
def sDrop (m : M R) : MS := fun st => match m st with
  | some (.v _, s) => some (.nx, s)
  | some (.x c, s) => some (.x c, s)
  | none => none
def rMv (i : Nat) : M R := fun st => match st[i]? with
  | some (some r) => some (.v r, st.set i none)
  | _ => none
theorem semR_mv {i : Nat} : SemR T E (tVar i) (rMv i) := by
  intro st σ B F H S o s h Q hQ
  unfold rMv at h
  split at h
  · rename_i r hi
    cases h
    obtain ⟨v, hv, rel⟩ := S.rel i r hi
    refine ⟨v, hv, hQ v B H (Ex.refl _) ?_⟩
    have Sf := S.forget i
    refine ⟨S.exB, S.exF, S.dis, S.tup, by simp [S.len], fun j q e => ?_, fun j q u a h1 h2 h3 => ?_, fun j k q p u w a n h1 h2 h3 h4 h5 h6 => ?_, S.tbs⟩
    · cases j with
      | zero => simp at e; subst e; exact ⟨v, rfl, rel⟩
      | succ j => obtain ⟨u, a, b⟩ := Sf.rel j q (by simpa using e); exact ⟨u, by simpa using a, b⟩
    · cases j with
      | zero => simp at h1 h2; subst h1; subst h2; exact S.own i r v a hi hv h3
      | succ j => exact Sf.own j q u a (by simpa using h1) (by simpa using h2) h3
    · have ne : ∀ {j : Nat} {q : R}, (st.set i none)[j]? = some (some q) → i ≠ j ∧ st[j]? = some (some q) := fun {j q} e => by
        rw [List.getElem?_set] at e
        split at e
        · split at e <;> cases e
        · rename_i z; exact ⟨z, e⟩
      cases j with
      | zero =>
        simp at h1 h2; subst h1; subst h2
        cases k with
        | zero => exact n rfl
        | succ k =>
          obtain ⟨z, h3⟩ := ne (j := k) (by simpa using h3)
          exact S.sep i k r p v w a z hi hv h3 (by simpa using h4) h5 h6
      | succ j =>
        obtain ⟨z, h1⟩ := ne (j := j) (by simpa using h1)
        cases k with
        | zero => simp at h3 h4; subst h3; subst h4; exact S.sep i j r q v u a z hi hv h1 (by simpa using h2) h6 h5
        | succ k =>
          obtain ⟨z', h3⟩ := ne (j := k) (by simpa using h3)
          exact S.sep j k q p u w a (by omega) h1 (by simpa using h2) h3 (by simpa using h4) h5 h6
  · cases h
def forL (g : D → Sl → Option Sl) (body : MS) : List D → MS
  | [], s => some (.nx, s)
  | d :: ds, s => match g d s with
    | none => none
    | some s1 => match body s1 with
      | some (.nx, s2) => forL g body ds s2
      | some (.ct, s2) => forL g body ds s2
      | some (.bk, s2) => some (.nx, s2)
      | r => r
def sFor (it : M (List D)) (g : D → Sl → Option Sl) (body : MS) : MS := fun st => match it st with
  | some (.v ds, s) => forL g body ds s
  | some (.x c, s) => some (.x c, s)
  | none => none
theorem semS_for {wi : TI} {g : TG} {tb : TS} {it : M (List D)} {gf : D → Sl → Option Sl} {body : MS} (hi : SemI T E wi it) (hg : SemG T kp g gf) (hb : SemS T E kp tb body) : SemS T E kp (tFor wi g tb) (sFor it gf body) := by
  intro st σ B F H S fl s hf D hD
  unfold sFor at hf
  split at hf
  · rename_i ds s1 e
    refine hi st σ B F H S _ _ e _ fun B1 H1 e1 S1 J hJ => ?_
    refine ⟨fun i m σ2 H2 => i ≤ ds.length ∧ m = ds.length - i ∧ ∃ s2 B2, Ex B1 B2 ∧ Kp kp σ σ2 ∧ Sim T s2 σ2 B2 F H2 ∧ forL gf body (ds.drop i) s2 = some (fl, s), ⟨ds.length, Nat.zero_le _, by omega, s1, B1, Ex.refl _, Kp.refl _ _, S1, hf⟩, ?_⟩
    rintro i m σ2 H2 ⟨hle, rfl, s2, B2, e2, k2, S2, h2⟩
    by_cases hlt : i < ds.length
    · refine .inr ⟨hJ.go i H2 hlt (e2.trans S2.exB), ?_⟩
      rw [List.drop_eq_getElem_cons hlt] at h2
      have hget : ds[i]? = some ds[i] := List.getElem?_eq_getElem hlt
      generalize ds[i] = d at h2 hget
      unfold forL at h2
      split at h2
      · cases h2
      · rename_i s3 eg
        refine ⟨fun σ' H' => ∃ m', m' < ds.length - i ∧ (i + 1 ≤ ds.length ∧ m' = ds.length - (i + 1) ∧ ∃ s2 B2, Ex B1 B2 ∧ Kp kp σ σ' ∧ Sim T s2 σ' B2 F H' ∧ forL gf body (ds.drop (i + 1)) s2 = some (fl, s)), fun σ' H' z => z, fun x H3 hy => ?_⟩
        obtain ⟨B3, x3, hx⟩ := hJ.yld i d H2 x H3 B2 hget e2 S2.exB hy
        have S3 := S2.ext x3
        refine hg s2 σ2 B3 F H3 S3 d x s3 hx eg _ fun σ4 k4 S4 => ?_
        have k24 := k2.trans k4
        have e23 := e2.trans x3.b
        split at h2
        · rename_i s5 eb
          refine hb s3 σ4 B3 F H3 S4 _ _ eb _ fun σ5 B5 H5 e5 k5 S5 => ?_
          exact ⟨_, by omega, hlt, rfl, s5, B5, e23.trans e5, k24.trans k5, S5, h2⟩
        · rename_i s5 eb
          refine hb s3 σ4 B3 F H3 S4 _ _ eb _ fun σ5 B5 H5 e5 k5 S5 => ?_
          exact ⟨_, by omega, hlt, rfl, s5, B5, e23.trans e5, k24.trans k5, S5, h2⟩
        · rename_i s5 eb
          cases h2
          refine hb s3 σ4 B3 F H3 S4 _ _ eb _ fun σ5 B5 H5 e5 k5 S5 => ?_
          exact hD σ5 B5 H5 (e1.trans (e23.trans e5)) (k24.trans k5) S5
        · rename_i q n1 n2 n3
          refine hb s3 σ4 B3 F H3 S4 fl s h2 _ ?_
          cases fl with
          | nx => exact (n1 _ h2).elim
          | ct => exact (n2 _ h2).elim
          | bk => exact (n3 _ h2).elim
          | rt r => exact fun v σ5 B5 H5 e5 k5 S5 => hD v σ5 B5 H5 (e1.trans (e23.trans e5)) (k24.trans k5) S5
          | x c => exact fun v σ5 B5 H5 e5 k5 S5 => hD v σ5 B5 H5 (e1.trans (e23.trans e5)) (k24.trans k5) S5
    · have ei : i = ds.length := by omega
      subst ei
      refine .inl ⟨hJ.stop H2 (e2.trans S2.exB), ?_⟩
      rw [List.drop_length] at h2
      cases h2
      exact hD σ2 B2 H2 (e1.trans e2) k2 S2
  · rename_i c s1 e
    cases hf
    exact hi st σ B F H S _ _ e _ fun d B1 H1 e1 S1 => hD d σ B1 H1 e1 (Kp.refl _ _) S1
  · cases hf
def whileL (c : M Bool) (body : MS) : Nat → MS
  | 0, _ => none
  | n + 1, s => match c s with
    | some (.v true, s1) => (match body s1 with
      | some (.nx, s2) => whileL c body n s2
      | some (.ct, s2) => whileL c body n s2
      | some (.bk, s2) => some (.nx, s2)
      | r => r)
    | some (.v false, s1) => some (.nx, s1)
    | some (.x k, s1) => some (.x k, s1)
    | none => none
theorem semS_while {tc : TT} {tb : TS} {c : M Bool} {body : MS} (hc : SemT T E tc c) (hb : SemS T E kp tb body) (n : Nat) : SemS T E kp (tWhile tc tb) (whileL c body n) := by
  intro st σ B F H S fl s hf D hD
  refine ⟨fun m σ2 H2 => ∃ s2 B2, Ex B B2 ∧ Kp kp σ σ2 ∧ Sim T s2 σ2 B2 F H2 ∧ whileL c body m s2 = some (fl, s), ⟨n, st, B, Ex.refl _, Kp.refl _ _, S, hf⟩, ?_⟩
  rintro m σ2 H2 ⟨s2, B2, e2, k2, S2, h2⟩
  cases m with
  | zero => cases h2
  | succ m =>
    unfold whileL at h2
    split at h2
    · rename_i s3 e
      refine hc s2 σ2 B2 F H2 S2 _ _ e _ fun B3 H3 e3 S3 => ?_
      show if true = true then _ else _
      rw [if_pos rfl]
      refine ⟨fun σ' H' => ∃ m', m' < m + 1 ∧ ∃ s2 B2, Ex B B2 ∧ Kp kp σ σ' ∧ Sim T s2 σ' B2 F H' ∧ whileL c body m' s2 = some (fl, s), fun σ' H' z => z, ?_⟩
      split at h2
      · rename_i s5 eb
        refine hb s3 σ2 B3 F H3 S3 _ _ eb _ fun σ5 B5 H5 e5 k5 S5 => ?_
        exact ⟨m, by omega, s5, B5, e2.trans (e3.trans e5), k2.trans k5, S5, h2⟩
      · rename_i s5 eb
        refine hb s3 σ2 B3 F H3 S3 _ _ eb _ fun σ5 B5 H5 e5 k5 S5 => ?_
        exact ⟨m, by omega, s5, B5, e2.trans (e3.trans e5), k2.trans k5, S5, h2⟩
      · rename_i s5 eb
        cases h2
        refine hb s3 σ2 B3 F H3 S3 _ _ eb _ fun σ5 B5 H5 e5 k5 S5 => ?_
        exact hD σ5 B5 H5 (e2.trans (e3.trans e5)) (k2.trans k5) S5
      · rename_i q n1 n2 n3
        refine hb s3 σ2 B3 F H3 S3 fl s h2 _ ?_
        cases fl with
        | nx => exact (n1 _ h2).elim
        | ct => exact (n2 _ h2).elim
        | bk => exact (n3 _ h2).elim
        | rt r => exact fun v σ5 B5 H5 e5 k5 S5 => hD v σ5 B5 H5 (e2.trans (e3.trans e5)) (k2.trans k5) S5
        | x c => exact fun v σ5 B5 H5 e5 k5 S5 => hD v σ5 B5 H5 (e2.trans (e3.trans e5)) (k2.trans k5) S5
    · rename_i s3 e
      cases h2
      refine hc s2 σ2 B2 F H2 S2 _ _ e _ fun B3 H3 e3 S3 => ?_
      show if false = true then _ else _
      rw [if_neg Bool.false_ne_true]
      exact hD σ2 B3 H3 (e2.trans e3) k2 S3
    · rename_i k s3 e
      cases h2
      exact hc s2 σ2 B2 F H2 S2 _ _ e _ fun d B3 H3 e3 S3 => hD d σ2 B3 H3 (e2.trans e3) k2 S3
    · cases h2
end
end Fz
set_option Elab.async false
set_option linter.all false
set_option maxRecDepth 100000
set_option maxHeartbeats 2000000
namespace Fz
open PySem L2 PySem.Spec PyProof.Rows
structure Room (k : Nat) (A : Around) : Prop where
  hd : A.handled = none
  dp : A.depth + 3 * k + 5 < recursionLimit
  un : A.units + 16 * k + 200 < cLine
  gd : A.guards = some []
theorem Room.l2 {k : Nat} {A : Around} (r : Room k A) : L2.Room k A := ⟨r.hd, r.dp, r.un⟩
theorem Room.mono {j k : Nat} {A : Around} (r : Room k A) (h : j ≤ k) : Room j A := ⟨r.hd, (r.l2.mono h).dp, (r.l2.mono h).un, r.gd⟩
theorem Room.deeper {k : Nat} {A : Around} (r : Room (k + 1) A) (env : Env) : Room k (A.deeper env) := ⟨r.hd, (r.l2.deeper env).dp, (r.l2.deeper env).un, r.gd⟩
theorem Room.in1 {k : Nat} {A : Around} (r : Room (k + 1) A) : Room k A.in1 := ⟨r.hd, r.l2.in1.dp, r.l2.in1.un, r.gd⟩
theorem Room.make {k : Nat} {A : Around} (r : Room (k + 1) A) (C : Addr) (us : List Value) (kw : List (Str × Value)) : Room k (A.under (.builtin "type.__call__" ⟨.ref C :: us, kw⟩)) :=
  let q := r.l2.make C us kw
  ⟨q.hd, q.dp, q.un, by
    show pushGuards (Code.guards (.builtin "type.__call__" ⟨.ref C :: us, kw⟩)) A.guards = some []
    rw [show Code.guards (.builtin "type.__call__" ⟨.ref C :: us, kw⟩) = [] from if_neg (show ¬ (guardIds.contains "type.__call__" = true) by decide +kernel), r.gd]
    rfl⟩
theorem Room.depth {k : Nat} {A : Around} (r : Room k A) : A.depth < recursionLimit := r.l2.depth
theorem Room.units {k : Nat} {A : Around} (r : Room k A) : A.units + 64 < cLine := r.l2.units
structure FnOk (P : Program) (w : World) (K : PySem.W.Frag) (mg : Str → Option Value) (base : Heap) (CX : CXT) (k : Nat) (f : Addr) (fd : FuncData) (ps : List Str) (sp : Sp) : Prop where
  len : ∀ vs H Q E, sp vs H Q E → vs.length = ps.length
  run : ∀ (A : Around) (outer : List Env) (s : Shared) (H : Hp) (args : Args) (us : List Value) (vs : List V) (Q : VK) (E : XK), Room k A → Env0 P w K mg base A outer s H → BindsTo s fd args (ps.zip us) → Vals vs us → sp vs H Q E →
    codeAny (model P w) A (.call (.ref f) args) (CR CX outer P w H s Q E) s
section
variable {P : Program} {w : World} {K : PySem.W.Frag} {mg : Str → Option Value} {base : Heap} {CX : CXT} {k : Nat} {f : Addr} {fd : FuncData} {ps : List Str} {sp sp' : Sp}
theorem FnOk.mono {j : Nat} (F : FnOk P w K mg base CX j f fd ps sp) (h : j ≤ k) : FnOk P w K mg base CX k f fd ps sp :=
  ⟨F.len, fun A outer s H args us vs Q E hr => F.run A outer s H args us vs Q E (hr.mono h)⟩
theorem FnOk.imp (F : FnOk P w K mg base CX k f fd ps sp) (h : ∀ vs H Q E, sp' vs H Q E → sp vs H Q E) : FnOk P w K mg base CX k f fd ps sp' :=
  ⟨fun vs H Q E q => F.len vs H Q E (h _ _ _ _ q), fun A outer s H args us vs Q E hr he hb hv hs => F.run A outer s H args us vs Q E hr he hb hv (h _ _ _ _ hs)⟩
theorem fnr_of {name qual : Str} {params : Arguments} {body : List Stmt} {scope : Scope} {dV kV doc pm cdv ct oc : Value} {an od : Option Addr}
    {osl : Array (Option Value)} {N : List Str} (lk : K.lookup f = some ⟨oc, od, .func (PySem.W.fnOf name qual params body scope dV kV doc pm an cdv ct), osl⟩) (hcd : PySem.W.codeIn K cdv qual = true) (S : FnScope N ps scope)
    (len : ∀ vs H Q E, sp vs H Q E → vs.length = ps.length)
    (hbody : ∀ (A : Around) (outer : List Env) (s : Shared) (H : Hp) (vs : List V) (Q : VK) (E : XK), Room k (A.deeper (envOfC qual scope s.heap.objs.size f cdv)) → sp vs H Q E →
      ∃ t, PSs (cxOf CX P w K mg base N qual scope f cdv A outer s H E) body t ∧ t { nx := fun _ H' => Q .non H', rt := Q } (L2.start N vs) H) :
    FnOk P w K mg base CX (k + 1) f (PySem.W.fnOf name qual params body scope dV kV doc pm an cdv ct) ps sp := by
  refine ⟨len, fun A outer s H args us vs Q E hr e0 hb r hsp => ?_⟩
  have hl := len _ _ _ _ hsp
  have KX : K.In s.heap := e0.mod.kin.keeps fun b o e => (e0.bs b o e).1
  have lim : s.heap.NoLimit := e0.mod.nolimit.keeps fun b o e => (e0.bs b o e).1
  refine codeAny_call_function hr.depth (KX _ _ lk) rfl S.co S.gen rfl (PySem.W.codeRec_of KX hcd) (hb _ _ _ _ ?_)
  refine wpAny_newFunctionEnv_cells S.kind (fun ⟨n, v⟩ hy => (S.par n (List.of_mem_zip hy).1).imp id fun q => ⟨q, PySem.W.cellsFrom_some _ _ _ (.inl q)⟩) fun env he s1 x => ?_
  subst he
  refine ⟨lim.keeps x.toInCall.keep, codeAny_func ?_⟩
  obtain ⟨t, ht, hq⟩ := hbody A outer s H vs Q E (hr.deeper _) hsp
  have I : Inv (cxOf CX P w K mg base N qual scope f cdv A outer s H E) [] (L2.start N vs) H s1 := inv_start S hr.hd e0 hl r x
  refine wpAny_mono (ht.run [] s1 (L2.start N vs) H _ I hq) (fun fl s' hs => ?_) fun e s' hs => hs
  have fin : ∀ {σ' : L2.St} {H' : Hp} {v : V} {u : Value}, Inv (cxOf CX P w K mg base N qual scope f cdv A outer s H E) [] σ' H' s' → RelV v u → Q v H' → CE outer P w H s Q u s' :=
    fun {σ' H' v u} J rv q => ⟨v, H', J.os, J.bare, J.base, J.hok, rv, q⟩
  cases fl with
  | ret u => obtain ⟨v, σ', H', J, rv, q⟩ := hs; exact fin J rv q
  | next => obtain ⟨σ', H', J, q⟩ := hs; exact fin (v := V.non) (u := Value.none) J rfl q
  | brk => obtain ⟨_, _, _, q⟩ := hs; exact False.elim q
  | cont => obtain ⟨_, _, _, q⟩ := hs; exact False.elim q
theorem okR {x qual : Str} {st : Stmt} {N : List Str} (F : Fun K x qual st f fd) (S : FnScope N ps (defScope st)) (len : ∀ vs H Q E, sp vs H Q E → vs.length = ps.length)
    (hbody : ∀ (cdv : Value) (A : Around) (outer : List Env) (s : Shared) (H : Hp) (vs : List V) (Q : VK) (E : XK), Room k (A.deeper (envOfC qual (defScope st) s.heap.objs.size f cdv)) → sp vs H Q E →
      ∃ t, PSs (cxOf CX P w K mg base N qual (defScope st) f cdv A outer s H E) (defBody st) t ∧ t { nx := fun _ H' => Q .non H', rt := Q } (L2.start N vs) H) : FnOk P w K mg base CX (k + 1) f fd ps sp := by
  obtain ⟨oc, od, kV, doc, pm, an, cdv, ct, osl, rfl, lk, hcd⟩ := F.ex
  exact fnr_of lk hcd S len fun A outer s H vs Q E hr hsp => hbody cdv A outer s H vs Q E hr hsp
end
section
variable {X : Cx} {CX : CXT} {k : Nat} {f : Addr} {fd : FuncData} {ps : List Str} {sp : Sp} {dvs : List V} {ds : List Value} {E : L2.St → XK} {x : Str} {p pos : Pos} {e : Expr} {es : List Expr} {t : TA}
theorem run_fnSD {pins : List (Addr × Obj)} {σ : L2.St} {H : Hp} {s : Shared} {Q : VK} {us : List Value} {vs : List V} (F : FnOk X.prog X.w X.K X.mg X.base CX k f fd ps sp) (hr : Room k X.A) (hb : Binds X.K fd ps ds) (hd : Vals dvs ds) (hx : PassesAt CX X σ (E σ))
    (I : Inv X pins σ H s) (r : Vals vs us) (h : sp (vs ++ dvs) H Q (E σ)) : wpAny (model X.prog X.w) X.A (call (.ref f) us) (EP X pins σ Q) X.xe s := by
  have r2 : Vals (vs ++ dvs) (us ++ ds) := r.append hd
  refine wpAny_call (codeAny_mono (F.run X.A X.stack s H ⟨us, []⟩ (us ++ ds) (vs ++ dvs) Q (E σ) hr I.env0 (hb s us I.kIn (by rw [← r2.length]; exact F.len _ _ _ _ h)) r2 h) fun r s' hq => ?_)
  cases r with
  | error e => exact hx pins H s e s' I hq
  | ok fl =>
    cases fl with
    | ret u => exact I.after hq
    | next => exact False.elim hq
    | brk => exact False.elim hq
    | cont => exact False.elim hq
theorem pe_callSD (F : FnOk X.prog X.w X.K X.mg X.base CX k f fd ps sp) (hr : Room k X.A) (hg : Gl X x) (hm : X.mg x = some (.ref f)) (hk : PySem.W.keepIn X.K (.ref f) = true) (hb : Binds X.K fd ps ds) (hd : Vals dvs ds) (hx : ∀ σ, PassesAt CX X σ (E σ))
    (ha : PA X (e :: es) t) (hdb : (x == ("__debug__" : Str)) = false := by decide) (he : starEach (e :: es) X.env = (false, eval e X.env) :: starEach es X.env := by rfl) (hpl : (backTo pos (starEach es X.env)).any (·.1) = false := by rfl) :
    PE X (.Call (.Name x p) (e :: es) [] pos) (tCallSD sp dvs E t) := by
  refine ⟨fun pins s σ H Q I h => ?_⟩
  refine wpAny_Call_Name_kw (ld_glob I hg hm ?_ hdb)
  exact PySem.W.callWith_K (h₀ := X.base) I.ok.mod.kin hk (thn (ha.run pos pins s σ H _ I h) fun us s1 ⟨vs, H1, I1, r, q⟩ => ⟨I1.kIn, run_fnSD F hr hb hd (hx σ) I1 r q⟩) he hpl
end
end Fz
namespace Fz
open PySem L2
abbrev Fn := List R → Option (Oc R × List R)
def Okf (T : Tab) (o : Oc R) (rs : List R) (vs : List V) (B F : Hp) (Q : VK) (E : XK) : Prop := match o with
  | .v r => ∀ v B' H', Ex B B' → Sim T (some r :: rs.map some) (some v :: vs.map some) B' F H' → Q v H'
  | .x c => ∀ (d : DN) B' H', Ex B B' → Sim T (rs.map some) (vs.map some) B' F H' → E (.ref (T.cls c)) d.1 H'
def sp (T : Tab) (n : Nat) (f : Fn) : Sp := fun vs H Q E => vs.length = n ∧ ∃ rs B F o rs', Sim T (rs.map some) (vs.map some) B F H ∧ f rs = some (o, rs') ∧ Okf T o rs' vs B F Q E
theorem sp_sub {T : Tab} {n : Nat} {f g : Fn} (h : ∀ rs o, g rs = some o → f rs = some o) : ∀ vs H Q E, sp T n g vs H Q E → sp T n f vs H Q E :=
  fun vs H Q E ⟨hl, rs, B, F, o, rs', S, e, k⟩ => ⟨hl, rs, B, F, o, rs', S, h _ _ e, k⟩
theorem fn_sub {T : Tab} {n : Nat} {f g : Fn} {P : Program} {w : World} {mg : Str → Option Value} {base : Heap} {CX : CXT} {k : Nat} {a : Addr} {fd : FuncData} {ps : List Str} (h : FnOk P w T.K mg base CX k a fd ps (sp T n f)) (hg : ∀ rs o, g rs = some o → f rs = some o) : FnOk P w T.K mg base CX k a fd ps (sp T n g) :=
  h.imp (sp_sub hg)
def isD : R → Bool
  | .d _ => true
  | _ => false
def outs (kp : Nat → Bool) : Nat → List R → Sl → Option (List R)
  | _, [], _ => some []
  | i, r :: rs, s :: st => match (if kp i = true then s else if isD r = true then some r else none), outs kp (i + 1) rs st with
    | some q, some qs => some (q :: qs)
    | _, _ => none
  | _, _ :: _, [] => none
def fnEnd (kp : Nat → Bool) (rs : List R) (r : Oc R) (s : Sl) : Option (Oc R × List R) := (outs kp 0 rs s).map fun qs => (r, qs)
def fnOf (n N : Nat) (kp : Nat → Bool) (body : MS) : Fn := fun rs => if rs.length = n then
  match body (rs.map some ++ List.replicate (N - n) none) with
  | some (.rt r, s) => fnEnd kp rs (.v r) s
  | some (.nx, s) => fnEnd kp rs (.v (.d .non)) s
  | some (.x c, s) => fnEnd kp rs (.x c) s
  | _ => none
  else none
section
variable {T : Tab} {E : L2.St → XK} {kp : Nat → Bool} {st : Sl} {σ σ' : St} {B F H B' H' : Hp}
theorem sim_pad (S : Sim T st σ B F H) (k : Nat) : Sim T (st ++ List.replicate k none) (σ ++ List.replicate k none) B F H := by
  have ln := S.len
  have inv : ∀ {i : Nat} {r : R}, (st ++ List.replicate k none)[i]? = some (some r) → i < st.length ∧ st[i]? = some (some r) := fun {i r} h => by
    by_cases hi : i < st.length
    · rw [List.getElem?_append_left hi] at h; exact ⟨hi, h⟩
    · rw [List.getElem?_append_right (by omega), List.getElem?_replicate] at h
      split at h <;> cases h
  refine ⟨S.exB, S.exF, S.dis, S.tup, by simp [ln], fun i r h => ?_, fun i r v a h1 h2 h3 => ?_, fun i j r q v u a n h1 h2 h3 h4 h5 h6 => ?_, S.tbs⟩
  · obtain ⟨hi, h⟩ := inv h
    obtain ⟨v, a, b⟩ := S.rel i r h
    exact ⟨v, by rw [List.getElem?_append_left (by omega)]; exact a, b⟩
  · obtain ⟨hi, h1⟩ := inv h1
    rw [List.getElem?_append_left (by omega)] at h2
    exact S.own i r v a h1 h2 h3
  · obtain ⟨hi, h1⟩ := inv h1
    obtain ⟨hj, h3⟩ := inv h3
    rw [List.getElem?_append_left (by omega)] at h2 h4
    exact S.sep i j r q v u a n h1 h2 h3 h4 h5 h6
theorem outs_get : ∀ {rs qs : List R} {s : Sl} {i : Nat}, outs kp i rs s = some qs → qs.length = rs.length ∧ ∀ (j : Nat) q, qs[j]? = some q → (kp (i + j) = true ∧ s[j]? = some (some q)) ∨ (rs[j]? = some q ∧ isD q = true)
  | [], qs, s, i, h => by
    unfold outs at h
    cases h
    exact ⟨rfl, fun j q h => by simp at h⟩
  | r :: rs, qs, [], i, h => by unfold outs at h; cases h
  | r :: rs, qs, s :: st, i, h => by
    unfold outs at h
    split at h
    · rename_i q qs' e1 e2
      cases h
      obtain ⟨l, k⟩ := outs_get e2
      refine ⟨by simp [l], fun j q' hj => ?_⟩
      cases j with
      | zero =>
        simp at hj
        subst hj
        split at e1
        · rename_i hk; exact .inl ⟨hk, by simp [e1]⟩
        · split at e1
          · rename_i hd; cases e1; exact .inr ⟨rfl, hd⟩
          · cases e1
      | succ j =>
        have := k j q' (by simpa using hj)
        rw [show i + 1 + j = i + (j + 1) by omega] at this
        simpa using this
    · cases h
theorem sim_outs {rs qs : List R} {vs : List V} {s : Sl} {B0 H0 : Hp} {σ1 : St} {k : Nat} (S0 : Sim T (rs.map some) (vs.map some) B0 F H0) (e : Ex B0 B) (S : Sim T s σ B F H) (K : Kp kp (vs.map some ++ List.replicate k none) σ) (h : outs kp 0 rs s = some qs)
    (w : ∀ top : Option (R × V), True) : Sim T (qs.map some) (vs.map some) B F H := by
  obtain ⟨l, g⟩ := outs_get h
  have l0 : rs.length = vs.length := by have := S0.len; simpa using this
  have at_ : ∀ {j : Nat} {q : R}, (qs.map some)[j]? = some (some q) → j < vs.length ∧ ((kp j = true ∧ s[j]? = some (some q)) ∨ (rs[j]? = some q ∧ isD q = true)) := fun {j q} hj => by
    rw [List.getElem?_map] at hj
    cases e : qs[j]? with
    | none => rw [e] at hj; cases hj
    | some q' =>
      rw [e] at hj; cases hj
      have hl := (List.getElem?_eq_some_iff.mp e).1
      have := g j q e
      rw [Nat.zero_add] at this
      exact ⟨by omega, this⟩
  have val : ∀ {j : Nat}, j < vs.length → kp j = true → σ[j]? = (vs.map some)[j]? := fun {j} hj hk => by
    rw [K j hk, List.getElem?_append_left (by simpa using hj)]
  have dd : ∀ {q : R} {v : V} {a : Addr}, isD q = true → Ow H q v a → False := fun {q v a} h o => by cases q <;> first | exact o.elim | cases h
  refine ⟨S.exB, S.exF, S.dis, S.tup, by simp [l, l0], fun j q hj => ?_, fun j q v a h1 h2 h3 => ?_, fun i j r q v u a n h1 h2 h3 h4 h5 h6 => ?_, S.tbs⟩
  · obtain ⟨hl, hj | ⟨hj, hd⟩⟩ := at_ hj
    · obtain ⟨v, a, b⟩ := S.rel j q hj.2
      exact ⟨v, by rw [← val hl hj.1]; exact a, b⟩
    · obtain ⟨v, a, b⟩ := S0.rel j q (by rw [List.getElem?_map, hj]; rfl)
      refine ⟨v, a, ?_⟩
      cases q with
      | d x => exact Rep.mono e x b
      | _ => cases hd
  · obtain ⟨hl, hj | ⟨hj, hd⟩⟩ := at_ h1
    · exact S.own j q v a hj.2 (by rw [val hl hj.1]; exact h2) h3
    · exact (dd hd h3).elim
  · obtain ⟨hl, hi | ⟨hi, hd⟩⟩ := at_ h1
    · obtain ⟨hl', hj | ⟨hj, hd⟩⟩ := at_ h3
      · exact S.sep i j r q v u a n hi.2 (by rw [val hl hi.1]; exact h2) hj.2 (by rw [val hl' hj.1]; exact h4) h5 h6
      · exact (dd hd h6).elim
    · exact (dd hd h5).elim
theorem sim_outsT {rs qs : List R} {vs : List V} {s : Sl} {B0 H0 : Hp} {k : Nat} {r : R} {v : V} (S0 : Sim T (rs.map some) (vs.map some) B0 F H0) (e : Ex B0 B) (S : Sim T (some r :: s) (some v :: σ) B F H) (K : Kp kp (vs.map some ++ List.replicate k none) σ) (h : outs kp 0 rs s = some qs) :
    Sim T (some r :: qs.map some) (some v :: vs.map some) B F H := by
  have P := sim_outs (σ1 := []) S0 e S.pop K h fun _ => trivial
  obtain ⟨l, g⟩ := outs_get h
  have l0 : rs.length = vs.length := by have := S0.len; simpa using this
  have at_ : ∀ {j : Nat} {q : R}, (qs.map some)[j]? = some (some q) → j < vs.length ∧ ((kp j = true ∧ s[j]? = some (some q)) ∨ isD q = true) := fun {j q} hj => by
    rw [List.getElem?_map] at hj
    cases e : qs[j]? with
    | none => rw [e] at hj; cases hj
    | some q' =>
      rw [e] at hj; cases hj
      have hl := (List.getElem?_eq_some_iff.mp e).1
      have := g j q e
      rw [Nat.zero_add] at this
      exact ⟨by omega, this.elim .inl fun z => .inr z.2⟩
  have val : ∀ {j : Nat}, j < vs.length → kp j = true → σ[j]? = (vs.map some)[j]? := fun {j} hj hk => by
    rw [K j hk, List.getElem?_append_left (by simpa using hj)]
  have dd : ∀ {q : R} {v : V} {a : Addr}, isD q = true → Ow H q v a → False := fun {q v a} h o => by cases q <;> first | exact o.elim | cases h
  have cross : ∀ {j : Nat} {q : R} {u : V} {a : Addr}, (qs.map some)[j]? = some (some q) → (vs.map some)[j]? = some (some u) → Ow H r v a → Ow H q u a → False := fun {j q u a} h1 h2 h3 h4 => by
    obtain ⟨hl, hj | hd⟩ := at_ h1
    · exact S.sep 0 (j + 1) r q v u a (by omega) rfl rfl (by simpa using hj.2) (by rw [List.getElem?_cons_succ, val hl hj.1]; exact h2) h3 h4
    · exact dd hd h4
  refine ⟨P.exB, P.exF, P.dis, P.tup, by have := P.len; simpa using this, fun j q hj => ?_, fun j q u a h1 h2 h3 => ?_, fun i j p q u u' a n h1 h2 h3 h4 h5 h6 => ?_, P.tbs⟩
  · cases j with
    | zero => cases hj; exact ⟨v, rfl, S.top⟩
    | succ j => obtain ⟨u, a, b⟩ := P.rel j q (by simpa using hj); exact ⟨u, by simpa using a, b⟩
  · cases j with
    | zero => cases h1; cases h2; exact S.own 0 r v a rfl rfl h3
    | succ j => exact P.own j q u a (by simpa using h1) (by simpa using h2) h3
  · cases i with
    | zero =>
      cases h1; cases h2
      cases j with
      | zero => exact n rfl
      | succ j => exact cross (by simpa using h3) (by simpa using h4) h5 h6
    | succ i =>
      cases j with
      | zero => cases h3; cases h4; exact cross (by simpa using h1) (by simpa using h2) h6 h5
      | succ j => exact P.sep i j p q u u' a (by omega) (by simpa using h1) (by simpa using h2) (by simpa using h3) (by simpa using h4) h5 h6
theorem read_fn {E : XK} {n : Nat} {N : List Str} {t : TS} {f : MS} {vs : List V} {H : Hp} {Q : VK} (hp : sp T n (fnOf n N.length kp f) vs H Q E) (h : SemS T (fun _ => E) kp t f) : t { nx := fun _ H' => Q .non H', rt := Q } (L2.start N vs) H := by
  obtain ⟨hl, rs, B, F, o, rs', S, e, k⟩ := hp
  unfold fnOf at e
  split at e
  · rename_i hn
    have S1 := sim_pad S (N.length - n)
    have es : L2.start N vs = vs.map some ++ List.replicate (N.length - n) none := by unfold L2.start; rw [hl]
    rw [es]
    split at e
    · rename_i r s eb
      unfold fnEnd at e
      cases eo : outs kp 0 rs s with
      | none => rw [eo] at e; cases e
      | some qs =>
        rw [eo] at e; cases e
        exact h _ _ B F H S1 _ _ eb _ fun v σ' B' H' e1 k1 S' => k v B' H' e1 (sim_outsT S e1 S' k1 eo)
    · rename_i s eb
      unfold fnEnd at e
      cases eo : outs kp 0 rs s with
      | none => rw [eo] at e; cases e
      | some qs =>
        rw [eo] at e; cases e
        exact h _ _ B F H S1 _ _ eb _ fun σ' B' H' e1 k1 S' => k .non B' H' e1 (sim_outsT S e1 (S'.push rfl) k1 eo)
    · rename_i c s eb
      unfold fnEnd at e
      cases eo : outs kp 0 rs s with
      | none => rw [eo] at e; cases e
      | some qs =>
        rw [eo] at e; cases e
        exact h _ _ B F H S1 _ _ eb _ fun d σ' B' H' e1 k1 S' => k d B' H' e1 (sim_outs (σ1 := []) S e1 S' k1 eo fun _ => trivial)
    · cases e
  · cases e
inductive Arg where
  | v (x : D) | o (i : Nat)
def ArgIs (T : Tab) (B : Hp) (σ : St) : Arg → V → Prop
  | .v x, v => Rep T B x v
  | .o i, v => σ[i]? = some (some v)
def ArgsAre (T : Tab) (B : Hp) (σ : St) : List Arg → List V → Prop := Paired (ArgIs T B σ)
theorem ArgsAre.mono (e : Ex B B') : ∀ {as : List Arg} {vs : List V}, ArgsAre T B σ as vs → ArgsAre T B' σ as vs
  | _, _, .nil => .nil
  | a :: _, _, .cons h t => .cons (by cases a with | v x => exact Rep.mono e x h | o i => exact h) (ArgsAre.mono e t)
def SemAA (T : Tab) (E : L2.St → XK) (ta : TA) (f : M (List Arg)) : Prop := ∀ st σ B F H, Sim T st σ B F H → ∀ o s, f st = some (o, s) → ∀ Q : List V → Hp → Prop, Okx T (E σ) o s σ B F (fun as B' H' => ∀ vs, ArgsAre T B' σ as vs → Q vs H') → ta σ H Q
def aNil : M (List Arg) := ret []
def aV (fa : M D) (fr : M (List Arg)) : M (List Arg) := bnd fa fun x => bnd fr fun xs => ret (.v x :: xs)
def aO (i : Nat) (fr : M (List Arg)) : M (List Arg) := fun st => match st[i]? with
  | some (some _) => bnd fr (fun xs => ret (.o i :: xs)) st
  | _ => none
theorem semAA_nil : SemAA T E tNil aNil := by
  intro st σ B F H S o s h Q hQ
  cases h
  exact hQ B H (Ex.refl B) S [] .nil
theorem semAA_v {te : TE} {ta : TA} {fa : M D} {fr : M (List Arg)} (ha : SemE T E te fa) (hr : SemAA T E ta fr) : SemAA T E (tCons te ta) (aV fa fr) := by
  intro st σ B F H S o s h Q hQ
  refine okx_bnd h hQ (fun o1 s1 e1 q => ha st σ B F H S o1 s1 e1 _ q) fun a s1 B1 H1 _ h2 e1 S1 hQ1 v hv => ?_
  refine okx_bnd h2 hQ1 (fun o1 s2 e2 q => hr s1 σ B1 F H1 S1 o1 s2 e2 _ q) fun b s2 B2 H2 _ h3 e2 S2 hQ2 us hus => ?_
  cases h3
  exact hQ2 B2 H2 (Ex.refl _) S2 (v :: us) (.cons (Rep.mono e2 a hv) hus)
def getA : List Arg → Sl → Option (List R)
  | [], _ => some []
  | .v x :: as, st => (getA as st).map (.d x :: ·)
  | .o i :: as, st => match st[i]?, getA as st with
    | some (some r), some rs => some (r :: rs)
    | _, _ => none
def putA : List Arg → List R → Sl → Sl
  | .o i :: as, r :: rs, st => putA as rs (st.set i (some r))
  | .v _ :: as, _ :: rs, st => putA as rs st
  | _, _, st => st
def owns : List Arg → List Nat
  | [] => []
  | .o i :: as => i :: owns as
  | .v _ :: as => owns as
theorem getA_get : ∀ {as : List Arg} {st : Sl} {rs : List R}, getA as st = some rs → rs.length = as.length ∧ ∀ (k : Nat) a, as[k]? = some a → match a with
    | .v x => rs[k]? = some (.d x)
    | .o i => ∃ r, rs[k]? = some r ∧ st[i]? = some (some r)
  | [], st, rs, h => by cases h; exact ⟨rfl, fun k a h => by simp at h⟩
  | .v x :: as, st, rs, h => by
    unfold getA at h
    cases e : getA as st with
    | none => rw [e] at h; cases h
    | some r =>
      rw [e] at h; cases h
      obtain ⟨l, g⟩ := getA_get e
      refine ⟨by simp [l], fun k a hk => ?_⟩
      cases k with
      | zero => simp at hk; subst hk; rfl
      | succ k => have := g k a (by simpa using hk); simpa using this
  | .o i :: as, st, rs, h => by
    unfold getA at h
    split at h
    · rename_i r rs' e1 e2
      cases h
      obtain ⟨l, g⟩ := getA_get e2
      refine ⟨by simp [l], fun k a hk => ?_⟩
      cases k with
      | zero => simp at hk; subst hk; exact ⟨r, rfl, e1⟩
      | succ k => have := g k a (by simpa using hk); simpa using this
    · cases h
theorem mem_owns : ∀ {as : List Arg} {i : Nat}, i ∈ owns as → ∃ k : Nat, as[k]? = some (Arg.o i)
  | [], i, h => by simp [owns] at h
  | .o j :: as, i, h => by
    rcases List.mem_cons.mp h with rfl | h
    · exact ⟨0, rfl⟩
    · obtain ⟨k, e⟩ := mem_owns h; exact ⟨k + 1, e⟩
  | .v x :: as, i, h => by obtain ⟨k, e⟩ := mem_owns (as := as) h; exact ⟨k + 1, e⟩
theorem owns_mem : ∀ {as : List Arg} {i k : Nat}, as[k]? = some (Arg.o i) → i ∈ owns as
  | [], i, k, h => by simp at h
  | .o j :: as, i, 0, h => by simp at h; subst h; exact List.mem_cons_self
  | .o j :: as, i, k + 1, h => List.mem_cons_of_mem _ (owns_mem (as := as) (k := k) (by simpa using h))
  | .v x :: as, i, 0, h => by simp at h
  | .v x :: as, i, k + 1, h => owns_mem (as := as) (k := k) (by simpa using h)
theorem putA_other : ∀ {as : List Arg} {rs : List R} {st : Sl} {i : Nat}, i ∉ owns as → (putA as rs st)[i]? = st[i]?
  | [], rs, st, i, h => by cases rs <;> rfl
  | .o j :: as, [], st, i, h => rfl
  | .v x :: as, [], st, i, h => rfl
  | .o j :: as, r :: rs, st, i, h => by
    simp only [owns, List.mem_cons, not_or] at h
    show (putA as rs (st.set j (some r)))[i]? = _
    rw [putA_other h.2, List.getElem?_set_ne (fun e => h.1 e.symm)]
  | .v x :: as, r :: rs, st, i, h => putA_other (as := as) h
theorem putA_length : ∀ {as : List Arg} {rs : List R} {st : Sl}, (putA as rs st).length = st.length
  | [], rs, st => by cases rs <;> rfl
  | .o j :: as, [], st => rfl
  | .v x :: as, [], st => rfl
  | .o j :: as, r :: rs, st => by show (putA as rs (st.set j (some r))).length = _; rw [putA_length, List.length_set]
  | .v x :: as, r :: rs, st => putA_length (as := as)
theorem putA_own : ∀ {as : List Arg} {rs : List R} {st : Sl} {i k : Nat} {q : R}, (owns as).Nodup → as[k]? = some (Arg.o i) → i < st.length → rs[k]? = some q → (putA as rs st)[i]? = some (some q)
  | [], rs, st, i, k, q, _, h, _, _ => by simp at h
  | _ :: as, [], st, i, k, q, _, _, _, h => by simp at h
  | .o j :: as, r :: rs, st, i, 0, q, n, h, l, g => by
    simp at h g; subst h; subst g
    show (putA as rs (st.set j (some r)))[j]? = _
    rw [putA_other (List.nodup_cons.mp n).1, List.getElem?_set_self l]
  | .o j :: as, r :: rs, st, i, k + 1, q, n, h, l, g => by
    show (putA as rs (st.set j (some r)))[i]? = _
    exact putA_own (k := k) (List.nodup_cons.mp n).2 (by simpa using h) (by simpa using l) (by simpa using g)
  | .v x :: as, r :: rs, st, i, 0, q, n, h, l, g => by simp at h
  | .v x :: as, r :: rs, st, i, k + 1, q, n, h, l, g => putA_own (as := as) (k := k) n (by simpa using h) l (by simpa using g)
def callF (f : Fn) (as : List Arg) : M R := fun st => match getA as st with
  | some rs => if (owns as).Nodup then (match f rs with
    | some (o, rs') => if rs'.length = rs.length then some (o, putA as rs' st) else none
    | none => none) else none
  | none => none
def rCall (n : Nat) (f : Fn) (ds : List D) (fa : M (List Arg)) : M R := bnd fa fun as => if as.length + ds.length = n then callF f (as ++ ds.map Arg.v) else fun _ => none
open Classical in
noncomputable def rest (st : Sl) (σ : St) (as : List Arg) (F H : Hp) : Hp := fun a => if (∃ (j : Nat) (r : R) (v : V), st[j]? = some (some r) ∧ σ[j]? = some (some v) ∧ Ow H r v a ∧ j ∉ owns as) then H a else F a
theorem paired_get {α β : Type} {R : α → β → Prop} : ∀ {xs : List α} {ys : List β} {k : Nat}, Paired R xs ys → ∀ {a : α}, xs[k]? = some a → ∃ b, ys[k]? = some b ∧ R a b
  | _, _, _, .nil, _, h => by simp at h
  | _, _, 0, .cons r t, _, h => by simp at h; subst h; exact ⟨_, rfl, r⟩
  | _, _, k + 1, .cons r t, _, h => by obtain ⟨b, e, q⟩ := paired_get (k := k) t (by simpa using h); exact ⟨b, by simpa using e, q⟩
section
variable {as : List Arg} {vs : List V} {rs : List R}
theorem rest_hit (S : Sim T st σ B F H) {j : Nat} {r : R} {v : V} {a : Addr} (h1 : st[j]? = some (some r)) (h2 : σ[j]? = some (some v)) (h3 : Ow H r v a) (h4 : j ∉ owns as) : rest st σ as F H a = H a := by
  unfold rest; rw [if_pos ⟨j, r, v, h1, h2, h3, h4⟩]
theorem noF_rest (S : Sim T st σ B F H) {a : Addr} {o : HO} (h : rest st σ as F H a = some o) : ¬ isTb o := by
  unfold rest at h
  split at h
  · rename_i z
    obtain ⟨j, r, v, h1, h2, h3, _⟩ := z
    exact S.ntb h1 h2 h3 o h
  · exact S.tbs.noF a o h
theorem rest_old (S : Sim T st σ B F H) {a : Addr} {o : HO} (h : F a = some o) : rest st σ as F H a = some o := by
  unfold rest
  rw [if_neg]
  · exact h
  · rintro ⟨j, r, v, h1, h2, h3, _⟩
    have := (S.own j r v a h1 h2 h3).2
    rw [h] at this; cases this
theorem sim_args (S : Sim T st σ B F H) (hv : ArgsAre T B σ as vs) (hg : getA as st = some rs) (nd : (owns as).Nodup) : Sim T (rs.map some) (vs.map some) B (rest st σ as F H) H := by
  obtain ⟨lr, gr⟩ := getA_get hg
  have lv := Paired.length hv
  have at_ : ∀ {k : Nat} {r : R}, (rs.map some)[k]? = some (some r) → ∃ a v, as[k]? = some a ∧ vs[k]? = some v ∧ ArgIs T B σ a v ∧ ((∃ x, a = .v x ∧ r = .d x) ∨ ∃ i, a = .o i ∧ st[i]? = some (some r)) := fun {k r} h => by
    rw [List.getElem?_map] at h
    cases e : rs[k]? with
    | none => rw [e] at h; cases h
    | some r' =>
      rw [e] at h; cases h
      have hk : k < as.length := by have := (List.getElem?_eq_some_iff.mp e).1; omega
      have ea : as[k]? = some as[k] := List.getElem?_eq_getElem hk
      generalize as[k] = a at ea
      obtain ⟨v, ev, iv⟩ := paired_get hv ea
      refine ⟨a, v, ea, ev, iv, ?_⟩
      have g := gr k a ea
      cases a with
      | v x => have g : rs[k]? = some (.d x) := g; rw [e] at g; cases g; exact .inl ⟨x, rfl, rfl⟩
      | o i => obtain ⟨r2, g1, g2⟩ := g; rw [e] at g1; cases g1; exact .inr ⟨i, rfl, g2⟩
  refine ⟨S.exB, fun a o h => ?_, fun a o h => ?_, S.tup, by simp [lr, lv], fun k r h => ?_, fun k r v a h1 h2 h3 => ?_, fun k l r q v u a n h1 h2 h3 h4 h5 h6 => ?_, ⟨fun a o h => noF_rest S h, S.tbs.tab⟩⟩
  · unfold rest at h
    split at h
    · exact h
    · exact S.exF a o h
  · unfold rest at h
    split at h
    · rename_i z
      obtain ⟨j, r, v, h1, h2, h3, _⟩ := z
      exact (S.own j r v a h1 h2 h3).1
    · exact S.dis a o h
  · obtain ⟨a, v, ea, ev, iv, hc⟩ := at_ h
    refine ⟨v, by rw [List.getElem?_map, ev]; rfl, ?_⟩
    rcases hc with ⟨x, rfl, rfl⟩ | ⟨i, rfl, hi⟩
    · exact iv
    · obtain ⟨v', h1, h2⟩ := S.rel i r hi
      have iv' : σ[i]? = some (some v) := iv
      rw [h1] at iv'; cases iv'
      exact h2
  · obtain ⟨a', v', ea, ev, iv, hc⟩ := at_ h1
    rw [List.getElem?_map, ev] at h2; cases h2
    rcases hc with ⟨x, rfl, rfl⟩ | ⟨i, rfl, hi⟩
    · exact h3.elim
    · have iv : σ[i]? = some (some v) := iv
      obtain ⟨z1, z2⟩ := S.own i r v a hi iv h3
      refine ⟨z1, ?_⟩
      unfold rest
      rw [if_neg]
      · exact z2
      · rintro ⟨j, q, u, g1, g2, g3, g4⟩
        have hne : i ≠ j := by rintro rfl; exact g4 (owns_mem ea)
        exact S.sep i j r q v u a hne hi iv g1 g2 h3 g3
  · obtain ⟨a1, v1, ea, ev, iv, hc⟩ := at_ h1
    obtain ⟨a2, v2, eb, ew, iw, hd⟩ := at_ h3
    rw [List.getElem?_map, ev] at h2; cases h2
    rw [List.getElem?_map, ew] at h4; cases h4
    rcases hc with ⟨x, rfl, rfl⟩ | ⟨i, rfl, hi⟩
    · exact h5.elim
    · rcases hd with ⟨x, rfl, rfl⟩ | ⟨j, rfl, hj⟩
      · exact h6.elim
      · have hne : i ≠ j := by
          rintro rfl
          have aux : ∀ {as : List Arg} {k l : Nat}, (owns as).Nodup → as[k]? = some (Arg.o i) → as[l]? = some (Arg.o i) → k = l := by
            intro as
            induction as with
            | nil => intro k l _ h; simp at h
            | cons b as ih =>
              intro k l nd h1 h2
              cases b with
              | v x =>
                cases k with
                | zero => simp at h1
                | succ k => cases l with
                  | zero => simp at h2
                  | succ l => exact congrArg Nat.succ (ih nd (by simpa using h1) (by simpa using h2))
              | o m =>
                have nd' := List.nodup_cons.mp (show (m :: owns as).Nodup from nd)
                cases k with
                | zero =>
                  simp at h1; subst h1
                  cases l with
                  | zero => rfl
                  | succ l => exact (nd'.1 (owns_mem (k := l) (by simpa using h2))).elim
                | succ k =>
                  cases l with
                  | zero => simp at h2; subst h2; exact (nd'.1 (owns_mem (k := k) (by simpa using h1))).elim
                  | succ l => exact congrArg Nat.succ (ih nd'.2 (by simpa using h1) (by simpa using h2))
          exact n (aux nd ea eb)
        exact S.sep i j r q v u a hne hi iv hj iw h5 h6
theorem sim_ret (S : Sim T st σ B F H) (hv : ArgsAre T B σ as vs) (hg : getA as st = some rs) (nd : (owns as).Nodup) {rs' : List R} (hl : rs'.length = rs.length) (e : Ex B B') (S' : Sim T (rs'.map some) (vs.map some) B' (rest st σ as F H) H') :
    Sim T (putA as rs' st) σ B' F H' ∧ (∀ a, rest st σ as F H a = none → F a = none) ∧
      ∀ {i : Nat} {r : R} {v : V} {a : Addr}, (putA as rs' st)[i]? = some (some r) → σ[i]? = some (some v) → Ow H' r v a → (∃ k : Nat, (rs'.map some)[k]? = some (some r) ∧ (vs.map some)[k]? = some (some v) ∧ as[k]? = some (Arg.o i)) ∨ (∃ o, rest st σ as F H a = some o) := by
  obtain ⟨lr, gr⟩ := getA_get hg
  have lv := Paired.length hv
  have at_ : ∀ {i : Nat} {r : R}, (putA as rs' st)[i]? = some (some r) → (∃ (k : Nat) (v : V), as[k]? = some (Arg.o i) ∧ rs'[k]? = some r ∧ vs[k]? = some v ∧ σ[i]? = some (some v)) ∨ (i ∉ owns as ∧ st[i]? = some (some r)) := fun {i r} h => by
    by_cases hm : i ∈ owns as
    · obtain ⟨k, ek⟩ := mem_owns hm
      obtain ⟨v, ev, iv⟩ := paired_get hv ek
      have hk : k < rs'.length := by have := (List.getElem?_eq_some_iff.mp ek).1; omega
      have er : rs'[k]? = some rs'[k] := List.getElem?_eq_getElem hk
      have hi : i < st.length := by have := (List.getElem?_eq_some_iff.mp h).1; rw [putA_length] at this; exact this
      rw [putA_own nd ek hi er] at h
      cases h
      exact .inl ⟨k, v, ek, er, ev, iv⟩
    · rw [putA_other hm] at h
      exact .inr ⟨hm, h⟩
  have rn : ∀ a, rest st σ as F H a = none → F a = none := fun a h => by
    cases q : F a with
    | none => rfl
    | some o => rw [rest_old S q] at h; cases h
  have hit : ∀ {i : Nat} {r : R} {v : V} {a : Addr}, i ∉ owns as → st[i]? = some (some r) → σ[i]? = some (some v) → Ow H r v a → ∃ o, rest st σ as F H a = some o := fun {i r v a} h1 h2 h3 h4 => by
    rw [rest_hit S h2 h3 h4 h1]
    obtain ⟨v', h5, h6⟩ := S.rel i r h2
    rw [h3] at h5; cases h5
    exact (h6.ow h4).1
  have tk : Tk H H' := fun a xs h => S'.exB a _ (e a _ (S.tup a xs h))
  have bk : ∀ {i : Nat} {r : R} {v : V} {a : Addr}, i ∉ owns as → st[i]? = some (some r) → σ[i]? = some (some v) → Ow H' r v a → Ow H r v a := fun {i r v a} h1 h2 h3 h4 => by
    obtain ⟨v', h5, h6⟩ := S.rel i r h2
    rw [h3] at h5; cases h5
    exact Ow.back tk h6 (fun p o g1 g2 => S'.exF p o (by rw [rest_hit S h2 h3 g1 h1]; exact g2)) h4
  refine ⟨⟨S'.exB, fun a o h => S'.exF a o (rest_old S h), fun a o h => S'.dis a o (rest_old S h), S'.tup, by rw [putA_length]; exact S.len, fun i r h => ?_, fun i r v a h1 h2 h3 => ?_, fun i j r q v u a n h1 h2 h3 h4 h5 h6 => ?_, ⟨S.tbs.noF, S'.tbs.tab⟩⟩, rn, fun {i r v a} h1 h2 h3 => ?_⟩
  · rcases at_ h with ⟨k, v, ek, er, ev, es⟩ | ⟨hm, hs⟩
    · obtain ⟨v', h1, h2⟩ := S'.rel k r (by rw [List.getElem?_map, er]; rfl)
      rw [List.getElem?_map, ev] at h1; cases h1
      exact ⟨v, es, h2⟩
    · obtain ⟨v, h1, h2⟩ := S.rel i r hs
      refine ⟨v, h1, h2.keep e tk fun a o ho hh => ?_⟩
      exact S'.exF a o (by rw [rest_hit S hs h1 ho hm]; exact hh)
  · rcases at_ h1 with ⟨k, v', ek, er, ev, es⟩ | ⟨hm, hs⟩
    · rw [h2] at es; cases es
      obtain ⟨z1, z2⟩ := S'.own k r v a (by rw [List.getElem?_map, er]; rfl) (by rw [List.getElem?_map, ev]; rfl) h3
      exact ⟨z1, rn a z2⟩
    · have h3 := bk hm hs h2 h3
      obtain ⟨o, ho⟩ := hit hm hs h2 h3
      exact ⟨S'.dis a o ho, (S.own i r v a hs h2 h3).2⟩
  · rcases at_ h1 with ⟨k, v', ek, er, ev, es⟩ | ⟨hm, hs⟩
    · rw [h2] at es; cases es
      rcases at_ h3 with ⟨l, u', el, eq, eu, et⟩ | ⟨hm', hs'⟩
      · rw [h4] at et; cases et
        have hkl : k ≠ l := by rintro rfl; rw [ek] at el; cases el; exact n rfl
        exact S'.sep k l r q v u a hkl (by rw [List.getElem?_map, er]; rfl) (by rw [List.getElem?_map, ev]; rfl) (by rw [List.getElem?_map, eq]; rfl) (by rw [List.getElem?_map, eu]; rfl) h5 h6
      · obtain ⟨o, ho⟩ := hit hm' hs' h4 (bk hm' hs' h4 h6)
        have := (S'.own k r v a (by rw [List.getElem?_map, er]; rfl) (by rw [List.getElem?_map, ev]; rfl) h5).2
        rw [ho] at this; cases this
    · rcases at_ h3 with ⟨l, u', el, eq, eu, et⟩ | ⟨hm', hs'⟩
      · rw [h4] at et; cases et
        obtain ⟨o, ho⟩ := hit hm hs h2 (bk hm hs h2 h5)
        have := (S'.own l q u a (by rw [List.getElem?_map, eq]; rfl) (by rw [List.getElem?_map, eu]; rfl) h6).2
        rw [ho] at this; cases this
      · exact S.sep i j r q v u a n hs h2 hs' h4 (bk hm hs h2 h5) (bk hm' hs' h4 h6)
  · rcases at_ h1 with ⟨k, v', ek, er, ev, es⟩ | ⟨hm, hs⟩
    · rw [h2] at es; cases es
      exact .inl ⟨k, by rw [List.getElem?_map, er]; rfl, by rw [List.getElem?_map, ev]; rfl, ek⟩
    · exact .inr (hit hm hs h2 (bk hm hs h2 h3))
theorem okx_call {E : XK} (S : Sim T st σ B F H) (hv : ArgsAre T B σ as vs) {f : Fn} {o : Oc R} {s : Sl} (h : callF f as st = some (o, s)) {Q : VK} (hQ : Okr T E o s σ B F (fun v _ H' => Q v H')) : sp T vs.length f vs H Q E := by
  unfold callF at h
  split at h
  · rename_i rs hg
    split at h
    · rename_i nd
      split at h
      · rename_i o' rs' hf
        split at h
        · rename_i hl
          cases h
          refine ⟨rfl, rs, B, _, _, rs', sim_args S hv hg nd, hf, ?_⟩
          cases o with
          | v r =>
            intro v B' H' e S'
            obtain ⟨P, rn, who⟩ := sim_ret S hv hg nd hl e S'.pop
            refine hQ v B' H' e ⟨P.exB, P.exF, P.dis, P.tup, by have := P.len; simpa using this, fun i q hi => ?_, fun i q u a h1 h2 h3 => ?_, fun i j q p u w a n h1 h2 h3 h4 h5 h6 => ?_, P.tbs⟩
            · cases i with
              | zero => cases hi; exact ⟨v, rfl, S'.top⟩
              | succ i => obtain ⟨u, a, b⟩ := P.rel i q (by simpa using hi); exact ⟨u, by simpa using a, b⟩
            · cases i with
              | zero => cases h1; cases h2; obtain ⟨z1, z2⟩ := S'.own 0 r v a rfl rfl h3; exact ⟨z1, rn a z2⟩
              | succ i => exact P.own i q u a (by simpa using h1) (by simpa using h2) h3
            · have cross : ∀ {j : Nat} {q : R} {u : V}, (putA as rs' st)[j]? = some (some q) → σ[j]? = some (some u) → Ow H' r v a → Ow H' q u a → False := fun {j q u} g1 g2 g3 g4 => by
                rcases who g1 g2 g4 with ⟨k, y1, y2, _⟩ | ⟨o, ho⟩
                · exact S'.sep 0 (k + 1) r q v u a (by omega) rfl rfl (by simpa using y1) (by simpa using y2) g3 g4
                · have := (S'.own 0 r v a rfl rfl g3).2
                  rw [ho] at this; cases this
              cases i with
              | zero =>
                cases h1; cases h2
                cases j with
                | zero => exact n rfl
                | succ j => exact cross (by simpa using h3) (by simpa using h4) h5 h6
              | succ i =>
                cases j with
                | zero => cases h3; cases h4; exact cross (by simpa using h1) (by simpa using h2) h6 h5
                | succ j => exact P.sep i j q p u w a (by omega) (by simpa using h1) (by simpa using h2) (by simpa using h3) (by simpa using h4) h5 h6
          | x c =>
            intro d B' H' e S'
            exact hQ d B' H' e (sim_ret S hv hg nd hl e S').1
        · cases h
      · cases h
    · cases h
  · cases h
end
theorem args_app {as bs : List Arg} {vs ws : List V} (h : ArgsAre T B σ as vs) (g : ArgsAre T B σ bs ws) : ArgsAre T B σ (as ++ bs) (vs ++ ws) := by
  induction h with
  | nil => exact g
  | cons r _ ih => exact .cons r ih
theorem args_ds : ∀ {ds : List D} {ws : List V}, Reps T B ds ws → ArgsAre T B σ (ds.map Arg.v) ws
  | [], ws, h => by unfold Reps at h; subst h; exact .nil
  | d :: ds, ws, h => by
    unfold Reps at h
    obtain ⟨v, r, rfl, h1, h2⟩ := h
    exact .cons h1 (args_ds h2)
theorem semR_call {n : Nat} {f : Fn} {fa : M (List Arg)} {ta : TA} {ds : List D} {dvs : List V} (hd : ∀ B, Reps T B ds dvs) (ha : SemAA T E ta fa) : SemR T E (tCallSD (sp T n f) dvs E ta) (rCall n f ds fa) := by
  intro st σ B F H S o s h Q hQ
  rcases bnd_some h with ⟨c, e1, rfl⟩ | ⟨as, s1, e1, e2⟩
  · exact ha st σ B F H S _ _ e1 _ hQ
  · refine ha st σ B F H S _ _ e1 _ fun B1 H1 x1 S1 vs hvs => ?_
    have hQ1 : Okr T (E σ) o s σ B1 F (fun v _ H' => Q v H') := by
      cases o with
      | v r => exact fun v B2 H2 x2 S2 => hQ v B2 H2 (x1.trans x2) S2
      | x c => exact fun d B2 H2 x2 S2 => hQ d B2 H2 (x1.trans x2) S2
    split at e2
    · rename_i hn
      have hA := args_app hvs (args_ds (σ := σ) (hd B1))
      have h2 := okx_call S1 hA e2 hQ1
      have l := Paired.length hA
      rw [List.length_append, List.length_map, hn] at l
      rw [← l] at h2
      exact h2
    · cases e2
end
end Fz
set_option Elab.async false
set_option linter.all false
set_option maxRecDepth 100000
set_option maxHeartbeats 2000000
namespace Fz
open PySem L2
mutual
def py : D → PyData
  | .non => .none
  | .bl b => .bool b
  | .int i => .int i
  | .str s => .str s
  | .tup ds => .tuple (pys ds)
  | .lst ds => .list (pys ds)
  | .obj _ _ => .none
  | .dct _ _ => .none
  | .ext _ _ => .none
def pys : List D → List PyData
  | [] => []
  | d :: ds => py d :: pys ds
end
mutual
def plain : D → Bool
  | .tup ds => plains ds
  | .lst ds => plains ds
  | .obj _ _ => false
  | .dct _ _ => false
  | .ext _ _ => false
  | _ => true
def plains : List D → Bool
  | [] => true
  | d :: ds => plain d && plains ds
end
theorem pys_map : ∀ ds : List D, pys ds = ds.map py
  | [] => rfl
  | d :: ds => by unfold pys; rw [pys_map ds]; rfl
section
variable {T : Tab} {B H : Hp}
mutual
theorem dp_of (e : Ex B H) : ∀ (d : D) {v : V}, plain d = true → Rep T B d v → Dp T.K H v (py d)
  | .non, v, _, h => by cases (show v = .non from h); exact .non
  | .bl b, v, _, h => by cases (show v = .bl b from h); exact .bl b
  | .int i, v, _, h => by cases (show v = .int i from h); exact .int i
  | .str s, v, _, h => by obtain ⟨rfl, _⟩ := (show v = .str s ∧ _ from h); exact .str s
  | .tup ds, v, p, h => by
    unfold Rep at h
    unfold plain at p
    obtain ⟨a, xs, rfl, h2, h3⟩ := h
    exact .tup (e.tu h2).sq (dps_of e ds p h3)
  | .lst ds, v, p, h => by
    unfold Rep at h
    unfold plain at p
    obtain ⟨a, xs, rfl, h2, h3⟩ := h
    exact .lst (e.sqL h2) (dps_of e ds p h3)
  | .obj _ _, v, p, h => by simp [plain] at p
  | .dct _ _, v, p, h => by simp [plain] at p
  | .ext _ _, v, p, h => by simp [plain] at p
theorem dps_of (e : Ex B H) : ∀ (ds : List D) {vs : List V}, plains ds = true → Reps T B ds vs → DpAll T.K H vs (pys ds)
  | [], vs, _, h => by unfold Reps at h; subst h; exact .nil
  | d :: ds, vs, p, h => by
    unfold Reps at h
    unfold plains at p
    obtain ⟨v, r, rfl, h2, h3⟩ := h
    have p' := (Bool.and_eq_true _ _).mp p
    exact .cons (dp_of e d p'.1 h2) (dps_of e ds p'.2 h3)
end
mutual
theorem lay_of : ∀ (d : D) {v : V}, plain d = true → Rep T B d v → (py d).canLay0 = true
  | .non, v, _, h => rfl
  | .bl b, v, _, h => rfl
  | .int i, v, _, h => rfl
  | .str s, v, _, h => by obtain ⟨_, h⟩ := (show v = .str s ∧ _ from h); simpa [py, PyData.canLay0] using h
  | .tup ds, v, p, h => by
    unfold Rep at h
    unfold plain at p
    obtain ⟨a, xs, rfl, h2, h3⟩ := h
    simp only [py, PyData.canLay0]
    exact lays_of ds p h3
  | .lst ds, v, p, h => by
    unfold Rep at h
    unfold plain at p
    obtain ⟨a, xs, rfl, h2, h3⟩ := h
    simp only [py, PyData.canLay0]
    exact lays_of ds p h3
  | .obj _ _, v, p, h => by simp [plain] at p
  | .dct _ _, v, p, h => by simp [plain] at p
  | .ext _ _, v, p, h => by simp [plain] at p
theorem lays_of : ∀ (ds : List D) {vs : List V}, plains ds = true → Reps T B ds vs → PyData.canLayAll0 (pys ds) = true
  | [], vs, _, h => rfl
  | d :: ds, vs, p, h => by
    unfold Reps at h
    unfold plains at p
    obtain ⟨v, r, rfl, h2, h3⟩ := h
    have p' := (Bool.and_eq_true _ _).mp p
    simp only [pys, PyData.canLayAll0, Bool.and_eq_true]
    exact ⟨lay_of d p'.1 h2, lays_of ds p'.2 h3⟩
end
end
mutual
def dep : D → Nat
  | .tup ds => deps ds + 1
  | .lst ds => deps ds + 1
  | _ => 0
def deps : List D → Nat
  | [] => 0
  | d :: ds => max (dep d) (deps ds)
end
mutual
theorem dep_eq : ∀ d : D, (py d).depth = dep d
  | .non => by simp [py, dep, PyData.depth]
  | .bl _ => by simp [py, dep, PyData.depth]
  | .int _ => by simp [py, dep, PyData.depth]
  | .str _ => by simp [py, dep, PyData.depth]
  | .tup ds => by simp only [py, dep, PyData.depth]; rw [deps_eq ds]
  | .lst ds => by simp only [py, dep, PyData.depth]; rw [deps_eq ds]
  | .obj _ _ => by simp [py, dep, PyData.depth]
  | .dct _ _ => by simp [py, dep, PyData.depth]
  | .ext _ _ => by simp [py, dep, PyData.depth]
theorem deps_eq : ∀ ds : List D, PyData.depthAll (pys ds) = deps ds
  | [] => by simp [pys, deps, PyData.depthAll]
  | d :: ds => by simp only [pys, deps, PyData.depthAll]; rw [dep_eq d, deps_eq ds]
end
def cok (d : D) : Bool := plain d && decide (dep d ≤ 64)
theorem cok_shaped {T : Tab} {B : Hp} {d : D} {v : V} (h : cok d = true) (r : Rep T B d v) : SeqAt.shaped (py d) = true := by
  have h' := (Bool.and_eq_true _ _).mp h
  show ((py d).canLay0 && decide ((py d).depth ≤ 64)) = true
  rw [Bool.and_eq_true]
  exact ⟨lay_of d h'.1 r, by rw [dep_eq]; exact h'.2⟩
theorem cok_plain {d : D} (h : cok d = true) : plain d = true := ((Bool.and_eq_true _ _).mp h).1
def same (x y : D) : Bool := PyData.eqv (py x) (py y)
def CMulB (i j : Int) : Prop := i.natAbs < 18446744073709551616 ∨ j.natAbs < 18446744073709551616
theorem cmul_b {i j : Int} (h : CMulB i j) : (-(2 ^ 64) < i ∧ i < 2 ^ 64) ∨ (-(2 ^ 64) < j ∧ j < 2 ^ 64) := by
  rcases h with h | h
  · left; constructor <;> omega
  · right; constructor <;> omega
instance (i j : Int) : Decidable (CMulB i j) := by unfold CMulB; infer_instance
def dAdd : D → D → Option D
  | .int i, .int j => some (.int (i + j))
  | .str a, .str b => if a.length + b.length ≤ sizeLine then some (.str (a ++ b)) else none
  | .tup xs, .tup ys => if xs.length + ys.length ≤ sizeLine then some (.tup (xs ++ ys)) else none
  | _, _ => none
def dSub : D → D → Option D
  | .int i, .int j => some (.int (i - j))
  | _, _ => none
def dMul : D → D → Option D
  | .int i, .int j => if CMulB i j then some (.int (i * j)) else none
  | _, _ => none
def dMod : D → D → Option D
  | .int i, .int j => if 0 < j then some (.int (i % j)) else none
  | _, _ => none
def dDiv : D → D → Option D
  | .int i, .int j => if 0 < j ∧ j < 1073741824 then some (.int (i / j)) else none
  | _, _ => none
def dEq (x y : D) : Option D := if cok x && cok y then some (.bl (same x y)) else none
def dNe (x y : D) : Option D := if cok x && cok y then some (.bl (!same x y)) else none
def dLt : D → D → Option D
  | .int i, .int j => some (.bl (decide (i < j)))
  | .str a, .str b => some (.bl (decide (a.cps.toList < b.cps.toList)))
  | _, _ => none
def dGt : D → D → Option D
  | .int i, .int j => some (.bl (decide (j < i)))
  | .str a, .str b => some (.bl (decide (b.cps.toList < a.cps.toList)))
  | _, _ => none
def dLe : D → D → Option D
  | .int i, .int j => some (.bl (decide (i ≤ j)))
  | .str a, .str b => some (.bl (!decide (b.cps.toList < a.cps.toList)))
  | _, _ => none
def dGe : D → D → Option D
  | .int i, .int j => some (.bl (decide (j ≤ i)))
  | .str a, .str b => some (.bl (!decide (a.cps.toList < b.cps.toList)))
  | _, _ => none
def flat : D → Bool
  | .non => true | .bl _ => true | .int _ => true | .str _ => true
  | _ => false
def dInB : D → D → Option Bool
  | .str a, .str b => match a.cps.toList with
    | [c] => some (decide (c ∈ b.cps.toList))
    | _ => none
  | x, .lst ys => if cok x && cok (.lst ys) then some (ys.any fun z => same z x) else none
  | x, .tup ys => if flat x && ys.all flat then some (ys.any fun z => same z x) else none
  | _, _ => none
def dIn (x y : D) : Option D := (dInB x y).map .bl
def dNotIn (x y : D) : Option D := (dInB x y).map fun b => .bl !b
theorem strOk_app {a b : Str} (h : PyData.strOk a = true) (g : PyData.strOk b = true) : PyData.strOk (a ++ b) = true := by
  unfold PyData.strOk at *
  have e : (a ++ b).cps = a.cps ++ b.cps := rfl
  rw [e, Array.all_append, h, g]; rfl
theorem strOk_mem {a : Str} : PyData.strOk a = true ↔ ∀ c ∈ a.cps.toList, c < 0x110000 := by
  unfold PyData.strOk
  rw [← Array.all_toList, List.all_eq_true]
  simp
section
variable {T : Tab} {X : Cx}
def sc : D → Option V
  | .non => some .non
  | .bl b => some (.bl b)
  | .int i => some (.int i)
  | _ => none
theorem rep_int {B : Hp} {i : Int} {v : V} (h : Rep T B (.int i) v) : v = .int i := h
theorem rep_bl {B : Hp} {i : Bool} {v : V} (h : Rep T B (.bl i) v) : v = .bl i := h
theorem rep_non {B : Hp} {v : V} (h : Rep T B .non v) : v = .non := h
theorem rep_str {B : Hp} {i : Str} {v : V} (h : Rep T B (.str i) v) : v = .str i ∧ PyData.strOk i = true := h
def rAddA (K : PySem.W.Frag) : R2 := fun x y H Q => (∃ i j, x = .int i ∧ y = .int j ∧ Q (.int (i + j)) H) ∨ ((∃ i j, x = .str i ∧ y = .str j ∧ i.length + j.length ≤ sizeLine ∧ Q (.str (i ++ j)) H) ∨ rCatA K x y H Q)
theorem op_addA : OpR X (binaryOp .Add) (rAddA X.K) := op_add.or (op_add_str.or op_catA)
theorem p_add : Prim2 T (rAddA T.K) dAdd := by
  intro x y z vx vy B H Q e hx hy hz k
  unfold dAdd at hz
  split at hz
  · cases hz; cases rep_int hx; cases rep_int hy
    exact .inl ⟨_, _, rfl, rfl, k _ B H (.refl e) rfl⟩
  · split at hz
    · rename_i hl
      cases hz
      obtain ⟨rfl, s1⟩ := rep_str hx
      obtain ⟨rfl, s2⟩ := rep_str hy
      exact .inr (.inl ⟨_, _, rfl, rfl, hl, k _ B H (.refl e) ⟨rfl, strOk_app s1 s2⟩⟩)
    · cases hz
  · rename_i xs ys
    split at hz
    · rename_i hl
      cases hz
      unfold Rep at hx hy
      obtain ⟨a, us, rfl, t1, r1⟩ := hx
      obtain ⟨b, ws, rfl, t2, r2⟩ := hy
      refine .inr (.inr ⟨a, b, us, ws, rfl, rfl, (e.tu t1).sq, (e.tu t2).sq, by rw [← r1.length, ← r2.length]; exact hl, ?_⟩)
      have whole1 : ws = [] → Rep T B (.tup (xs ++ ys)) (.ref a) := fun h => by
        subst h
        have : ys = [] := List.eq_nil_of_length_eq_zero (by rw [r2.length]; rfl)
        subst this
        rw [List.append_nil]; unfold Rep; exact ⟨a, us, rfl, t1, r1⟩
      have whole2 : us = [] → Rep T B (.tup (xs ++ ys)) (.ref b) := fun h => by
        subst h
        have : xs = [] := List.eq_nil_of_length_eq_zero (by rw [r1.length]; rfl)
        subst this
        rw [List.nil_append]; unfold Rep; exact ⟨b, ws, rfl, t2, r2⟩
      refine ⟨fun h => ?_, fun _ h => ?_, fun _ _ p hp => ?_⟩
      · exact k _ B H (.refl e) (whole2 h)
      · exact k _ B H (.refl e) (whole1 h)
      · have w := Ext.newT (o := .tup (us ++ ws)) e hp
        exact k _ _ _ w (rep_tup upd_same (Reps.mono w.b _ (r1.append r2)))
    · cases hz
  · cases hz
end
end Fz
set_option Elab.async false
set_option linter.all false
set_option maxRecDepth 100000
set_option maxHeartbeats 2000000
namespace Fz
open PySem L2
section
variable {T : Tab} {X : Cx}
theorem p_sub : Prim2 T (rI0 fun i j => .int (i - j)) dSub := by
  intro x y z vx vy B H Q e hx hy hz k
  unfold dSub at hz
  split at hz
  · cases hz; cases rep_int hx; cases rep_int hy
    exact ⟨_, _, rfl, rfl, k _ B H (.refl e) rfl⟩
  · cases hz
theorem p_mul : Prim2 T (rI CMul fun i j => .int (i * j)) dMul := by
  intro x y z vx vy B H Q e hx hy hz k
  unfold dMul at hz
  split at hz
  · split at hz
    · rename_i hc
      cases hz; cases rep_int hx; cases rep_int hy
      exact ⟨_, _, rfl, rfl, cmul_b hc, k _ B H (.refl e) rfl⟩
    · cases hz
  · cases hz
theorem p_mod : Prim2 T (rI (fun _ j => 0 < j) fun i j => .int (i % j)) dMod := by
  intro x y z vx vy B H Q e hx hy hz k
  unfold dMod at hz
  split at hz
  · split at hz
    · rename_i hc
      cases hz; cases rep_int hx; cases rep_int hy
      exact ⟨_, _, rfl, rfl, hc, k _ B H (.refl e) rfl⟩
    · cases hz
  · cases hz
theorem p_div : Prim2 T (rI CDiv fun i j => .int (i / j)) dDiv := by
  intro x y z vx vy B H Q e hx hy hz k
  unfold dDiv at hz
  split at hz
  · split at hz
    · rename_i hc
      cases hz; cases rep_int hx; cases rep_int hy
      exact ⟨_, _, rfl, rfl, hc, k _ B H (.refl e) rfl⟩
    · cases hz
  · cases hz
theorem p_eq : Prim2 T (rEqD T.K) dEq := by
  intro x y z vx vy B H Q e hx hy hz k
  unfold dEq at hz
  split at hz
  · rename_i hc
    have hc' := (Bool.and_eq_true _ _).mp hc
    cases hz
    exact ⟨py x, py y, dp_of e x (cok_plain hc'.1) hx, dp_of e y (cok_plain hc'.2) hy, cok_shaped hc'.1 hx, cok_shaped hc'.2 hy, k _ B H (.refl e) rfl⟩
  · cases hz
theorem p_ne : Prim2 T (rNeD T.K) dNe := by
  intro x y z vx vy B H Q e hx hy hz k
  unfold dNe at hz
  split at hz
  · rename_i hc
    have hc' := (Bool.and_eq_true _ _).mp hc
    cases hz
    exact ⟨py x, py y, dp_of e x (cok_plain hc'.1) hx, dp_of e y (cok_plain hc'.2) hy, cok_shaped hc'.1 hx, cok_shaped hc'.2 hy, k _ B H (.refl e) rfl⟩
  · cases hz
def rCmp (p : Int → Int → Bool) (q : Str → Str → Bool) : R2 := fun x y H Q => (∃ i j, x = .int i ∧ y = .int j ∧ Q (.bl (p i j)) H) ∨ ∃ i j, x = .str i ∧ y = .str j ∧ Q (.bl (q i j)) H
theorem op_ltA : OpR X (compareOp .Lt) (rCmp (fun i j => decide (i < j)) fun a b => decide (a.cps.toList < b.cps.toList)) := op_lt.or op_lt_str
theorem op_gtA : OpR X (compareOp .Gt) (rCmp (fun i j => decide (j < i)) fun a b => decide (b.cps.toList < a.cps.toList)) := op_gt.or op_gt_str
theorem p_cmp {p : Int → Int → Bool} {q : Str → Str → Bool} {g : D → D → Option D} (h1 : ∀ i j, g (.int i) (.int j) = some (.bl (p i j))) (h2 : ∀ a b, g (.str a) (.str b) = some (.bl (q a b))) (h3 : ∀ x y z, g x y = some z → (∃ i j, x = .int i ∧ y = .int j) ∨ ∃ a b, x = .str a ∧ y = .str b) : Prim2 T (rCmp p q) g := by
  intro x y z vx vy B H Q e hx hy hz k
  rcases h3 x y z hz with ⟨i, j, rfl, rfl⟩ | ⟨a, b, rfl, rfl⟩
  · rw [h1] at hz; cases hz; cases rep_int hx; cases rep_int hy
    exact .inl ⟨_, _, rfl, rfl, k _ B H (.refl e) rfl⟩
  · rw [h2] at hz; cases hz
    obtain ⟨rfl, _⟩ := rep_str hx
    obtain ⟨rfl, _⟩ := rep_str hy
    exact .inr ⟨_, _, rfl, rfl, k _ B H (.refl e) rfl⟩
theorem p_lt : Prim2 T (rCmp (fun i j => decide (i < j)) fun a b => decide (a.cps.toList < b.cps.toList)) dLt := p_cmp (fun _ _ => rfl) (fun _ _ => rfl) fun x y z h => by
  unfold dLt at h
  split at h
  · exact .inl ⟨_, _, rfl, rfl⟩
  · exact .inr ⟨_, _, rfl, rfl⟩
  · cases h
theorem p_gt : Prim2 T (rCmp (fun i j => decide (j < i)) fun a b => decide (b.cps.toList < a.cps.toList)) dGt := p_cmp (fun _ _ => rfl) (fun _ _ => rfl) fun x y z h => by
  unfold dGt at h
  split at h
  · exact .inl ⟨_, _, rfl, rfl⟩
  · exact .inr ⟨_, _, rfl, rfl⟩
  · cases h
def fv : D → V
  | .non => .non
  | .bl b => .bl b
  | .int i => .int i
  | .str s => .str s
  | _ => .non
theorem flat_v {B : Hp} {d : D} {v : V} (h : flat d = true) (r : Rep T B d v) : v = fv d := by
  cases d with
  | non => exact r
  | bl b => exact r
  | int i => exact r
  | str s => exact (rep_str r).1
  | _ => cases h
theorem flatV_fv {d : D} (h : flat d = true) : flatV (fv d) = true := by cases d <;> first | rfl | cases h
theorem flats_v {B : Hp} : ∀ {ds : List D} {vs : List V}, ds.all flat = true → Reps T B ds vs → vs = ds.map fv
  | [], vs, _, r => by unfold Reps at r; exact r
  | d :: ds, vs, h, r => by
    unfold Reps at r
    obtain ⟨v, us, rfl, r1, r2⟩ := r
    simp only [List.all_cons, Bool.and_eq_true] at h
    rw [flat_v h.1 r1, flats_v h.2 r2]; rfl
theorem eqV_same {x y : D} (hx : flat x = true) (hy : flat y = true) : eqV (fv y) (fv x) = same y x := by
  cases x <;> first | (cases hx; done) | skip
  all_goals (cases y <;> first | (cases hy; done) | skip)
  all_goals first | rfl | (simp [fv, eqV, same, py, PyData.eqv]; done) | skip
  all_goals (simp only [fv, eqV, same, py, PyData.eqv]; try rfl)
end
end Fz
set_option Elab.async false
set_option linter.all false
set_option maxRecDepth 100000
set_option maxHeartbeats 2000000
namespace Fz
open PySem L2
section
variable {T : Tab} {X : Cx}
def rInA (K : PySem.W.Frag) (neg : Bool) : R2 := fun x y H Q =>
  (∃ (c : Nat) (z : Str), x = .str ⟨#[c]⟩ ∧ y = .str z ∧ Q (.bl (if neg then !decide (c ∈ z.cps.toList) else decide (c ∈ z.cps.toList))) H) ∨
  ((∃ d ds, Dp K H x d ∧ Dp K H y (.list ds) ∧ SeqAt.shaped d = true ∧ SeqAt.shaped (.list ds) = true ∧ Q (.bl (if neg then !(ds.any fun z => PyData.eqv z d) else ds.any fun z => PyData.eqv z d)) H) ∨ rIn K neg x y H Q)
theorem op_inA (hu : X.A.units + 65 < cLine) : OpR X (compareOp .In) (rInA X.K false) := by
  intro pins s σ H x y v u Q I rx ry h
  rcases h with h | h | h
  · exact op_in_sign pins s σ H x y v u Q I rx ry h
  · exact op_inD hu pins s σ H x y v u Q I rx ry h
  · exact op_in_seq pins s σ H x y v u Q I rx ry h
theorem op_notInA (hu : X.A.units + 65 < cLine) : OpR X (compareOp .NotIn) (rInA X.K true) := by
  intro pins s σ H x y v u Q I rx ry h
  rcases h with h | h | h
  · exact op_notIn_sign pins s σ H x y v u Q I rx ry h
  · exact op_notInD hu pins s σ H x y v u Q I rx ry h
  · exact op_notIn_seq pins s σ H x y v u Q I rx ry h
theorem any_same {x : D} : ∀ ys : List D, (pys ys).any (fun z => PyData.eqv z (py x)) = ys.any fun z => same z x
  | [] => rfl
  | y :: ys => by unfold pys; rw [List.any_cons, List.any_cons, any_same ys]; rfl
theorem inV_same {x : D} (hx : flat x = true) : ∀ ys : List D, ys.all flat = true → inV (fv x) (ys.map fv) = ys.any fun z => same z x
  | [], _ => rfl
  | y :: ys, h => by
    simp only [List.all_cons, Bool.and_eq_true] at h
    have ih := inV_same hx ys h.2
    unfold inV at ih ⊢
    rw [List.map_cons, List.any_cons, List.any_cons, ih, eqV_same hx h.1]
theorem flats_fv {ys : List D} (h : ys.all flat = true) : (ys.map fv).all flatV = true := by
  rw [List.all_map]
  rw [List.all_eq_true] at h ⊢
  intro d hd
  exact flatV_fv (h d hd)
theorem p_inG (neg : Bool) : Prim2 T (rInA T.K neg) (fun x y => (dInB x y).map fun b => .bl (if neg then !b else b)) := by
  intro x y z vx vy B H Q e hx hy hz k
  dsimp only at hz
  cases hb : dInB x y with
  | none => rw [hb] at hz; cases hz
  | some b =>
    rw [hb] at hz; cases hz
    unfold dInB at hb
    split at hb
    · rename_i a b'
      split at hb
      · rename_i c hc
        cases hb
        obtain ⟨rfl, _⟩ := rep_str hx
        obtain ⟨rfl, _⟩ := rep_str hy
        refine .inl ⟨c, b', ?_, rfl, k _ B H (.refl e) rfl⟩
        congr 1
        exact Str.ext' (Array.toList_inj.mp (by rw [hc]))
      · cases hb
    · rename_i ys
      split at hb
      · rename_i hc
        cases hb
        have hc' := (Bool.and_eq_true _ _).mp hc
        refine .inr (.inl ⟨py x, pys ys, dp_of e x (cok_plain hc'.1) hx, ?_, cok_shaped hc'.1 hx, ?_, ?_⟩)
        · have := dp_of e (.lst ys) (cok_plain hc'.2) hy
          simpa only [py] using this
        · have := cok_shaped hc'.2 hy
          simpa only [py] using this
        · rw [any_same]; exact k _ B H (.refl e) rfl
      · cases hb
    · rename_i ys _
      split at hb
      · rename_i hc
        cases hb
        have hc' := (Bool.and_eq_true _ _).mp hc
        unfold Rep at hy
        obtain ⟨a, us, rfl, t1, r1⟩ := hy
        cases flats_v hc'.2 r1
        cases flat_v hc'.1 hx
        refine .inr (.inr ⟨a, _, rfl, .inr (e.tu t1).sq, flatV_fv hc'.1, flats_fv hc'.2, ?_⟩)
        rw [inV_same hc'.1 _ hc'.2]
        exact k _ B H (.refl e) rfl
      · cases hb
    · cases hb
theorem p_in : Prim2 T (rInA T.K false) dIn := p_inG false
theorem p_notIn : Prim2 T (rInA T.K true) dNotIn := p_inG true
def isNone : D → Bool
  | .non => true
  | _ => false
def dIsv : D → D → Option Bool
  | .bl a, .bl b => some (decide (a = b))
  | x, .non => some (isNone x)
  | _, _ => none
def dIs (x y : D) : Option D := (dIsv x y).map .bl
def dIx : D → D → Option D
  | .lst xs, .int i => atI xs i
  | .tup xs, .int i => atI xs i
  | .str z, .int i => if z.length ≤ sizeLine then (atI z.cps.toList i).map fun c => .str ⟨#[c]⟩ else none
  | _, _ => none
theorem atI_reps {B : Hp} {ds : List D} {vs : List V} {i : Int} {d : D} (r : Reps T B ds vs) (h : atI ds i = some d) : ∃ v, atI vs i = some v ∧ Rep T B d v := by
  unfold atI at h ⊢
  rw [r.length] at h
  cases e : ixN vs.length i with
  | none => rw [e] at h; cases h
  | some j =>
    rw [e] at h
    exact r.get (by simpa using h)
theorem p_ix : Prim2 T (rIx T.K) dIx := by
  intro x y z vx vy B H Q e hx hy hz k
  unfold dIx at hz
  split at hz
  · unfold Rep at hx
    obtain ⟨a, us, rfl, t1, r1⟩ := hx
    cases rep_int hy
    obtain ⟨v, h1, h2⟩ := atI_reps r1 hz
    exact .inl ⟨a, us, _, v, rfl, rfl, e.sqL t1, h1, k v B H (.refl e) h2⟩
  · unfold Rep at hx
    obtain ⟨a, us, rfl, t1, r1⟩ := hx
    cases rep_int hy
    obtain ⟨v, h1, h2⟩ := atI_reps r1 hz
    exact .inr (.inl ⟨a, us, _, v, rfl, rfl, (e.tu t1).sq, h1, k v B H (.refl e) h2⟩)
  · rename_i zs i
    split at hz
    · rename_i hl
      obtain ⟨rfl, ok⟩ := rep_str hx
      cases rep_int hy
      cases hc : atI zs.cps.toList i with
      | none => rw [hc] at hz; cases hz
      | some c =>
        rw [hc] at hz; cases hz
        refine .inr (.inr ⟨zs, i, c, rfl, rfl, hl, hc, k _ B H (.refl e) ⟨rfl, ?_⟩⟩)
        obtain ⟨j, _, hj, _⟩ := atI_get hc
        rw [strOk_mem]
        intro c' hc'
        have : c' = c := by simpa using hc'
        subst this
        exact strOk_mem.mp ok c' (List.mem_of_getElem? hj)
    · cases hz
  · cases hz
def cutD {α : Type} (xs : List α) (lo hi : Option Int) : List α := (xs.drop (HT.sIx xs.length 0 lo)).take (HT.sIx xs.length xs.length hi - HT.sIx xs.length 0 lo)
theorem reps_drop {B : Hp} : ∀ (n : Nat) {ds : List D} {vs : List V}, Reps T B ds vs → Reps T B (ds.drop n) (vs.drop n)
  | 0, _, _, r => r
  | n + 1, [], vs, r => by unfold Reps at r; subst r; exact reps_nil
  | n + 1, d :: ds, vs, r => by
    unfold Reps at r
    obtain ⟨v, us, rfl, _, r2⟩ := r
    exact reps_drop n r2
theorem reps_take {B : Hp} : ∀ (n : Nat) {ds : List D} {vs : List V}, Reps T B ds vs → Reps T B (ds.take n) (vs.take n)
  | 0, _, _, _ => reps_nil
  | n + 1, [], vs, r => by unfold Reps at r; subst r; exact reps_nil
  | n + 1, d :: ds, vs, r => by
    unfold Reps at r
    obtain ⟨v, us, rfl, r1, r2⟩ := r
    exact reps_cons r1 (reps_take n r2)
theorem reps_cut {B : Hp} {ds : List D} {vs : List V} (r : Reps T B ds vs) (lo hi : Option Int) : Reps T B (cutD ds lo hi) (cutV vs lo hi) := by
  unfold cutD cutV
  rw [r.length]
  exact reps_take _ (reps_drop _ r)
def dSl (x : D) (lo hi : Option Int) : Option D := match x with
  | .tup xs => some (.tup (cutD xs lo hi))
  | .str z => if z.length ≤ sizeLine then some (.str (cutS z lo hi)) else none
  | _ => none
def rSlTS (K : PySem.W.Frag) : V → Option Int → Option Int → Hp → VK → Prop := fun x lo hi H Q => rSlA K x lo hi H Q ∨ rSlS x lo hi H Q
theorem sl_ts : SlR X (rSlTS X.K) := sl_tupA.or sl_str
theorem cutS_ok {z : Str} {lo hi : Option Int} (h : PyData.strOk z = true) : PyData.strOk (cutS z lo hi) = true := by
  rw [strOk_mem] at h ⊢
  intro c hc
  have hc : c ∈ (z.cps.toList.drop (HT.sIx z.length 0 lo)).take (HT.sIx z.length z.length hi - HT.sIx z.length 0 lo) := hc
  exact h c (List.mem_of_mem_drop (List.mem_of_mem_take hc))
theorem p_sl {x z : D} {lo hi : Option Int} {v : V} {B H : Hp} {Q : VK} (e : Ex B H) (r : Rep T B x v) (h : dSl x lo hi = some z) (k : ∀ v B' H', Ext B H B' H' → Rep T B' z v → Q v H') : rSlTS T.K v lo hi H Q := by
  unfold dSl at h
  split at h
  · rename_i xs
    cases h
    unfold Rep at r
    obtain ⟨a, us, rfl, t1, r1⟩ := r
    refine .inl ⟨a, us, rfl, (e.tu t1).sq, fun hw => ?_, fun hn p hp => ?_⟩
    · refine k _ B H (.refl e) ?_
      have : cutD xs lo hi = xs := by
        unfold cutD
        rw [r1.length, hw.1, hw.2, List.drop_zero, ← r1.length, Nat.sub_zero, List.take_length]
      rw [this]; unfold Rep; exact ⟨a, us, rfl, t1, r1⟩
    · have w := Ext.newT (o := .tup (cutV us lo hi)) e hp
      exact k _ _ _ w (rep_tup upd_same (Reps.mono w.b _ (reps_cut r1 lo hi)))
  · split at h
    · rename_i hl
      cases h
      obtain ⟨rfl, ok⟩ := rep_str r
      exact .inr ⟨_, rfl, hl, k _ B H (.refl e) ⟨rfl, cutS_ok ok⟩⟩
    · cases h
  · cases h
def SemO (T : Tab) (E : L2.St → XK) (to : TO) (f : M (Option Int)) : Prop := ∀ st σ B F H, Sim T st σ B F H → ∀ o s, f st = some (o, s) → ∀ Q : Option Int → Hp → Prop, Okx T (E σ) o s σ B F (fun x _ H' => Q x H') → to σ H Q
def oNone : M (Option Int) := ret none
def oSome (f : M D) : M (Option Int) := bnd f fun x => opt (match x with | .int i => some (some i) | _ => none)
variable {E : L2.St → XK} {te : TE} {fa : M D}
theorem semO_none : SemO T E tNoPart oNone := by
  intro st σ B F H S o s h Q hQ
  cases h
  exact hQ B H (Ex.refl B) S
theorem semO_some (ha : SemE T E te fa) : SemO T E (tPart te) (oSome fa) := by
  intro st σ B F H S o s h Q hQ
  refine okx_bnd h hQ (fun o1 s1 e1 q => ha st σ B F H S o1 s1 e1 _ q) fun a s1 B1 H1 _ h2 e1 S1 hQ1 v hv => ?_
  obtain ⟨z, hz, rfl, rfl⟩ := opt_some h2
  split at hz
  · cases hz; cases rep_int hv
    exact ⟨_, rfl, hQ1 B1 H1 (Ex.refl _) S1⟩
  · cases hz
def eSl (fa : M D) (lo hi : M (Option Int)) : M D := bnd fa fun x => bnd lo fun l => bnd hi fun h => opt (dSl x l h)
theorem semE_sl {tl th : TO} {lo hi : M (Option Int)} (ha : SemE T E te fa) (hl : SemO T E tl lo) (hh : SemO T E th hi) : SemE T E (tSl (rSlTS T.K) te tl th) (eSl fa lo hi) := by
  intro st σ B F H S o s h Q hQ
  refine okx_bnd h hQ (fun o1 s1 e1 q => ha st σ B F H S o1 s1 e1 _ q) fun a s1 B1 H1 _ h2 e1 S1 hQ1 v hv => ?_
  refine okx_bnd h2 hQ1 (fun o1 s2 e2 q => hl s1 σ B1 F H1 S1 o1 s2 e2 _ q) fun l s2 B2 H2 _ h3 e2 S2 hQ2 => ?_
  refine okx_bnd h3 hQ2 (fun o1 s3 e3 q => hh s2 σ B2 F H2 S2 o1 s3 e3 _ q) fun u s3 B3 H3 _ h4 e3 S3 hQ3 => ?_
  obtain ⟨z, hz, rfl, rfl⟩ := opt_some h4
  exact p_sl S3.exB (Rep.mono (e2.trans e3) a hv) hz fun u B4 H4 e4 hu => hQ3 B4 H4 e4.b (S3.ext e4) u hu
def rSlL' (fa : M D) (lo hi : M (Option Int)) : M R := bnd fa fun x => bnd lo fun l => bnd hi fun h => opt (match x with | .lst xs => some (.ol (cutD xs l h)) | _ => none)
theorem semR_sl {tl th : TO} {lo hi : M (Option Int)} (ha : SemE T E te fa) (hl : SemO T E tl lo) (hh : SemO T E th hi) : SemR T E (tSl (rSlL T.K) te tl th) (rSlL' fa lo hi) := by
  intro st σ B F H S o s h Q hQ
  rcases bnd_some h with ⟨c, e1, rfl⟩ | ⟨x, s1, e1, h2⟩
  · exact ha st σ B F H S _ _ e1 _ hQ
  · refine ha st σ B F H S _ _ e1 _ fun B1 H1 x1 S1 v hv => ?_
    rcases bnd_some h2 with ⟨c, e2, rfl⟩ | ⟨l, s2, e2, h3⟩
    · exact hl s1 σ B1 F H1 S1 _ _ e2 _ fun d B2 H2 x2 S2 => hQ d B2 H2 (x1.trans x2) S2
    · refine hl s1 σ B1 F H1 S1 _ _ e2 _ fun B2 H2 x2 S2 => ?_
      rcases bnd_some h3 with ⟨c, e3, rfl⟩ | ⟨u, s3, e3, h4⟩
      · exact hh s2 σ B2 F H2 S2 _ _ e3 _ fun d B3 H3 x3 S3 => hQ d B3 H3 (x1.trans (x2.trans x3)) S3
      · refine hh s2 σ B2 F H2 S2 _ _ e3 _ fun B3 H3 x3 S3 => ?_
        obtain ⟨z, hz, rfl, rfl⟩ := opt_some h4
        split at hz
        · cases hz
          have hv' := Rep.mono (x2.trans x3) _ hv
          unfold Rep at hv'
          obtain ⟨a, us, rfl, t1, r1⟩ := hv'
          exact ⟨a, us, rfl, S3.exB.sqL t1, fun p hp => hQ _ B3 _ (x1.trans (x2.trans x3)) (S3.alloc hp (fun _ z => nomatch z) (relR_ol upd_same (reps_cut r1 l u)))⟩
        · cases hz
def dLen : List D → Option D
  | [.str s] => if s.length ≤ sizeLine then some (.int (s.length : Nat)) else none
  | [.lst xs] => some (.int (xs.length : Nat))
  | [.tup xs] => some (.int (xs.length : Nat))
  | _ => none
theorem reps1 {B : Hp} {d : D} {vs : List V} (h : Reps T B [d] vs) : ∃ v, vs = [v] ∧ Rep T B d v := by
  unfold Reps at h
  obtain ⟨v, r, rfl, h1, h2⟩ := h
  unfold Reps at h2
  subst h2
  exact ⟨v, rfl, h1⟩
theorem p_len : PrimN T (fun xs H Q => ∃ x n, xs = [x] ∧ LenV T.K x H n ∧ Q (.int (n : Nat)) H) dLen := by
  intro xs z vs B H Q e hx hz k
  unfold dLen at hz
  split at hz
  · split at hz
    · rename_i hl
      cases hz
      obtain ⟨v, rfl, r⟩ := reps1 hx
      obtain ⟨rfl, _⟩ := rep_str r
      exact ⟨_, _, rfl, ⟨hl, rfl⟩, k _ B H (.refl e) rfl⟩
    · cases hz
  · cases hz
    obtain ⟨v, rfl, r⟩ := reps1 hx
    unfold Rep at r
    obtain ⟨a, us, rfl, t1, r1⟩ := r
    exact ⟨_, _, rfl, .inl ⟨us, e.sqL t1, r1.length⟩, k _ B H (.refl e) rfl⟩
  · cases hz
    obtain ⟨v, rfl, r⟩ := reps1 hx
    unfold Rep at r
    obtain ⟨a, us, rfl, t1, r1⟩ := r
    exact ⟨_, _, rfl, .inr ⟨us, (e.tu t1).sq, r1.length⟩, k _ B H (.refl e) rfl⟩
  · cases hz
def dInt : List D → Option D
  | [.int i] => some (.int i)
  | [.bl b] => some (.int (if b = true then 1 else 0))
  | _ => none
theorem p_int : PrimN T (fun xs H Q => (∃ i, xs = [.int i] ∧ Q (.int i) H) ∨ ∃ k, xs = [.bl k] ∧ Q (.int (if k = true then 1 else 0)) H) dInt := by
  intro xs z vs B H Q e hx hz k
  unfold dInt at hz
  split at hz
  · cases hz
    obtain ⟨v, rfl, r⟩ := reps1 hx
    cases rep_int r
    exact .inl ⟨_, rfl, k _ B H (.refl e) rfl⟩
  · cases hz
    obtain ⟨v, rfl, r⟩ := reps1 hx
    cases rep_bl r
    exact .inr ⟨_, rfl, k _ B H (.refl e) rfl⟩
  · cases hz
def dTuple : List D → Option D
  | [.lst xs] => some (.tup xs)
  | [.tup xs] => some (.tup xs)
  | _ => none
theorem p_tuple : PrimN T (fun xs H Q => ∃ p ys, xs = [.ref p] ∧ ((SqL T.K H p ys ∧ ∀ l, H l = none → Q (.ref l) (upd H l (.tup ys))) ∨ (SqT T.K H p ys ∧ Q (.ref p) H))) dTuple := by
  intro xs z vs B H Q e hx hz k
  unfold dTuple at hz
  split at hz
  · cases hz
    obtain ⟨v, rfl, r⟩ := reps1 hx
    unfold Rep at r
    obtain ⟨a, us, rfl, t1, r1⟩ := r
    refine ⟨a, us, rfl, .inl ⟨e.sqL t1, fun p hp => ?_⟩⟩
    have w := Ext.newT (o := .tup us) e hp
    exact k _ _ _ w (rep_tup upd_same (Reps.mono w.b _ r1))
  · cases hz
    obtain ⟨v, rfl, r⟩ := reps1 hx
    have r' := r
    unfold Rep at r
    obtain ⟨a, us, rfl, t1, r1⟩ := r
    exact ⟨a, us, rfl, .inr ⟨(e.tu t1).sq, k _ B H (.refl e) r'⟩⟩
  · cases hz
def dList : List D → Option (List D)
  | [.lst xs] => some xs
  | [.tup xs] => some xs
  | _ => none
theorem p_list : PrimL T (fun xs H Q => ∃ p ys, xs = [.ref p] ∧ (SqL T.K H p ys ∨ SqT T.K H p ys) ∧ ∀ l, H l = none → Q (.ref l) (upd H l (.lst ys))) dList := by
  intro xs zs vs B H Q e hx hz k
  unfold dList at hz
  split at hz
  · cases hz
    obtain ⟨v, rfl, r⟩ := reps1 hx
    unfold Rep at r
    obtain ⟨a, us, rfl, t1, r1⟩ := r
    exact ⟨a, us, rfl, .inl (e.sqL t1), fun p hp => k p us B H (.refl e) hp r1⟩
  · cases hz
    obtain ⟨v, rfl, r⟩ := reps1 hx
    unfold Rep at r
    obtain ⟨a, us, rfl, t1, r1⟩ := r
    exact ⟨a, us, rfl, .inr (e.tu t1).sq, fun p hp => k p us B H (.refl e) hp r1⟩
  · cases hz
end
end Fz
set_option Elab.async false
set_option linter.all false
set_option maxRecDepth 100000
set_option maxHeartbeats 2000000
namespace Fz
open PySem L2
section
variable {T : Tab} {E : L2.St → XK} {st : Sl} {σ : St} {B F H B' H' : Hp}
theorem steps_list' {a : Addr} {ds : List D} {vs : List V} {B : Hp} (h : SqL T.K B a vs) (r : Reps T B ds vs) : Steps T (Itl T.K a) ds B where
  go := fun i H hi e => ⟨vs, vs[i]'(by rw [← r.length]; exact hi), e.sqL h, List.getElem?_eq_getElem _⟩
  stop := fun H e => ⟨vs, e.sqL h, Nat.le_of_eq r.length.symm⟩
  yld := fun i d H x H' B1 hd e1 e2 hy => by
    obtain ⟨rfl, hy⟩ := hy
    obtain ⟨v, hv, rv⟩ := r.get hd
    have := hy vs ((e1.trans e2).sqL h)
    rw [hv] at this; cases this
    exact ⟨B1, .refl e2, Rep.mono e1 d rv⟩
theorem steps_tup {a : Addr} {ds : List D} {vs : List V} {B : Hp} (h : Tu T B a vs) (r : Reps T B ds vs) : Steps T (Itt T.K a) ds B where
  go := fun i H hi e => ⟨vs, vs[i]'(by rw [← r.length]; exact hi), (e.tu h).sq, List.getElem?_eq_getElem _⟩
  stop := fun H e => ⟨vs, (e.tu h).sq, Nat.le_of_eq r.length.symm⟩
  yld := fun i d H x H' B1 hd e1 e2 hy => by
    obtain ⟨rfl, hy⟩ := hy
    obtain ⟨v, hv, rv⟩ := r.get hd
    have := hy vs ((e1.trans e2).tu h).sq
    rw [hv] at this; cases this
    exact ⟨B1, .refl e2, Rep.mono e1 d rv⟩
def rngD (lo : Int) (n : Nat) : List D := (List.range n).map fun (i : Nat) => D.int (lo + i)
theorem rngD_len (lo : Int) (n : Nat) : (rngD lo n).length = n := by unfold rngD; rw [List.length_map, List.length_range]
theorem rngD_get {lo : Int} {n i : Nat} {d : D} (h : (rngD lo n)[i]? = some d) : i < n ∧ d = .int (lo + i) := by
  unfold rngD at h
  rw [List.getElem?_map] at h
  by_cases hi : i < n
  · rw [List.getElem?_range hi] at h; cases h; exact ⟨hi, rfl⟩
  · rw [List.getElem?_eq_none (by rw [List.length_range]; omega)] at h; cases h
theorem steps_rng {lo : Int} {n : Nat} {B : Hp} : Steps T (Itr lo n) (rngD lo n) B where
  go := fun i H hi e => by rw [rngD_len] at hi; exact hi
  stop := fun H e => by rw [rngD_len]; exact Nat.le_refl _
  yld := fun i d H x H' B1 hd e1 e2 hy => by
    obtain ⟨rfl, rfl⟩ := hy
    obtain ⟨_, rfl⟩ := rngD_get hd
    exact ⟨B1, .refl e2, rfl⟩
def sgnD (x : Str) : List D := x.cps.toList.map fun c => D.str ⟨#[c]⟩
def enumD : Nat → List D → List D
  | _, [] => []
  | i, d :: ds => .tup [.int (i : Nat), d] :: enumD (i + 1) ds
theorem enumD_len : ∀ (k : Nat) (ds : List D), (enumD k ds).length = ds.length
  | _, [] => rfl
  | k, d :: ds => by show (enumD (k + 1) ds).length + 1 = _; rw [enumD_len (k + 1) ds]; rfl
theorem enumD_get : ∀ {k i : Nat} {ds : List D} {d : D}, (enumD k ds)[i]? = some d → ∃ x, ds[i]? = some x ∧ d = .tup [.int ((k + i : Nat) : Int), x]
  | k, i, [], d, h => by simp [enumD] at h
  | k, 0, x :: ds, d, h => by have h : some (D.tup [.int (k : Nat), x]) = some d := h; cases h; exact ⟨x, rfl, rfl⟩
  | k, i + 1, x :: ds, d, h => by
    obtain ⟨y, h1, h2⟩ := enumD_get (k := k + 1) (i := i) (ds := ds) (d := d) h
    exact ⟨y, h1, by rw [h2]; congr 4; omega⟩
theorem steps_enum {a : Addr} {ds : List D} {vs : List V} {B : Hp} (h : SqL T.K B a vs) (r : Reps T B ds vs) : Steps T (Ite T.K a) (enumD 0 ds) B where
  go := fun i H hi e => by rw [enumD_len] at hi; exact ⟨vs, vs[i]'(by rw [← r.length]; exact hi), e.sqL h, List.getElem?_eq_getElem _⟩
  stop := fun H e => ⟨vs, e.sqL h, by rw [enumD_len]; exact Nat.le_of_eq r.length.symm⟩
  yld := fun i d H x H' B1 hd e1 e2 hy => by
    obtain ⟨p, y, rfl, hp, rfl, hy⟩ := hy
    obtain ⟨z, hz, rfl⟩ := enumD_get hd
    obtain ⟨v, hv, rv⟩ := r.get hz
    have := hy vs ((e1.trans e2).sqL h)
    rw [hv] at this; cases this
    have w := Ext.newT (o := .tup [.int (i : Nat), y]) e2 hp
    refine ⟨_, w, rep_tup upd_same ?_⟩
    exact reps_cons (by rw [Nat.zero_add]; rfl) (reps_cons (Rep.mono (e1.trans w.b) _ rv) reps_nil)
def zipD : List D → List D → List D
  | x :: xs, y :: ys => .tup [x, y] :: zipD xs ys
  | _, _ => []
def iLst (fa : M D) : M (List D) := bnd fa fun x => opt (match x with | .lst xs => some xs | _ => none)
def iTupl (fa : M D) : M (List D) := bnd fa fun x => opt (match x with | .tup xs => some xs | _ => none)
def iSeq (fa : M D) : M (List D) := bnd fa fun x => opt (match x with | .lst xs => some xs | .tup xs => some xs | _ => none)
def iText (fa : M D) : M (List D) := bnd fa fun x => opt (match x with | .str x => some (sgnD x) | _ => none)
def smallI (i : Int) : Bool := decide (i.natAbs < 4611686018427387904)
theorem small_b {i : Int} (h : smallI i = true) : -(2 ^ 62) ≤ i ∧ i < 2 ^ 62 := by
  have := of_decide_eq_true h
  constructor <;> omega
def iR1 (fa : M (List D)) : M (List D) := bnd fa fun xs => opt (match xs with | [.int j] => if smallI j then some (rngD 0 j.toNat) else none | _ => none)
def iR2 (fa : M (List D)) : M (List D) := bnd fa fun xs => opt (match xs with | [.int i, .int j] => if smallI i && smallI j then some (rngD i (j - i).toNat) else none | _ => none)
def iEn (fa : M (List D)) : M (List D) := bnd fa fun xs => opt (match xs with | [.lst xs] => some (enumD 0 xs) | _ => none)
variable {te : TE} {ta : TA} {fa : M D} {fs : M (List D)}
theorem semI_lst (h : SemE T E te fa) : SemI T E (iList T.K te) (iLst fa) := by
  intro st σ B F H S o s hf R hR
  refine okx_bnd hf hR (fun o1 s1 e1 q => h st σ B F H S o1 s1 e1 _ q) fun a s1 B1 H1 _ h2 e1 S1 hR1 v hv => ?_
  obtain ⟨z, hz, rfl, rfl⟩ := opt_some h2
  split at hz
  · cases hz
    unfold Rep at hv
    obtain ⟨p, us, rfl, t, r⟩ := hv
    exact ⟨p, rfl, ⟨us, S1.exB.sqL t⟩, hR1 B1 H1 (Ex.refl _) S1 _ (steps_list' t r)⟩
  · cases hz
theorem semI_tup (h : SemE T E te fa) : SemI T E (iTup T.K te) (iTupl fa) := by
  intro st σ B F H S o s hf R hR
  refine okx_bnd hf hR (fun o1 s1 e1 q => h st σ B F H S o1 s1 e1 _ q) fun a s1 B1 H1 _ h2 e1 S1 hR1 v hv => ?_
  obtain ⟨z, hz, rfl, rfl⟩ := opt_some h2
  split at hz
  · cases hz
    unfold Rep at hv
    obtain ⟨p, us, rfl, t, r⟩ := hv
    exact ⟨p, rfl, ⟨us, (S1.exB.tu t).sq⟩, hR1 B1 H1 (Ex.refl _) S1 _ (steps_tup t r)⟩
  · cases hz
theorem semI_seq (h : SemE T E te fa) : SemI T E (fun σ H R => iList T.K te σ H R ∨ iTup T.K te σ H R) (iSeq fa) := by
  intro st σ B F H S o s hf R hR
  have hf' := hf
  rcases bnd_some hf with ⟨c, e1, rfl⟩ | ⟨x, s1, e1, h2⟩
  · exact .inl (semI_lst h st σ B F H S (.x c) s (show bnd fa _ st = _ by unfold bnd; rw [e1]) R hR)
  · obtain ⟨z, hz, rfl, rfl⟩ := opt_some h2
    split at hz
    · rename_i xs
      cases hz
      exact .inl (semI_lst h st σ B F H S (.v _) s (show bnd fa _ st = _ by unfold bnd; rw [e1]; rfl) R hR)
    · rename_i xs
      cases hz
      exact .inr (semI_tup h st σ B F H S (.v _) s (show bnd fa _ st = _ by unfold bnd; rw [e1]; rfl) R hR)
    · cases hz
theorem semI_r1 (h : SemA T E ta fs) : SemI T E (iRng1 ta) (iR1 fs) := by
  intro st σ B F H S o s hf R hR
  refine okx_bnd hf hR (fun o1 s1 e1 q => h st σ B F H S o1 s1 e1 _ q) fun a s1 B1 H1 _ h2 e1 S1 hR1 v hv => ?_
  obtain ⟨z, hz, rfl, rfl⟩ := opt_some h2
  split at hz
  · split at hz
    · rename_i hl
      cases hz
      obtain ⟨u, rfl, r⟩ := reps1 hv
      cases rep_int r
      have hl' := small_b hl
      exact ⟨_, rfl, hl'.1, hl'.2, hR1 B1 H1 (Ex.refl _) S1 _ steps_rng⟩
    · cases hz
  · cases hz
theorem semI_en (h : SemA T E ta fs) : SemI T E (iEnum T.K ta) (iEn fs) := by
  intro st σ B F H S o s hf R hR
  refine okx_bnd hf hR (fun o1 s1 e1 q => h st σ B F H S o1 s1 e1 _ q) fun a s1 B1 H1 _ h2 e1 S1 hR1 v hv => ?_
  obtain ⟨z, hz, rfl, rfl⟩ := opt_some h2
  split at hz
  · cases hz
    obtain ⟨u, rfl, r⟩ := reps1 hv
    unfold Rep at r
    obtain ⟨p, us, rfl, t, r⟩ := r
    exact ⟨p, us, rfl, S1.exB.sqL t, hR1 B1 H1 (Ex.refl _) S1 _ (steps_enum t r)⟩
  · cases hz
def addF (F H : Hp) (a : Addr) : Hp := fun b => if b = a then H a else F b
theorem Sim.hide {r : R} {a : Addr} (S : Sim T (some r :: st) (some (.ref a) :: σ) B F H) (ho : Ow H r (.ref a) a) : Sim T st σ B (addF F H a) H := by
  have P := S.pop
  obtain ⟨ba, fa⟩ := S.own 0 r _ a rfl rfl ho
  refine ⟨P.exB, fun b o h => ?_, fun b o h => ?_, P.tup, P.len, P.rel, fun i q u b h1 h2 h3 => ?_, P.sep, ⟨fun b o h => ?_, P.tbs.tab⟩⟩
  · unfold addF at h
    split at h
    · rename_i e; subst e; exact h
    · exact S.exF b o h
  · unfold addF at h
    split at h
    · rename_i e; subst e; exact ba
    · exact S.dis b o h
  · obtain ⟨z1, z2⟩ := P.own i q u b h1 h2 h3
    refine ⟨z1, ?_⟩
    unfold addF
    split
    · rename_i e; subst e
      exact (S.sep 0 (i + 1) r q _ u b (by omega) rfl rfl (by simpa using h1) (by simpa using h2) ho h3).elim
    · exact z2
  · unfold addF at h
    split at h
    · rename_i e; subst e; exact S.top.ntb ho o h
    · exact P.tbs.noF b o h
theorem Sim.unhide {r : R} {a : Addr} {st' : Sl} {σ' : St} (S : Sim T (some r :: st) (some (.ref a) :: σ) B F H) (ho : Ow H r (.ref a) a) (e : Ex B B') (S' : Sim T st' σ' B' (addF F H a) H') (only : ∀ b, Ow H r (.ref a) b → b = a := by intro b h; exact (V.ref.inj h).symm) : Sim T (some r :: st') (some (.ref a) :: σ') B' F H' := by
  obtain ⟨ba, fa⟩ := S.own 0 r _ a rfl rfl ho
  obtain ⟨⟨oh, hh⟩, nt⟩ := S.top.ow ho
  have same : H' a = H a := by
    rw [hh]
    exact S'.exF a oh (by unfold addF; rw [if_pos rfl]; exact hh)
  have fh : addF F H a a = some oh := by unfold addF; rw [if_pos rfl]; exact hh
  have tk : Tk H H' := fun b xs h => S'.exB b _ (e b _ (S.tup b xs h))
  have bk : ∀ b, Ow H' r (.ref a) b → Ow H r (.ref a) b := fun b h => Ow.back tk S.top (fun p o g1 g2 => by rw [only p g1] at g2 ⊢; rw [same]; exact g2) h
  have fr : ∀ b, addF F H a b = none → F b = none := fun b h => by
    unfold addF at h
    split at h
    · rename_i z; subst z; rw [hh] at h; cases h
    · exact h
  refine ⟨S'.exB, fun b o h => S'.exF b o ?_, fun b o h => S'.dis b o ?_, S'.tup, by simp [S'.len], fun i q h => ?_, fun i q u b h1 h2 h3 => ?_, fun i j q p u w b n h1 h2 h3 h4 h5 h6 => ?_, ⟨S.tbs.noF, S'.tbs.tab⟩⟩
  · unfold addF; rw [if_neg (by rintro rfl; rw [fa] at h; cases h)]; exact h
  · unfold addF; rw [if_neg (by rintro rfl; rw [fa] at h; cases h)]; exact h
  · cases i with
    | zero =>
      cases h
      exact ⟨_, rfl, S.top.keep e tk fun b o ob z => by rw [only b ob] at z ⊢; rw [same]; exact z⟩
    | succ i => obtain ⟨u, a, b⟩ := S'.rel i q (by simpa using h); exact ⟨u, by simpa using a, b⟩
  · cases i with
    | zero =>
      cases h1; cases h2
      rw [only b (bk b h3)]
      exact ⟨S'.dis a oh fh, fa⟩
    | succ i =>
      obtain ⟨z1, z2⟩ := S'.own i q u b (by simpa using h1) (by simpa using h2) h3
      exact ⟨z1, fr b z2⟩
  · have cross : ∀ {j : Nat} {q : R} {u : V}, st'[j]? = some (some q) → σ'[j]? = some (some u) → Ow H' r (.ref a) b → Ow H' q u b → False := fun {j q u} g1 g2 g3 g4 => by
      rw [only b (bk b g3)] at g4
      have := (S'.own j q u a g1 g2 g4).2
      rw [fh] at this; cases this
    cases i with
    | zero =>
      cases h1; cases h2
      cases j with
      | zero => exact n rfl
      | succ j => exact cross (by simpa using h3) (by simpa using h4) h5 h6
    | succ i =>
      cases j with
      | zero => cases h3; cases h4; exact cross (by simpa using h1) (by simpa using h2) h6 h5
      | succ j => exact S'.sep i j q p u w b (by omega) (by simpa using h1) (by simpa using h2) (by simpa using h3) (by simpa using h4) h5 h6
def wipeS (st : Sl) : List Nat → Sl
  | [] => st
  | v :: vs => (wipeS st vs).set v none
def isOwned : Option R → Bool
  | some (.d _) => false
  | none => false
  | _ => true
def backS (st0 st : Sl) : List Nat → Sl
  | [] => st
  | v :: vs => (backS st0 st vs).set v (st0.getD v none)
theorem wipeS_length (st : Sl) : ∀ vs, (wipeS st vs).length = st.length
  | [] => rfl
  | v :: vs => by unfold wipeS; rw [List.length_set, wipeS_length st vs]
theorem backS_length (st0 st : Sl) : ∀ vs, (backS st0 st vs).length = st.length
  | [] => rfl
  | v :: vs => by unfold backS; rw [List.length_set, backS_length st0 st vs]
theorem wipeS_some {st : Sl} {i : Nat} {x : R} : ∀ {vs : List Nat}, (wipeS st vs)[i]? = some (some x) → st[i]? = some (some x) ∧ i ∉ vs
  | [], h => ⟨h, by simp⟩
  | v :: vs, h => by
    unfold wipeS at h
    rw [List.getElem?_set] at h
    split at h
    · split at h <;> cases h
    · rename_i ne
      obtain ⟨h1, h2⟩ := wipeS_some h
      exact ⟨h1, by simp only [List.mem_cons, not_or]; exact ⟨fun e => ne e.symm, h2⟩⟩
theorem wipe_other {σ : St} {i : Nat} : ∀ {vs : List Nat}, i ∉ vs → (wipe σ vs)[i]? = σ[i]?
  | [], _ => rfl
  | v :: vs, h => by
    simp only [List.mem_cons, not_or] at h
    unfold wipe
    rw [List.getElem?_set_ne (fun e => h.1 e.symm)]
    exact wipe_other h.2
theorem backS_at {st0 st : Sl} {i : Nat} {x : R} : ∀ {vs : List Nat}, (backS st0 st vs)[i]? = some (some x) → (i ∈ vs ∧ st0[i]? = some (some x)) ∨ (i ∉ vs ∧ st[i]? = some (some x))
  | [], h => .inr ⟨by simp, h⟩
  | v :: vs, h => by
    unfold backS at h
    rw [List.getElem?_set] at h
    split at h
    · rename_i e; subst e
      split at h
      · refine .inl ⟨List.mem_cons_self, ?_⟩
        have h : st0.getD v none = some x := Option.some.inj h
        rw [List.getD_eq_getElem?_getD] at h
        cases q : st0[v]? with
        | none => rw [q] at h; cases h
        | some y => rw [q] at h; exact congrArg some h
      · cases h
    · rename_i ne
      rcases backS_at h with ⟨h1, h2⟩ | ⟨h1, h2⟩
      · exact .inl ⟨List.mem_cons_of_mem _ h1, h2⟩
      · exact .inr ⟨by simp only [List.mem_cons, not_or]; exact ⟨fun e => ne e.symm, h1⟩, h2⟩
theorem Sim.wipe (S : Sim T st σ B F H) (vs : List Nat) : Sim T (wipeS st vs) (L2.wipe σ vs) B F H := by
  refine ⟨S.exB, S.exF, S.dis, S.tup, by rw [wipeS_length, wipe_length]; exact S.len, fun i r h => ?_, fun i r v a h1 h2 h3 => ?_, fun i j r q v u a n h1 h2 h3 h4 h5 h6 => ?_, S.tbs⟩
  · obtain ⟨h1, h2⟩ := wipeS_some h
    obtain ⟨v, a, b⟩ := S.rel i r h1
    exact ⟨v, by rw [wipe_other h2]; exact a, b⟩
  · obtain ⟨g1, g2⟩ := wipeS_some h1
    rw [wipe_other g2] at h2
    exact S.own i r v a g1 h2 h3
  · obtain ⟨g1, g2⟩ := wipeS_some h1
    obtain ⟨g3, g4⟩ := wipeS_some h3
    rw [wipe_other g2] at h2
    rw [wipe_other g4] at h4
    exact S.sep i j r q v u a n g1 h2 g3 h4 h5 h6
def lcL (g : D → Sl → Option Sl) (c : M Bool) (e : M D) (vs : List Nat) : List D → List D → Sl → Option (List D × Sl)
  | [], acc, s => some (acc, s)
  | d :: ds, acc, s => match g d s with
    | none => none
    | some s1 => match c s1 with
      | some (.v true, s2) => (match e s2 with
        | some (.v y, s3) => if acc.length < sizeLine then lcL g c e vs ds (acc ++ [y]) (wipeS s3 vs) else none
        | _ => none)
      | some (.v false, s2) => lcL g c e vs ds acc (wipeS s2 vs)
      | _ => none
def rLc (it : M (List D)) (g : D → Sl → Option Sl) (c : M Bool) (e : M D) (vs : List Nat) : M R := fun st => match it st with
  | some (.v ds, s) => if vs.all (fun i => !isOwned (s.getD i none)) then (match lcL g c e vs ds [] (wipeS s vs) with
      | some (ys, s') => some (.v (.ol ys), backS s s' vs)
      | none => none) else none
  | some (.x c, s) => some (.x c, s)
  | none => none
def cYes : M Bool := ret true
theorem semT_yes : SemT T E tYes cYes := by
  intro st σ B F H S o s h Q hQ
  cases h
  exact hQ B H (Ex.refl B) S
def SemGB (T : Tab) (vs : List Nat) (g : TG) (gf : D → Sl → Option Sl) : Prop := ∀ st σ B F H, Sim T st σ B F H → ∀ d v s, Rep T B d v → gf d st = some s → ∀ Q : St → Hp → Prop, (∀ σ', L2.wipe σ' vs = L2.wipe σ vs → Sim T s σ' B F H → Q σ' H) → g v σ H Q
theorem semR_lc {wi : TI} {it : M (List D)} {g : TG} {gf : D → Sl → Option Sl} {tt : TT} {c : M Bool} {te : TE} {e : M D} {vs : List Nat} (hi : SemI T E wi it) (hg : SemGB T vs g gf) (hc : SemT T (fun _ => E0) tt c) (he : SemE T (fun _ => E0) te e) (idem : ∀ σ : St, L2.wipe (L2.wipe σ vs) vs = L2.wipe σ vs) :
    SemR T E (tLc wi g tt te vs) (rLc it gf c e vs) := by
  intro st σ B F H S o s h Q hQ
  unfold rLc at h
  split at h
  · rename_i ds s0 e0
    split at h
    · rename_i hno
      split at h
      · rename_i ys s' el
        cases h
        refine hi st σ B F H S _ _ e0 _ fun B1 H1 x1 S1 J hJ D hD => ?_
        have Sw := S1.wipe vs
        have SD : Sim T (some (.ol []) :: wipeS s0 vs) (some (.ref D) :: L2.wipe σ vs) B1 F (upd H1 D (.lst [])) := Sw.alloc hD (fun _ z => nomatch z) (relR_ol upd_same reps_nil)
        refine ⟨fun i m H2 => i ≤ ds.length ∧ m = ds.length - i ∧ ∃ acc sI B2, Ex B1 B2 ∧ Sim T (some (.ol acc) :: sI) (some (.ref D) :: L2.wipe σ vs) B2 F H2 ∧ lcL gf c e vs (ds.drop i) acc sI = some (ys, s'), ⟨ds.length, Nat.zero_le _, by omega, [], _, B1, Ex.refl _, SD, el⟩, ?_⟩
        rintro i m H2 ⟨hle, rfl, acc, sI, B2, x2, S2, h2⟩
        by_cases hlt : i < ds.length
        · refine .inr ⟨hJ.go i H2 hlt (x2.trans S2.exB), ?_⟩
          rw [List.drop_eq_getElem_cons hlt] at h2
          have hget : ds[i]? = some ds[i] := List.getElem?_eq_getElem hlt
          generalize ds[i] = d at h2 hget
          unfold lcL at h2
          split at h2
          · cases h2
          · rename_i s3 eg
            refine ⟨fun H' => ∃ m', m' < ds.length - i ∧ (i + 1 ≤ ds.length ∧ m' = ds.length - (i + 1) ∧ ∃ acc sI B2, Ex B1 B2 ∧ Sim T (some (.ol acc) :: sI) (some (.ref D) :: L2.wipe σ vs) B2 F H' ∧ lcL gf c e vs (ds.drop (i + 1)) acc sI = some (ys, s')), fun H' z => z, fun x H3 hy => ?_⟩
            obtain ⟨B3, x3, hx⟩ := hJ.yld i d H2 x H3 B2 hget x2 S2.exB hy
            have S3 := S2.ext x3
            have S3h := S3.hide rfl
            refine hg sI _ B3 _ H3 S3h d x s3 hx eg _ fun σ4 k4 S4 => ⟨by rw [k4, idem], ?_⟩
            split at h2
            · rename_i s5 ec
              refine hc s3 σ4 B3 _ H3 S4 _ _ ec _ fun B5 H5 x5 S5 => ?_
              show if true = true then _ else _
              rw [if_pos rfl]
              split at h2
              · rename_i y s6 ee
                split at h2
                · rename_i hsz
                  refine he s5 σ4 B5 _ H5 S5 _ _ ee _ fun B6 H6 x6 S6 v hv => ?_
                  have SU := S3.unhide rfl (x5.trans x6) S6
                  obtain ⟨p, ws, ep, hp, hr⟩ := SU.top
                  cases ep
                  refine ⟨ws, hp, by rw [← hr.length]; exact hsz, _, by omega, hlt, rfl, acc ++ [y], wipeS s6 vs, B6, x2.trans (x3.b.trans (x5.trans x6)), ?_, h2⟩
                  have SC := SU.change (i := 0) (r' := .ol (acc ++ [y])) (o := .lst (ws ++ [v])) rfl rfl rfl (fun _ z => nomatch z) ⟨_, _, rfl, upd_same, hr.append (reps_cons hv reps_nil)⟩
                  have SC' : Sim T (some (.ol (acc ++ [y])) :: s6) (some (.ref D) :: σ4) B6 F (upd H6 D (.lst (ws ++ [v]))) := SC
                  have SW := (SC'.hide rfl).wipe vs
                  rw [k4, idem] at SW
                  exact SC'.unhide rfl (Ex.refl _) SW
                · cases h2
              · cases h2
            · rename_i s5 ec
              refine hc s3 σ4 B3 _ H3 S4 _ _ ec _ fun B5 H5 x5 S5 => ?_
              show if false = true then _ else _
              rw [if_neg Bool.false_ne_true]
              refine ⟨_, by omega, hlt, rfl, acc, wipeS s5 vs, B5, x2.trans (x3.b.trans x5), ?_, h2⟩
              have SW := S5.wipe vs
              rw [k4, idem] at SW
              exact S3.unhide rfl x5 SW
            · cases h2
        · have ei : i = ds.length := by omega
          subst ei
          refine .inl ⟨hJ.stop H2 (x2.trans S2.exB), ?_⟩
          rw [List.drop_length] at h2
          cases h2
          refine hQ _ B2 H2 (x1.trans x2) ?_
          have no : ∀ i ∈ vs, isOwned (s0.getD i none) = false := fun i hm => by
            have := List.all_eq_true.mp hno i hm
            simpa using this
          -- the list hidden, the names as they were, the list shown
          have Sh := S2.hide rfl
          have Sh0 : Sim T s' (L2.wipe σ vs) B2 (addF F H2 D) H2 := Sh
          have key : Sim T (backS s0 s' vs) σ B2 (addF F H2 D) H2 := by
            have dd : ∀ {i : Nat} {r : R}, i ∈ vs → s0[i]? = some (some r) → ∃ x, r = .d x := fun {i r} h1 h2 => by
              have := no i h1
              rw [List.getD_eq_getElem?_getD, h2] at this
              cases r with
              | d x => exact ⟨x, rfl⟩
              | _ => cases this
            refine ⟨Sh0.exB, Sh0.exF, Sh0.dis, Sh0.tup, by rw [backS_length]; have := Sh0.len; rwa [wipe_length] at this, fun i r h => ?_, fun i r v a h1 h2 h3 => ?_, fun i j r q v u a n h1 h2 h3 h4 h5 h6 => ?_, Sh0.tbs⟩
            · rcases backS_at h with ⟨h1, h2⟩ | ⟨h1, h2⟩
              · obtain ⟨x, rfl⟩ := dd h1 h2
                obtain ⟨v, a, b⟩ := S1.rel i _ h2
                exact ⟨v, a, Rep.mono x2 x b⟩
              · obtain ⟨v, a, b⟩ := Sh0.rel i r h2
                exact ⟨v, by rw [← wipe_other h1]; exact a, b⟩
            · rcases backS_at h1 with ⟨g1, g2⟩ | ⟨g1, g2⟩
              · obtain ⟨x, rfl⟩ := dd g1 g2; exact h3.elim
              · exact Sh0.own i r v a g2 (by rw [wipe_other g1]; exact h2) h3
            · rcases backS_at h1 with ⟨g1, g2⟩ | ⟨g1, g2⟩
              · obtain ⟨x, rfl⟩ := dd g1 g2; exact h5.elim
              · rcases backS_at h3 with ⟨g3, g4⟩ | ⟨g3, g4⟩
                · obtain ⟨x, rfl⟩ := dd g3 g4; exact h6.elim
                · exact Sh0.sep i j r q v u a n g2 (by rw [wipe_other g1]; exact h2) g4 (by rw [wipe_other g3]; exact h4) h5 h6
          exact S2.unhide rfl (Ex.refl _) key
      · cases h
    · cases h
  · rename_i c s0 e0
    cases h
    exact hi st σ B F H S _ _ e0 _ fun d B1 H1 x1 S1 => hQ d B1 H1 x1 S1
  · cases h
theorem semGB_name {vs : List Nat} {i : Nat} (hw : ∀ (σ : St) x, L2.wipe (σ.set i (some x)) vs = L2.wipe σ vs) : SemGB T vs (gName i) (gN i) := by
  intro st σ B F H S d v s r h Q q
  cases h
  exact q _ (hw σ v) (Sim.store (S.push r) i)
end
end Fz
set_option Elab.async false
set_option linter.all false
set_option maxRecDepth 100000
set_option maxHeartbeats 2000000
namespace Fz
open PySem L2
section
variable {ι : Type} (T : Tab) (E : L2.St → XK) (X : ι → Cx)
def XE (e : Expr) (f : M D) : Prop := ∃ te, (∀ i, PE (X i) e te) ∧ SemE T E te f
def XR (e : Expr) (f : M R) : Prop := ∃ te, (∀ i, PE (X i) e te) ∧ SemR T E te f
def XT (e : Expr) (f : M Bool) : Prop := ∃ te, (∀ i, PT (X i) e te) ∧ SemT T E te f
def XW (e : Expr) (f : M Bool) : Prop := ∃ te, (∀ i, PW (X i) e te) ∧ SemT T E te f
def XA (es : List Expr) (f : M (List D)) : Prop := ∃ te, (∀ i, PA (X i) es te) ∧ SemA T E te f
def XAA (es : List Expr) (f : M (List Arg)) : Prop := ∃ te, (∀ i, PA (X i) es te) ∧ SemAA T E te f
def XO (e : Option Expr) (f : M (Option Int)) : Prop := ∃ te, (∀ i, PO (X i) e te) ∧ SemO T E te f
def XI (tg e : Expr) (f : M (List D)) : Prop := ∃ wi, (∀ i, PI (X i) tg e wi) ∧ SemI T E wi f
def XG (kp : Nat → Bool) (tg : Expr) (f : D → Sl → Option Sl) : Prop := ∃ g, (∀ i, PG (X i) tg g) ∧ SemG T kp g f
def XGs (kp : Nat → Bool) (tgs : List Expr) (f : List D → Sl → Option Sl) : Prop := ∃ g, (∀ i, PGs (X i) tgs g) ∧ SemGs T kp g f
def XS (kp : Nat → Bool) (st : Stmt) (f : MS) : Prop := ∃ t, (∀ i, PS (X i) st t) ∧ SemS T E kp t f
def XSs (kp : Nat → Bool) (st : List Stmt) (f : MS) : Prop := ∃ t, (∀ i, PSs (X i) st t) ∧ SemS T E kp t f
end
section
variable {ι : Type} {T : Tab} {E : L2.St → XK} {X : ι → Cx} {kp : Nat → Bool} {pos : Pos} {e a b c : Expr} {es : List Expr} {fa fb fc : M D} {fs : M (List D)} {fl : M (List Arg)} {r : M R} {x : Str}
theorem xe_var (i : Nat) (hN : ∀ j, (X j).N[i]? = some x := by intro j; rfl) (hv : ∀ j, Vis (X j).env.scope x := by intro j; first | exact Or.inl rfl | exact Or.inr (Or.inl rfl) | exact Or.inr (Or.inr rfl))
    (hd : (x == ("__debug__" : Str)) = false := by decide +kernel) (hcd : (x == ("__classdict__" : Str)) = false := by decide +kernel) : XE T E X (.Name x pos) (eVar i) := ⟨_, fun j => pe_var (hN j) (hv j) hd hcd, semE_var⟩
theorem xr_mv (i : Nat) (hN : ∀ j, (X j).N[i]? = some x := by intro j; rfl) (hv : ∀ j, Vis (X j).env.scope x := by intro j; first | exact Or.inl rfl | exact Or.inr (Or.inl rfl) | exact Or.inr (Or.inr rfl))
    (hd : (x == ("__debug__" : Str)) = false := by decide +kernel) (hcd : (x == ("__classdict__" : Str)) = false := by decide +kernel) : XR T E X (.Name x pos) (rMv i) := ⟨_, fun j => pe_var (hN j) (hv j) hd hcd, semR_mv⟩
theorem xe_int {i : Int} {j : Nat} : XE T E X (.Constant (.int i) j pos) (ret (.int i)) := ⟨_, fun _ => pe_int, semE_c fun _ => rfl⟩
theorem xe_bl {b : Bool} {j : Nat} : XE T E X (.Constant (.bool b) j pos) (ret (.bl b)) := ⟨_, fun _ => pe_bl, semE_c fun _ => rfl⟩
theorem xe_str {s : Str} {j : Nat} (h : PyData.strOk s = true := by decide +kernel) : XE T E X (.Constant (.str s) j pos) (ret (.str s)) := ⟨_, fun _ => pe_str, semE_c fun _ => ⟨rfl, h⟩⟩
theorem xe_glob {d : D} {v : V} {u : Value} (hm : ∀ j, (X j).mg x = some u) (r : RelV v u) (hr : ∀ B, Rep T B d v) (hg : ∀ j, Gl (X j) x := by intro j; rfl) (hd : (x == ("__debug__" : Str)) = false := by decide +kernel) : XE T E X (.Name x pos) (ret d) :=
  ⟨_, fun j => pe_glob (hg j) (hm j) r hd, semE_c hr⟩
theorem xe_fz (h : XR T E X e r) : XE T E X e (eFz (fun c => (T.flds c).length) r) := let ⟨_, h1, h2⟩ := h; ⟨_, h1, semE_fz h2⟩
theorem xr_d (h : XE T E X e fa) : XR T E X e (rD fa) := let ⟨_, h1, h2⟩ := h; ⟨_, h1, semR_d h2⟩
theorem xe_full (h : XE T E X e fa) : XE T E X e (eFull (fun c => (T.flds c).length) fa) := let ⟨_, h1, h2⟩ := h; ⟨_, h1, semE_all h2⟩
theorem xr_full (h : XR T E X e r) : XR T E X e (rFull (fun c => (T.flds c).length) r) := let ⟨_, h1, h2⟩ := h; ⟨_, h1, semR_all h2⟩
theorem xe_bin {op : Operator} {rr : R2} {g : D → D → Option D} (ho : ∀ j, OpR (X j) (binaryOp op) rr) (hp : Prim2 T rr g) (ha : XE T E X a fa) (hb : XE T E X b fb) : XE T E X (.BinOp a op b pos) (eBin g fa fb) :=
  let ⟨_, a1, a2⟩ := ha; let ⟨_, b1, b2⟩ := hb; ⟨_, fun j => pe_op (ho j) (a1 j) (b1 j), semE_op hp a2 b2⟩
theorem xe_add (hK : ∀ j, (X j).K = T.K := by intro j; rfl) (ha : XE T E X a fa) (hb : XE T E X b fb) : XE T E X (.BinOp a .Add b pos) (eBin dAdd fa fb) := xe_bin (fun j => by rw [← hK j]; exact op_addA) p_add ha hb
theorem xe_sub (ha : XE T E X a fa) (hb : XE T E X b fb) : XE T E X (.BinOp a .Sub b pos) (eBin dSub fa fb) := xe_bin (fun j => op_sub) p_sub ha hb
theorem xe_mul (ha : XE T E X a fa) (hb : XE T E X b fb) : XE T E X (.BinOp a .Mult b pos) (eBin dMul fa fb) := xe_bin (fun j => op_mul) p_mul ha hb
theorem xe_mod (ha : XE T E X a fa) (hb : XE T E X b fb) : XE T E X (.BinOp a .Mod b pos) (eBin dMod fa fb) := xe_bin (fun j => op_mod) p_mod ha hb
theorem xe_div (ha : XE T E X a fa) (hb : XE T E X b fb) : XE T E X (.BinOp a .FloorDiv b pos) (eBin dDiv fa fb) := xe_bin (fun j => op_fdiv) p_div ha hb
theorem xe_neg (ha : XE T E X a fa) : XE T E X (.UnaryOp .USub a pos) (eUn (fun x => match x with | .int i => some (.int (-i)) | _ => none) fa) := by
  obtain ⟨_, a1, a2⟩ := ha
  refine ⟨_, fun j => pe_un un_neg (a1 j), semE_un (fun x z vx B H Q e hx hz k => ?_) a2⟩
  split at hz
  · cases hz; cases rep_int hx
    exact ⟨_, rfl, k _ B H (.refl e) rfl⟩
  · cases hz
theorem xe_cmp {op : CmpOp} {rr : R2} {g : D → D → Option D} (ho : ∀ j, OpR (X j) (compareOp op) rr) (hp : Prim2 T rr g) (hm : behindInMarks op b = false) (ha : XE T E X a fa) (hb : XE T E X b fb) : XE T E X (.Compare a [op] [b] pos) (eBin g fa fb) :=
  let ⟨_, a1, a2⟩ := ha; let ⟨_, b1, b2⟩ := hb; ⟨_, fun j => pe_cmpR (ho j) (a1 j) (b1 j) hm, semE_op hp a2 b2⟩
def Rm (X : ι → Cx) : Prop := ∀ j, (X j).A.units + 65 < cLine
theorem xe_eq (hu : Rm X) (hK : ∀ j, (X j).K = T.K := by intro j; rfl) (ha : XE T E X a fa) (hb : XE T E X b fb) : XE T E X (.Compare a [.Eq] [b] pos) (eBin dEq fa fb) := xe_cmp (fun j => by rw [← hK j]; exact op_eqD (by have := hu j; omega)) p_eq (nomark _) ha hb
theorem xe_gt (ha : XE T E X a fa) (hb : XE T E X b fb) : XE T E X (.Compare a [.Gt] [b] pos) (eBin dGt fa fb) := xe_cmp (fun j => op_gtA) p_gt (nomark _) ha hb
theorem xe_in (hu : Rm X) (hK : ∀ j, (X j).K = T.K := by intro j; rfl) (hm : behindInMarks .In b = false := by rfl) (ha : XE T E X a fa) (hb : XE T E X b fb) : XE T E X (.Compare a [.In] [b] pos) (eBin dIn fa fb) := xe_cmp (fun j => by rw [← hK j]; exact op_inA (hu j)) p_in hm ha hb
def eTst (f : M D) : M Bool := bnd f fun x => opt (match x with | .bl b => some b | _ => none)
theorem semT_tst {te : TE} (h : SemE T E te fa) : SemT T E (tTest te) (eTst fa) := by
  intro st σ B F H S o s hf Q hQ
  refine okx_bnd hf hQ (fun o1 s1 e1 q => h st σ B F H S o1 s1 e1 _ q) fun a s1 B1 H1 _ h2 e1 S1 hQ1 v hv => ?_
  obtain ⟨z, hz, rfl, rfl⟩ := opt_some h2
  split at hz
  · cases hz; cases rep_bl hv
    exact ⟨_, rfl, hQ1 B1 H1 (Ex.refl _) S1⟩
  · cases hz
theorem xt_cmp {op : CmpOp} {rr : R2} {g : D → D → Option D} (ho : ∀ j, OpR (X j) (compareOp op) rr) (hp : Prim2 T rr g) (hm : behindInMarks op b = false) (ha : XE T E X a fa) (hb : XE T E X b fb) : XT T E X (.Compare a [op] [b] pos) (eTst (eBin g fa fb)) :=
  let ⟨_, a1, a2⟩ := ha; let ⟨_, b1, b2⟩ := hb; ⟨_, fun j => pt_cmpR (ho j) (a1 j) (b1 j) hm, semT_tst (semE_op hp a2 b2)⟩
theorem xt_eq (hu : Rm X) (hK : ∀ j, (X j).K = T.K := by intro j; rfl) (ha : XE T E X a fa) (hb : XE T E X b fb) : XT T E X (.Compare a [.Eq] [b] pos) (eTst (eBin dEq fa fb)) := xt_cmp (fun j => by rw [← hK j]; exact op_eqD (by have := hu j; omega)) p_eq (nomark _) ha hb
theorem xt_ne (hu : Rm X) (hK : ∀ j, (X j).K = T.K := by intro j; rfl) (ha : XE T E X a fa) (hb : XE T E X b fb) : XT T E X (.Compare a [.NotEq] [b] pos) (eTst (eBin dNe fa fb)) := xt_cmp (fun j => by rw [← hK j]; exact op_neD (by have := hu j; omega)) p_ne (nomark _) ha hb
theorem xt_lt (ha : XE T E X a fa) (hb : XE T E X b fb) : XT T E X (.Compare a [.Lt] [b] pos) (eTst (eBin dLt fa fb)) := xt_cmp (fun j => op_ltA) p_lt (nomark _) ha hb
theorem xt_gt (ha : XE T E X a fa) (hb : XE T E X b fb) : XT T E X (.Compare a [.Gt] [b] pos) (eTst (eBin dGt fa fb)) := xt_cmp (fun j => op_gtA) p_gt (nomark _) ha hb
theorem xt_in (hu : Rm X) (hK : ∀ j, (X j).K = T.K := by intro j; rfl) (hm : behindInMarks .In b = false := by rfl) (ha : XE T E X a fa) (hb : XE T E X b fb) : XT T E X (.Compare a [.In] [b] pos) (eTst (eBin dIn fa fb)) := xt_cmp (fun j => by rw [← hK j]; exact op_inA (hu j)) p_in hm ha hb
theorem xt_notIn (hu : Rm X) (hK : ∀ j, (X j).K = T.K := by intro j; rfl) (hm : behindInMarks .NotIn b = false := by rfl) (ha : XE T E X a fa) (hb : XE T E X b fb) : XT T E X (.Compare a [.NotIn] [b] pos) (eTst (eBin dNotIn fa fb)) := xt_cmp (fun j => by rw [← hK j]; exact op_notInA (hu j)) p_notIn hm ha hb
theorem xt_val (ha : XE T E X e fa) (he : ∀ j whole, isTrue e (X j).env whole = (do let v ← whole; standAt e.pos; holding [v] (truthy v)) := by intro _ _; rfl) : XT T E X e (eTst fa) :=
  let ⟨_, a1, a2⟩ := ha; ⟨_, fun j => pt_val (a1 j) (he j), semT_tst a2⟩
def eChain (g g' : D → D → Option D) (fa fb fc : M D) : M D := bnd fa fun x => bnd fb fun y => bnd (opt (g x y)) fun z => match z with
  | .bl true => bnd fc fun w => opt (g' y w)
  | .bl false => ret (.bl false)
  | _ => fun _ => none
def cAnd (f g : M Bool) : M Bool := bnd f fun b => if b = true then g else ret false
def cOr (f g : M Bool) : M Bool := bnd f fun b => if b = true then ret true else g
def cNot (f : M Bool) : M Bool := bnd f fun b => ret !b
variable {f g : M Bool} {rest : List Expr}
theorem semT_and {t u : TT} (h1 : SemT T E t f) (h2 : SemT T E u g) : SemT T E (tAnd t u) (cAnd f g) := by
  intro st σ B F H S o s h Q hQ
  refine okx_bnd h hQ (fun o1 s1 e1 q => h1 st σ B F H S o1 s1 e1 _ q) fun b s1 B1 H1 _ h3 e1 S1 hQ1 => ?_
  cases b with
  | true => exact h2 s1 σ B1 F H1 S1 o s h3 Q hQ1
  | false => cases h3; exact hQ1 B1 H1 (Ex.refl _) S1
theorem semT_or {t u : TT} (h1 : SemT T E t f) (h2 : SemT T E u g) : SemT T E (tOr t u) (cOr f g) := by
  intro st σ B F H S o s h Q hQ
  refine okx_bnd h hQ (fun o1 s1 e1 q => h1 st σ B F H S o1 s1 e1 _ q) fun b s1 B1 H1 _ h3 e1 S1 hQ1 => ?_
  cases b with
  | false => exact h2 s1 σ B1 F H1 S1 o s h3 Q hQ1
  | true => cases h3; exact hQ1 B1 H1 (Ex.refl _) S1
theorem semT_not {t : TT} (h1 : SemT T E t f) : SemT T E (tNot t) (cNot f) := by
  intro st σ B F H S o s h Q hQ
  refine okx_bnd h hQ (fun o1 s1 e1 q => h1 st σ B F H S o1 s1 e1 _ q) fun b s1 B1 H1 _ h3 e1 S1 hQ1 => ?_
  cases h3
  exact hQ1 B1 H1 (Ex.refl _) S1
theorem xw_and1 (ha : XT T E X a f) : XW T E X (.BoolOp .And [a] pos) f := let ⟨_, a1, a2⟩ := ha; ⟨_, fun j => pw_and1 (a1 j), a2⟩
theorem xw_or1 (ha : XT T E X a f) : XW T E X (.BoolOp .Or [a] pos) f := let ⟨_, a1, a2⟩ := ha; ⟨_, fun j => pw_or1 (a1 j), a2⟩
theorem xw_and (ha : XT T E X a f) (hb : XW T E X (.BoolOp .And (b :: rest) pos) g) : XW T E X (.BoolOp .And (a :: b :: rest) pos) (cAnd f g) := let ⟨_, a1, a2⟩ := ha; let ⟨_, b1, b2⟩ := hb; ⟨_, fun j => pw_and (a1 j) (b1 j), semT_and a2 b2⟩
theorem xw_or (ha : XT T E X a f) (hb : XW T E X (.BoolOp .Or (b :: rest) pos) g) : XW T E X (.BoolOp .Or (a :: b :: rest) pos) (cOr f g) := let ⟨_, a1, a2⟩ := ha; let ⟨_, b1, b2⟩ := hb; ⟨_, fun j => pw_or (a1 j) (b1 j), semT_or a2 b2⟩
theorem xt_w (h : XW T E X e f) : XT T E X e f := let ⟨_, a1, a2⟩ := h; ⟨_, fun j => (a1 j).pt, a2⟩
theorem xt_not (ha : XT T E X a f) : XT T E X (.UnaryOp .Not a pos) (cNot f) := let ⟨_, a1, a2⟩ := ha; ⟨_, fun j => pt_not (a1 j), semT_not a2⟩
def eAnd (fa fb : M D) : M D := bnd fa fun x => match x with
  | .bl true => fb
  | .bl false => ret (.bl false)
  | _ => fun _ => none
def eOr (fa fb : M D) : M D := bnd fa fun x => match x with
  | .bl false => fb
  | .bl true => ret (.bl true)
  | _ => fun _ => none
def eNot (fa : M D) : M D := bnd fa fun x => opt (match x with | .bl b => some (.bl !b) | _ => none)
theorem semE_and {ta tb : TE} (ha : SemE T E ta fa) (hb : SemE T E tb fb) : SemE T E (tAndV ta tb) (eAnd fa fb) := by
  intro st σ B F H S o s h Q hQ
  refine okx_bnd h hQ (fun o1 s1 e1 q => ha st σ B F H S o1 s1 e1 _ q) fun a s1 B1 H1 _ h2 e1 S1 hQ1 v hv => ?_
  split at h2
  · cases rep_bl hv
    refine ⟨true, rfl, ?_⟩
    rw [if_pos rfl]
    exact hb s1 σ B1 F H1 S1 o s h2 Q hQ1
  · cases rep_bl hv
    refine ⟨false, rfl, ?_⟩
    rw [if_neg Bool.false_ne_true]
    cases h2
    exact hQ1 B1 H1 (Ex.refl _) S1 _ rfl
  · cases h2
theorem semE_or {ta tb : TE} (ha : SemE T E ta fa) (hb : SemE T E tb fb) : SemE T E (tOrV ta tb) (eOr fa fb) := by
  intro st σ B F H S o s h Q hQ
  refine okx_bnd h hQ (fun o1 s1 e1 q => ha st σ B F H S o1 s1 e1 _ q) fun a s1 B1 H1 _ h2 e1 S1 hQ1 v hv => ?_
  split at h2
  · cases rep_bl hv
    refine ⟨false, rfl, ?_⟩
    rw [if_neg Bool.false_ne_true]
    exact hb s1 σ B1 F H1 S1 o s h2 Q hQ1
  · cases rep_bl hv
    refine ⟨true, rfl, ?_⟩
    rw [if_pos rfl]
    cases h2
    exact hQ1 B1 H1 (Ex.refl _) S1 _ rfl
  · cases h2
theorem semE_not {ta : TE} (ha : SemE T E ta fa) : SemE T E (tNotV ta) (eNot fa) := by
  intro st σ B F H S o s h Q hQ
  refine okx_bnd h hQ (fun o1 s1 e1 q => ha st σ B F H S o1 s1 e1 _ q) fun a s1 B1 H1 _ h2 e1 S1 hQ1 v hv => ?_
  obtain ⟨z, hz, rfl, rfl⟩ := opt_some h2
  split at hz
  · cases hz; cases rep_bl hv
    exact ⟨_, rfl, hQ1 B1 H1 (Ex.refl _) S1 _ rfl⟩
  · cases hz
theorem xe_one {op : BoolOp} (ha : XE T E X a fa) : XE T E X (.BoolOp op [a] pos) fa := let ⟨_, a1, a2⟩ := ha; ⟨_, fun j => pe_one (a1 j), a2⟩
theorem xe_and (ha : XE T E X a fa) (hb : XE T E X (.BoolOp .And (b :: rest) pos) fb) : XE T E X (.BoolOp .And (a :: b :: rest) pos) (eAnd fa fb) := let ⟨_, a1, a2⟩ := ha; let ⟨_, b1, b2⟩ := hb; ⟨_, fun j => pe_and (a1 j) (b1 j), semE_and a2 b2⟩
theorem xe_or (ha : XE T E X a fa) (hb : XE T E X (.BoolOp .Or (b :: rest) pos) fb) : XE T E X (.BoolOp .Or (a :: b :: rest) pos) (eOr fa fb) := let ⟨_, a1, a2⟩ := ha; let ⟨_, b1, b2⟩ := hb; ⟨_, fun j => pe_or (a1 j) (b1 j), semE_or a2 b2⟩
theorem xe_not (ha : XE T E X a fa) : XE T E X (.UnaryOp .Not a pos) (eNot fa) := let ⟨_, a1, a2⟩ := ha; ⟨_, fun j => pe_not (a1 j), semE_not a2⟩
def rIf (c : M Bool) (p q : M R) : M R := bnd c fun b => if b = true then p else q
def eIf (c : M Bool) (p q : M D) : M D := bnd c fun b => if b = true then p else q
theorem xa_nil : XA T E X [] eNil := ⟨_, fun _ => pa_nil, semA_nil⟩
theorem xa_cons (ha : XE T E X e fa) (hr : XA T E X es fs) (hs : ∀ j, starEach (e :: es) (X j).env = (false, eval e (X j).env) :: starEach es (X j).env := by intro j; rfl) : XA T E X (e :: es) (eCons fa fs) := let ⟨_, a1, a2⟩ := ha; let ⟨_, b1, b2⟩ := hr; ⟨_, fun j => pa_cons (a1 j) (b1 j) (hs j), semA_cons a2 b2⟩
theorem xaa_nil : XAA T E X [] aNil := ⟨_, fun _ => pa_nil, semAA_nil⟩
theorem xaa_v (ha : XE T E X e fa) (hr : XAA T E X es fl) (hs : ∀ j, starEach (e :: es) (X j).env = (false, eval e (X j).env) :: starEach es (X j).env := by intro j; rfl) : XAA T E X (e :: es) (aV fa fl) := let ⟨_, a1, a2⟩ := ha; let ⟨_, b1, b2⟩ := hr; ⟨_, fun j => pa_cons (a1 j) (b1 j) (hs j), semAA_v a2 b2⟩
theorem xe_tup {k : Nat} (h : XA T E X es fs) : XE T E X (.Tuple es k pos) (eTup fs) := let ⟨_, a1, a2⟩ := h; ⟨_, fun j => pe_tup (a1 j), semE_tup a2⟩
theorem xr_lst (h : XA T E X es fs) : XR T E X (.List es pos) (rLst fs) := let ⟨_, a1, a2⟩ := h; ⟨_, fun j => pe_lst (a1 j), semR_lst a2⟩
theorem xe_ix (hK : ∀ j, (X j).K = T.K := by intro j; rfl) (ha : XE T E X a fa) (hb : XE T E X b fb) (hs : PlainIx b := by exact fun _ _ => rfl) : XE T E X (.Subscript a b pos) (eBin dIx fa fb) :=
  let ⟨_, a1, a2⟩ := ha; let ⟨_, b1, b2⟩ := hb; ⟨_, fun j => pe_ix (by rw [← hK j]; exact ix_seq) (a1 j) (b1 j) hs, semE_op p_ix a2 b2⟩
theorem xo_none : XO T E X none oNone := ⟨_, fun _ => po_none, semO_none⟩
theorem xo_some (h : XE T E X e fa) : XO T E X (some e) (oSome fa) := let ⟨_, a1, a2⟩ := h; ⟨_, fun j => po_some (a1 j), semO_some a2⟩
theorem xe_sl {lo hi : Option Expr} {fl fh : M (Option Int)} {p2 : Pos} (hK : ∀ j, (X j).K = T.K := by intro j; rfl) (ha : XE T E X e fa) (hl : XO T E X lo fl) (hh : XO T E X hi fh) : XE T E X (.Subscript e (.Slice lo hi none p2) pos) (eSl fa fl fh) :=
  let ⟨_, a1, a2⟩ := ha; let ⟨_, b1, b2⟩ := hl; let ⟨_, c1, c2⟩ := hh; ⟨_, fun j => pe_slice (by rw [← hK j]; exact sl_ts) (a1 j) (b1 j) (c1 j), semE_sl a2 b2 c2⟩
theorem xr_sl {lo hi : Option Expr} {fl fh : M (Option Int)} {p2 : Pos} (hK : ∀ j, (X j).K = T.K := by intro j; rfl) (ha : XE T E X e fa) (hl : XO T E X lo fl) (hh : XO T E X hi fh) : XR T E X (.Subscript e (.Slice lo hi none p2) pos) (rSlL' fa fl fh) :=
  let ⟨_, a1, a2⟩ := ha; let ⟨_, b1, b2⟩ := hl; let ⟨_, c1, c2⟩ := hh; ⟨_, fun j => pe_slice (by rw [← hK j]; exact sl_list) (a1 j) (b1 j) (c1 j), semR_sl a2 b2 c2⟩
theorem xe_callB {id : String} {rr : List V → Hp → VK → Prop} {g : List D → Option D} {p : Pos} (hc : ∀ j, CallR (X j) (.builtin id) rr) (hp : PrimN T rr g) (hm : ∀ j, (X j).mg x = none) (hv : bootBuiltins x = some (.builtin id)) (ha : XA T E X (e :: es) fs)
    (hg : ∀ j, Gl (X j) x := by intro j; rfl) (hn : x ≠ "__name__" := by decide +kernel) (hdb : (x == ("__debug__" : Str)) = false := by decide +kernel) (he : ∀ j, starEach (e :: es) (X j).env = (false, eval e (X j).env) :: starEach es (X j).env := by intro j; rfl)
    (hpl : ∀ j, (backTo pos (starEach es (X j).env)).any (·.1) = false := by intro j; rfl) : XE T E X (.Call (.Name x p) (e :: es) [] pos) (eOp g fs) :=
  let ⟨_, a1, a2⟩ := ha; ⟨_, fun j => pe_callB (hc j) (hg j) (hm j) hv (a1 j) hn hdb (he j) (hpl j), semE_callN hp a2⟩
theorem xe_callTy {Ty : String} {rr : List V → Hp → VK → Prop} {g : List D → Option D} {p : Pos} (hc : ∀ j, CallR (X j) (.type Ty) rr) (hp : PrimN T rr g) (hm : ∀ j, (X j).mg x = none) (hv : bootBuiltins x = some (.type Ty)) (ha : XA T E X (e :: es) fs)
    (hg : ∀ j, Gl (X j) x := by intro j; rfl) (hn : x ≠ "__name__" := by decide +kernel) (hdb : (x == ("__debug__" : Str)) = false := by decide +kernel) (he : ∀ j, starEach (e :: es) (X j).env = (false, eval e (X j).env) :: starEach es (X j).env := by intro j; rfl)
    (hpl : ∀ j, (backTo pos (starEach es (X j).env)).any (·.1) = false := by intro j; rfl) : XE T E X (.Call (.Name x p) (e :: es) [] pos) (eOp g fs) :=
  let ⟨_, a1, a2⟩ := ha; ⟨_, fun j => pe_callTy (hc j) (hg j) (hm j) hv (a1 j) hn hdb (he j) (hpl j), semE_callN hp a2⟩
theorem xr_callTy {Ty : String} {rr : List V → Hp → VK → Prop} {g : List D → Option (List D)} {p : Pos} (hc : ∀ j, CallR (X j) (.type Ty) rr) (hp : PrimL T rr g) (hm : ∀ j, (X j).mg x = none) (hv : bootBuiltins x = some (.type Ty)) (ha : XA T E X (e :: es) fs)
    (hg : ∀ j, Gl (X j) x := by intro j; rfl) (hn : x ≠ "__name__" := by decide +kernel) (hdb : (x == ("__debug__" : Str)) = false := by decide +kernel) (he : ∀ j, starEach (e :: es) (X j).env = (false, eval e (X j).env) :: starEach es (X j).env := by intro j; rfl)
    (hpl : ∀ j, (backTo pos (starEach es (X j).env)).any (·.1) = false := by intro j; rfl) : XR T E X (.Call (.Name x p) (e :: es) [] pos) (rOp g fs) :=
  let ⟨_, a1, a2⟩ := ha; ⟨_, fun j => pe_callTy (hc j) (hg j) (hm j) hv (a1 j) hn hdb (he j) (hpl j), semR_callL hp a2⟩
theorem xr_callB {id : String} {rr : List V → Hp → VK → Prop} {g : List D → Option (List D)} {p : Pos} (hc : ∀ j, CallR (X j) (.builtin id) rr) (hp : PrimL T rr g) (hm : ∀ j, (X j).mg x = none) (hv : bootBuiltins x = some (.builtin id)) (ha : XA T E X (e :: es) fs)
    (hg : ∀ j, Gl (X j) x := by intro j; rfl) (hn : x ≠ "__name__" := by decide +kernel) (hdb : (x == ("__debug__" : Str)) = false := by decide +kernel) (he : ∀ j, starEach (e :: es) (X j).env = (false, eval e (X j).env) :: starEach es (X j).env := by intro j; rfl)
    (hpl : ∀ j, (backTo pos (starEach es (X j).env)).any (·.1) = false := by intro j; rfl) : XR T E X (.Call (.Name x p) (e :: es) [] pos) (rOp g fs) :=
  let ⟨_, a1, a2⟩ := ha; ⟨_, fun j => pe_callB (hc j) (hg j) (hm j) hv (a1 j) hn hdb (he j) (hpl j), semR_callL hp a2⟩
variable {tg : Expr}
theorem xi_lst (hK : ∀ j, (X j).K = T.K := by intro j; rfl) (h : XE T E X e fa) : XI T E X tg e (iLst fa) := let ⟨_, a1, a2⟩ := h; ⟨_, fun j => by rw [← hK j]; exact pi_list (a1 j), semI_lst a2⟩
theorem xi_tup (hK : ∀ j, (X j).K = T.K := by intro j; rfl) (h : XE T E X e fa) : XI T E X tg e (iTupl fa) := let ⟨_, a1, a2⟩ := h; ⟨_, fun j => by rw [← hK j]; exact pi_tup (a1 j), semI_tup a2⟩
theorem xi_seq (hK : ∀ j, (X j).K = T.K := by intro j; rfl) (h : XE T E X e fa) : XI T E X tg e (iSeq fa) := by
  obtain ⟨te, a1, a2⟩ := h
  refine ⟨_, fun j => ⟨fun pins s σ H R I h => ?_⟩, semI_seq a2⟩
  rcases h with h | h
  · exact (show PI (X j) tg e (iList T.K te) by rw [← hK j]; exact pi_list (a1 j)).run pins s σ H R I h
  · exact (show PI (X j) tg e (iTup T.K te) by rw [← hK j]; exact pi_tup (a1 j)).run pins s σ H R I h
theorem xi_r1 {p : Pos} (hm : ∀ j, (X j).mg "range" = none) (h : XA T E X [a] fs) (hg : ∀ j, Gl (X j) "range" := by intro j; rfl) (hs : ∀ j, starEach [a] (X j).env = [(false, eval a (X j).env)] := by intro j; rfl) : XI T E X tg (.Call (.Name "range" p) [a] [] pos) (iR1 fs) := let ⟨_, a1, a2⟩ := h; ⟨_, fun j => pi_range1 (hg j) (hm j) (a1 j) (hs j), semI_r1 a2⟩
theorem xi_en {p tpos : Pos} {elts : List Expr} {kk : Nat} (hK : ∀ j, (X j).K = T.K := by intro j; rfl) (hm : ∀ j, (X j).mg "enumerate" = none) (h : XA T E X [a] fs) (hg : ∀ j, Gl (X j) "enumerate" := by intro j; rfl) (hs : ∀ j, starEach [a] (X j).env = [(false, eval a (X j).env)] := by intro j; rfl) : XI T E X (.Tuple elts kk tpos) (.Call (.Name "enumerate" p) [a] [] pos) (iEn fs) := let ⟨_, a1, a2⟩ := h; ⟨_, fun j => by rw [← hK j]; exact pi_enum (hg j) (hm j) (a1 j) (hs j), semI_en a2⟩
theorem xg_name (i : Nat) (hk : kp i = false := by rfl) (hN : ∀ j, (X j).N.Nodup) (hi : ∀ j, (X j).N[i]? = some x := by intro j; rfl) (hx : ∀ j, Loc (X j).env.scope x := by intro j; first | exact Or.inl rfl | exact Or.inr rfl) (hf : ∀ j, (X j).fn x = true ∨ (X j).env.scope.names.lookup x = some .local := by intro j; first | exact .inl rfl | exact .inr rfl) : XG T X kp (.Name x pos) (gN i) :=
  ⟨_, fun j => pg_name (hN j) (hi j) (hx j) (hf j), semG_name hk⟩
theorem xgs_nil : XGs T X kp [] gsN := ⟨_, fun _ => pgs_nil, semGs_nil⟩
theorem xgs_cons {f : D → Sl → Option Sl} {g : List D → Sl → Option Sl} (h1 : XG T X kp e f) (h2 : XGs T X kp es g) (hs : ∀ j, (assignEach (e :: es) (X j).env).map (·.2) = assign e (X j).env :: (assignEach es (X j).env).map (·.2) := by intro j; rfl) : XGs T X kp (e :: es) (gsC f g) := let ⟨_, a1, a2⟩ := h1; let ⟨_, b1, b2⟩ := h2; ⟨_, fun j => pgs_cons (a1 j) (b1 j) (hs j), semGs_cons a2 b2⟩
theorem xg_tup {k n : Nat} {g : List D → Sl → Option Sl} (hK : ∀ j, (X j).K = T.K := by intro j; rfl) (hc : ∀ j, (X j).calm = true := by intro j; rfl) (h : XGs T X kp es g) (hn : ∀ j, (assignEach es (X j).env).length = n := by intro j; rfl) (hst : ∀ j, (assignEach es (X j).env).findIdx? (·.1) = none := by intro j; rfl) : XG T X kp (.Tuple es k pos) (gT n g) := let ⟨_, a1, a2⟩ := h; ⟨_, fun j => by rw [← hK j]; exact pg_tup (hc j) (a1 j) (hn j) (hst j), semG_tup a2⟩
end
end Fz
set_option Elab.async false
set_option linter.all false
set_option maxRecDepth 100000
set_option maxHeartbeats 2000000
namespace Fz
open PySem L2
structure MkN (K : PySem.W.Frag) (C : Addr) : Prop where
  makes : PySem.W.makesIn K C = true
  init : PySem.W.findIn K (.ref C) "__init__" = some (some (.builtin "object.__init__"))
  kp : PySem.W.keepIn K (.ref C) = true
section
variable {X : Cx} {CX : CXT} {k : Nat} {f C : Addr} {fd : FuncData} {ps : List Str} {sp : Sp} {dvs : List V} {ds : List Value} {x m : Str} {p pos apos : Pos} {e o : Expr} {es : List Expr} {ta : TE} {t : TA} {pins : List (Addr × Obj)} {σ : L2.St} {H : Hp} {s : Shared} {Q : VK}
theorem pe_callSD0 {E : L2.St → XK} (F : FnOk X.prog X.w X.K X.mg X.base CX k f fd ps sp) (hr : Room k X.A) (hg : Gl X x) (hm : X.mg x = some (.ref f)) (hk : PySem.W.keepIn X.K (.ref f) = true) (hb : Binds X.K fd ps ds) (hd : Vals dvs ds) (hx : ∀ σ, PassesAt CX X σ (E σ))
    (hdb : (x == ("__debug__" : Str)) = false := by decide) : PE X (.Call (.Name x p) [] [] pos) (tCallSD sp dvs E tNil) := by
  refine ⟨fun pins s σ H Q I h => ?_⟩
  refine wpAny_Call_Name_kw (ld_glob I hg hm ?_ hdb)
  exact PySem.W.callWith_K0 I.kIn hk (run_fnSD (us := []) (vs := []) F hr hb hd (hx σ) I .nil h)
variable {E : XK}
end
section
variable {ι : Type} {T : Tab} {E : L2.St → XK} {X : ι → Cx} {kp : Nat → Bool} {pos apos : Pos} {e a b c o : Expr} {es : List Expr} {fa fb fc : M D} {fs : M (List D)} {fl : M (List Arg)} {r : M R} {x m : Str} {st : Sl} {σ : L2.St} {B F H B' H' : Hp}
def rMakeN (c : Nat) : M R := ret (.oi c [])
structure FunAt (Y : Cx) (T : Tab) (E : L2.St → XK) (x : Str) (n : Nat) (F : Fn) (ds : List Value) : Prop where
  ex : ∃ f fd ps CX k, Y.mg x = some (.ref f) ∧ PySem.W.keepIn Y.K (.ref f) = true ∧ Binds Y.K fd ps ds ∧ FnOk Y.prog Y.w Y.K Y.mg Y.base CX k f fd ps (sp T n F) ∧ Room k Y.A ∧ (∀ σ, PassesAt CX Y σ (E σ))
theorem xr_call {n : Nat} {F : Fn} {ds : List Value} {dvs : List V} {dd : List D} {p : Pos} (hf : ∀ j, FunAt (X j) T E x n F ds) (hd : Vals dvs ds) (hD : ∀ B, Reps T B dd dvs) (ha : XAA T E X (e :: es) fl)
    (hg : ∀ j, Gl (X j) x := by intro j; rfl) (hdb : (x == ("__debug__" : Str)) = false := by decide +kernel) (he : ∀ j, starEach (e :: es) (X j).env = (false, eval e (X j).env) :: starEach es (X j).env := by intro j; rfl) (hpl : ∀ j, (backTo pos (starEach es (X j).env)).any (·.1) = false := by intro j; rfl) :
    XR T E X (.Call (.Name x p) (e :: es) [] pos) (rCall n F dd fl) := by
  obtain ⟨t, a1, a2⟩ := ha
  refine ⟨tCallSD (sp T n F) dvs E t, fun j => ?_, semR_call hD a2⟩
  obtain ⟨f, fd, ps, CX, k, h1, h2, h3, h4, h5, h6⟩ := (hf j).ex
  exact pe_callSD h4 h5 (hg j) h1 h2 h3 hd h6 (a1 j) hdb (he j) (hpl j)
theorem xr_call0 {n : Nat} {F : Fn} {ds : List Value} {dvs : List V} {dd : List D} {p : Pos} (hf : ∀ j, FunAt (X j) T E x n F ds) (hd : Vals dvs ds) (hD : ∀ B, Reps T B dd dvs) (hg : ∀ j, Gl (X j) x := by intro j; rfl) (hdb : (x == ("__debug__" : Str)) = false := by decide +kernel) :
    XR T E X (.Call (.Name x p) [] [] pos) (rCall n F dd aNil) := by
  refine ⟨tCallSD (sp T n F) dvs E tNil, fun j => ?_, semR_call hD semAA_nil⟩
  obtain ⟨f, fd, ps, CX, k, h1, h2, h3, h4, h5, h6⟩ := (hf j).ex
  exact pe_callSD0 h4 h5 (hg j) h1 h2 h3 hd h6 hdb
structure MethAt (Y : Cx) (T : Tab) (E : L2.St → XK) (c : Nat) (m : Str) (n : Nat) (F : Fn) : Prop where
  ex : ∃ f fd ps CX k, Cls Y.K (T.cls c) ∧ Meth Y.K (T.cls c) m f ∧ Binds Y.K fd ps [] ∧ FnOk Y.prog Y.w Y.K Y.mg Y.base CX k f fd ps (sp T n F) ∧ Room k Y.A ∧ (∀ σ, PassesAt CX Y σ (E σ)) ∧ m ∉ T.flds c
def rMeth (n : Nat) (tab : Nat → Option Fn) (fa : M D) (fl : M (List Arg)) : M R := fun st => match fa st with
  | some (.v (.obj c fs), s1) => (match tab c with
    | some F => (bnd fl fun as => if as.length + 1 = n then callF F (.v (.obj c fs) :: as) else fun _ => none) s1
    | none => none)
  | _ => none
def upA : Arg → Arg
  | .o i => .o (i + 1)
  | .v x => .v x
def rMake (c nf n : Nat) (F : Fn) (fl : M (List Arg)) : M R := bnd fl fun as => fun st => if as.length + 1 = n then (match callF F (.o 0 :: as.map upA) (some (.oi c []) :: st) with
  | some (.v (.d .non), some (.oi c' fs) :: s) => if c' = c ∧ fs.length = nf then some (.v (.oi c fs), s) else none
  | some (.x k, _ :: s) => some (.x k, s)
  | _ => none) else none
structure MakeAt (Y : Cx) (T : Tab) (E : L2.St → XK) (x : Str) (c n : Nat) (F : Fn) : Prop where
  ex : ∃ f fd ps CX k, Y.mg x = some (.ref (T.cls c)) ∧ Mk Y.K (T.cls c) f ∧ Binds Y.K fd ps [] ∧ FnOk Y.prog Y.w Y.K Y.mg Y.base CX k f fd ps (sp T n F) ∧ Room (k + 1) Y.A ∧ (∀ σ, PassesAt CX Y σ (E σ))
structure ClsOk (T : Tab) (c : Nat) : Prop where
  cls : Cls T.K (T.cls c)
  nd : (T.flds c).Nodup
  small : (T.flds c).length ≤ 100
  no : ∀ f ∈ T.flds c, NoAttr T.K (T.cls c) f
def eFld (ix : Nat → Option Nat) (fa : M D) : M D := bnd fa fun x => opt (match x with
  | .obj c fs => (match ix c with
    | some i => fs[i]?
    | none => none)
  | _ => none)
end
end Fz
set_option Elab.async false
set_option linter.all false
set_option maxRecDepth 100000
set_option maxHeartbeats 2000000
namespace Fz
open PySem L2 PySem.Spec PyProof.Rows
section
variable {ι : Type} {T : Tab} {E : L2.St → XK} {X : ι → Cx} {kp : Nat → Bool} {pos apos : Pos} {e a b c o elt tg iter : Expr} {es : List Expr} {fa fb fc : M D} {fs : M (List D)} {fl : M (List Arg)} {r : M R} {x y m : Str}
abbrev Blk (X : ι → Cx) (scope : Scope) : ι × Shared × Hp × Addr × List (Str × Addr) × List Addr → Cx := fun q => (X q.1).blk q.2.1 q.2.2.1 scope (compEnvC scope q.2.2.2.2.1 q.2.2.2.1 (X q.1).env) q.2.2.2.2.2
def XTs {κ : Type} (T : Tab) (E : L2.St → XK) (Y : κ → Cx) (ifs : List Expr) (f : M Bool) : Prop := ∃ te, (∀ i, PTs (Y i) ifs te) ∧ SemT T E te f
def XGB {κ : Type} (T : Tab) (Y : κ → Cx) (vs : List Nat) (tg : Expr) (f : D → Sl → Option Sl) : Prop := ∃ g, (∀ i, PG (Y i) tg g) ∧ SemGB T vs g f
theorem xts_nil {κ : Type} {Y : κ → Cx} : XTs T E Y [] cYes := ⟨_, fun _ => pts_nil, semT_yes⟩
theorem xts_one {κ : Type} {Y : κ → Cx} {f : M Bool} (h : XT T E Y c f) : XTs T E Y [c] f := let ⟨_, a1, a2⟩ := h; ⟨_, fun j => pts_one (a1 j), a2⟩
theorem wipe_set (i : Nat) : ∀ (vs : List Nat) (σ : L2.St) (v : Option V), i ∈ vs → L2.wipe (σ.set i v) vs = L2.wipe σ vs
  | [], _, _, h => by simp at h
  | w :: vs, σ, v, h => by
    unfold L2.wipe
    rcases List.mem_cons.mp h with rfl | h
    · have : ∀ (vs : List Nat) (σ : L2.St), (L2.wipe (σ.set i v) vs).set i none = (L2.wipe σ vs).set i none := by
        intro vs
        induction vs with
        | nil => intro σ; show (σ.set i v).set i none = σ.set i none; rw [List.set_set]
        | cons w vs ih =>
          intro σ
          unfold L2.wipe
          by_cases e : w = i
          · subst e; rw [List.set_set, List.set_set]; exact ih σ
          · rw [List.set_comm _ _ e, ih σ, List.set_comm _ _ (Ne.symm e)]
      exact this vs σ
    · rw [wipe_set i vs σ v h]
theorem wipe_idem : ∀ (vs : List Nat) (σ : L2.St), L2.wipe (L2.wipe σ vs) vs = L2.wipe σ vs := by
  intro vs
  have gen : ∀ (ws vs : List Nat) (σ : L2.St), (∀ i ∈ ws, i ∈ vs) → L2.wipe (L2.wipe σ ws) vs = L2.wipe σ vs := by
    intro ws
    induction ws with
    | nil => intro vs σ _; rfl
    | cons w ws ih =>
      intro vs σ h
      show L2.wipe ((L2.wipe σ ws).set w none) vs = _
      rw [wipe_set w vs _ none (h w List.mem_cons_self), ih vs σ fun i hi => h i (List.mem_cons_of_mem _ hi)]
  exact fun σ => gen vs vs σ fun _ h => h
theorem xgb_name {κ : Type} {Y : κ → Cx} {vs : List Nat} (i : Nat) (hm : i ∈ vs) (hN : ∀ j, (Y j).N.Nodup) (hi : ∀ j, (Y j).N[i]? = some x := by intro j; rfl) (hx : ∀ j, Loc (Y j).env.scope x := by intro j; first | exact Or.inl rfl | exact Or.inr rfl) (hf : ∀ j, (Y j).fn x = true ∨ (Y j).env.scope.names.lookup x = some .local := by intro j; first | exact .inl rfl | exact .inr rfl) : XGB T Y vs (.Name x pos) (gN i) :=
  ⟨_, fun j => pg_name (hN j) (hi j) (hx j) (hf j), semGB_name fun σ v => wipe_set i vs σ (some v) hm⟩
theorem xr_lc {ifs : List Expr} {scope : Scope} {own : List (Str × Nat)} {it : M (List D)} {gf : D → Sl → Option Sl} {f : M Bool} {fe : M D} (hN : ∀ j, (X j).N.Nodup) (hi : XI T E X tg iter it) (ok : ∀ j, BlkOk (X j).N (X j).env.scope scope own)
    (hg : XGB T (Blk X scope) (own.map (·.2)) tg gf) (ht : XTs T (fun _ => E0) (Blk X scope) ifs f) (he : XE T (fun _ => E0) (Blk X scope) elt fe) (hc : ∀ j, (X j).calm = true := by intro j; rfl) (hs : ∀ j x, foldedSetIterable iter (X j).env x = pure x := by intro _ _; rfl) :
    XR T E X (.ListComp elt [⟨tg, iter, ifs, 0⟩] scope pos) (rLc it gf f fe (own.map (·.2))) := by
  obtain ⟨_, i1, i2⟩ := hi
  obtain ⟨_, g1, g2⟩ := hg
  obtain ⟨_, t1, t2⟩ := ht
  obtain ⟨_, e1, e2⟩ := he
  exact ⟨_, fun j => pe_lc (hc j) (hN j) (i1 j) (ok j) (fun s H C cl fp => g1 (j, s, H, C, cl, fp)) (fun s H C cl fp => t1 (j, s, H, C, cl, fp)) (fun s H C cl fp => e1 (j, s, H, C, cl, fp)) (hs j), semR_lc i2 g2 t2 e2 (wipe_idem _)⟩
variable {st : Stmt} {rest : List Stmt} {f g : MS}
theorem xss_nil : XSs T E X kp [] sNext := ⟨_, fun _ => pss_nil, semS_next⟩
theorem xss_cons (h1 : XS T E X kp st f) (h2 : XSs T E X kp rest g) : XSs T E X kp (st :: rest) (sSeq f g) := let ⟨_, a1, a2⟩ := h1; let ⟨_, b1, b2⟩ := h2; ⟨_, fun j => pss_cons (a1 j) (b1 j), semS_seq a2 b2⟩
theorem xss_one (h1 : XS T E X kp st f) : XSs T E X kp [st] f := let ⟨_, a1, a2⟩ := h1; ⟨_, fun j => pss_one (a1 j), a2⟩
def sNever : MS := fun _ => none
theorem xss_never : XSs T E X kp rest sNever := ⟨_, fun _ => pss_never, fun _ _ _ _ _ _ _ _ h => nomatch h⟩
theorem xs_ct : XS T E X kp (.Continue pos) sCt := ⟨_, fun _ => ps_continue, semS_ct⟩
theorem xs_set (i : Nat) {pos' : Pos} (hN : ∀ j, (X j).N.Nodup) (he : XR T E X e r) (hk : kp i = false := by rfl) (hi : ∀ j, (X j).N[i]? = some x := by intro j; rfl) (hx : ∀ j, Loc (X j).env.scope x := by intro j; first | exact Or.inl rfl | exact Or.inr rfl) (hs : ∀ j, swapsWith e (some (.Name x pos')) pos.line (X j).env = pure false := by intro j; rfl)
    (hf : ∀ j, (X j).fn x = true ∨ (X j).env.scope.names.lookup x = some .local := by intro j; first | exact .inl rfl | exact .inr rfl) : XS T E X kp (.Assign [.Name x pos'] e pos) (sSet i r) :=
  let ⟨_, a1, a2⟩ := he; ⟨_, fun j => ps_set (hN j) (hi j) (hx j) (a1 j) (hs j) (hf j), semS_set hk a2⟩
theorem xs_setLc (i : Nat) {py spos : Pos} {ifs : List Expr} {scope : Scope} {own : List (Str × Nat)} {it : M (List D)} {gf : D → Sl → Option Sl} {f : M Bool} {fe : M D} (hN : ∀ j, (X j).N.Nodup) (hi : XI T E X tg iter it) (ok : ∀ j, BlkOk (X j).N (X j).env.scope scope own)
    (hg : XGB T (Blk X scope) (own.map (·.2)) tg gf) (ht : XTs T (fun _ => E0) (Blk X scope) ifs f) (he : XE T (fun _ => E0) (Blk X scope) elt fe)
    (hsw : ∀ j, swapsWith (.ListComp elt [⟨tg, iter, ifs, 0⟩] scope pos) (some (.Name y py)) spos.line (X j).env = pure true) (hk : kp i = false := by rfl) (hy : ∀ j, (X j).N[i]? = some y := by intro j; rfl) (hyl : ∀ j, (X j).env.scope.names.lookup y = some .local := by intro j; rfl) (hc : ∀ j, (X j).calm = true := by intro j; rfl) (hs : ∀ j x, foldedSetIterable iter (X j).env x = pure x := by intro _ _; rfl) :
    XS T E X kp (.Assign [.Name y py] (.ListComp elt [⟨tg, iter, ifs, 0⟩] scope pos) spos) (sSet i (rLc it gf f fe (own.map (·.2)))) := by
  obtain ⟨_, i1, i2⟩ := hi
  obtain ⟨_, g1, g2⟩ := hg
  obtain ⟨_, t1, t2⟩ := ht
  obtain ⟨_, e1, e2⟩ := he
  exact ⟨_, fun j => ps_setLc (hc j) (hN j) (hy j) (hyl j) (hsw j) (i1 j) (ok j) (fun s H C cl fp => g1 (j, s, H, C, cl, fp)) (fun s H C cl fp => t1 (j, s, H, C, cl, fp)) (fun s H C cl fp => e1 (j, s, H, C, cl, fp)) (hs j), semS_set hk (semR_lc i2 g2 t2 e2 (wipe_idem _))⟩
theorem xs_if {c : Expr} {p q : List Stmt} {fc : M Bool} (hc : XT T E X c fc) (h1 : XSs T E X kp p f) (h2 : XSs T E X kp q g) : XS T E X kp (.If c p q pos) (sIf fc f g) := let ⟨_, c1, c2⟩ := hc; let ⟨_, a1, a2⟩ := h1; let ⟨_, b1, b2⟩ := h2; ⟨_, fun j => ps_if (c1 j) (a1 j) (b1 j), semS_if c2 a2 b2⟩
theorem xs_ret (h : XR T E X e r) : XS T E X kp (.Return (some e) pos) (sRet r) := let ⟨_, a1, a2⟩ := h; ⟨_, fun j => ps_ret (a1 j), semS_ret a2⟩
theorem xs_for {it : M (List D)} {gf : D → Sl → Option Sl} {body : List Stmt} (hi : XI T E X tg iter it) (hg : XG T X kp tg gf) (hb : XSs T E X kp body f) (hp : ∀ j, PassesOwn (model (X j).prog (X j).w) (X j).A (X j).env (X j).xe) (hc : ∀ j, (X j).calm = true := by intro j; rfl) (hs : ∀ j x, foldedSetIterable iter (X j).env x = pure x := by intro _ _; rfl) : XS T E X kp (.For tg iter body [] pos) (sFor it gf f) :=
  let ⟨_, a1, a2⟩ := hi; let ⟨_, b1, b2⟩ := hg; let ⟨_, c1, c2⟩ := hb; ⟨_, fun j => ps_for (hp j) (hc j) (a1 j) (b1 j) (c1 j) (hs j), semS_for a2 b2 c2⟩
theorem xs_while (n : Nat) {c : Expr} {fc : M Bool} {body : List Stmt} (hc : XT T E X c fc) (hb : XSs T E X kp body f) (hp : ∀ j, PassesOwn (model (X j).prog (X j).w) (X j).A (X j).env (X j).xe) : XS T E X kp (.While c body [] pos) (whileL fc f n) := let ⟨_, c1, c2⟩ := hc; let ⟨_, a1, a2⟩ := hb; ⟨_, fun j => ps_while (hp j) (c1 j) (a1 j), semS_while c2 a2 n⟩
def sApp (i : Nat) (m : M D) : MS := fun st => match m st with
  | some (.v x, s) => (match s[i]? with
    | some (some (.ol xs)) => if xs.length < sizeLine then some (.nx, s.set i (some (.ol (xs ++ [x])))) else none
    | _ => none)
  | some (.x c, s) => some (.x c, s)
  | none => none
theorem ty_ol {H : Hp} {p : Addr} {ys : List V} (h : H p = some (.lst ys)) : tyV T.K "list" (.ref p) H := Or.inl ⟨rfl, _, SqL.of h⟩
theorem ol_before {st s1 : Sl} {σ : L2.St} {B F H : Hp} {i : Nat} (S : Sim T st σ B F H) (h : ∃ r, st[i]? = some (some r) ∧ ((∃ xs, r = .ol xs) ∨ ∃ xs, r = .d (.lst xs))) : ∃ p, σ[i]? = some (some (.ref p)) ∧ tyV T.K "list" (.ref p) H := by
  obtain ⟨r, hi, hr⟩ := h
  obtain ⟨v, hv, rel⟩ := S.rel i r hi
  rcases hr with ⟨xs, rfl⟩ | ⟨xs, rfl⟩
  · obtain ⟨p, ys, rfl, hp, _⟩ := rel
    exact ⟨p, hv, ty_ol hp⟩
  · have rel : Rep T B (.lst xs) v := rel
    unfold Rep at rel
    obtain ⟨p, ys, rfl, hp, _⟩ := rel
    exact ⟨p, hv, Or.inl ⟨rfl, _, S.exB.sqL hp⟩⟩
def isL (s : Option (Option R)) : Bool := match s with
  | some (some (.ol _)) => true
  | some (some (.d (.lst _))) => true
  | _ => false
theorem isL_of {s : Option (Option R)} (h : isL s = true) : ∃ r, s = some (some r) ∧ ((∃ xs, r = .ol xs) ∨ ∃ xs, r = .d (.lst xs)) := by
  unfold isL at h
  split at h
  · exact ⟨_, rfl, .inl ⟨_, rfl⟩⟩
  · exact ⟨_, rfl, .inr ⟨_, rfl⟩⟩
  · cases h
def sApp' (i : Nat) (m : M D) : MS := fun st => if isL st[i]? then sApp i m st else none
theorem semS_app {i : Nat} {te : TE} {m : M D} (h : SemE T E te m) : SemS T E kp (tDrop (tBM T.K "list" rAppend (tVar i) (tCons te tNil))) (sApp' i m) := by
  intro st σ B F H S fl s hf D hD
  unfold sApp' at hf
  split at hf
  · rename_i hl
    obtain ⟨p, hv, ty⟩ := ol_before (s1 := st) S (isL_of hl)
    refine ⟨_, hv, ty, ?_⟩
    unfold sApp at hf
    split at hf
    · rename_i x s1 e
      split at hf
      · rename_i xs hi
        split at hf
        · rename_i hsz
          cases hf
          refine h st σ B F H S _ _ e _ fun B1 H1 e1 S1 v hx => ?_
          obtain ⟨u, hu, q, ys, rfl, hq, hr⟩ := S1.rel i _ hi
          rw [hu] at hv; cases hv
          exact ⟨p, ys, v, rfl, rfl, hq, by rw [← hr.length]; exact hsz, hD σ B1 _ e1 (Kp.refl _ _) (S1.change hi hu rfl (fun _ z => nomatch z) ⟨p, _, rfl, upd_same, hr.append (reps_cons hx reps_nil)⟩)⟩
        · cases hf
      · cases hf
    · rename_i c s1 e
      cases hf
      exact h st σ B F H S _ _ e _ fun d B1 H1 e1 S1 => hD d σ B1 H1 e1 (Kp.refl _ _) S1
    · cases hf
  · cases hf
theorem xs_app (i : Nat) {p ap cp : Pos} (h : XE T E X e fa) (hN : ∀ j, (X j).N[i]? = some x := by intro j; rfl) (hvis : ∀ j, Vis (X j).env.scope x := by intro j; first | exact Or.inl rfl | exact Or.inr (Or.inl rfl) | exact Or.inr (Or.inr rfl))
    (hd : (x == ("__debug__" : Str)) = false := by decide +kernel) (hcd : (x == ("__classdict__" : Str)) = false := by decide +kernel) (hK : ∀ j, (X j).K = T.K := by intro j; rfl)
    (hbase : ∀ j, attributeBase (.Name x p) "append" (X j).env (eval (.Name x p) (X j).env) = eval (.Name x p) (X j).env := by intro j; rfl)
    (hfew : ∀ j, ((backTo cp (starEach [e] (X j).env)).all (fun x => !x.1) && (backToKw cp (keywordEach [] (X j).env)).all (fun x => x.1.isSome)
      && decide (([e] : List Expr).length + ([] : List Keyword).length + (if ([] : List Keyword).isEmpty then 0 else 1) < 30)) = true := by intro j; rfl)
    (hline : (ap.endLine == cp.line) = true := by rfl) (hss : ∀ j, starEach [e] (X j).env = (false, eval e (X j).env) :: starEach [] (X j).env := by intro j; rfl) (hplain : ∀ j, (backTo cp (starEach [] (X j).env)).any (·.1) = false := by intro j; rfl)
    (hs : ∀ j, swapsWith (.Call (.Attribute (.Name x p) "append" ap) [e] [] cp) none pos.line (X j).env = pure false := by intro j; rfl) : XS T E X kp (.Expr (.Call (.Attribute (.Name x p) "append" ap) [e] [] cp) pos) (sApp' i fa) := by
  obtain ⟨_, a1, a2⟩ := h
  exact ⟨_, fun j => by rw [← hK j]; exact ps_expr (pe_bm PySem.F.plainAttrs_list PySem.F.slot_list_append PySem.F.type_list_append mt_append (pe_var (hN j) (hvis j) hd hcd) (pa_cons (a1 j) pa_nil (hss j)) (hbase j) (hfew j) hline (hss j) (hplain j)) (hs j), semS_app a2⟩
def sSub (i : Nat) (mi : M D) (m : M D) : MS := fun st => match m st with
  | some (.v x, s1) => (match mi s1 with
    | some (.v (.int k), s2) => (match s2[i]? with
      | some (some (.ol xs)) => (match ixN xs.length k with
        | some j => if isL s1[i]? then some (.nx, s2.set i (some (.ol (xs.set j x)))) else none
        | none => none)
      | _ => none)
    | some (.x c, s) => if isL s1[i]? then some (.x c, s) else none
    | _ => none)
  | some (.x c, s) => some (.x c, s)
  | none => none
theorem semS_sub {i : Nat} {te ti : TE} {m mi : M D} (h : SemE T E te m) (h2 : SemE T E ti mi) : SemS T E kp (tAsg te (gSub (tVar i) ti rSetL)) (sSub i mi m) := by
  intro st σ B F H S fl s hf D hD
  unfold sSub at hf
  split at hf
  · rename_i x s1 e
    refine h st σ B F H S _ _ e _ fun B1 H1 e1 S1 v hx => ?_
    split at hf
    · rename_i k s2 ei
      split at hf
      · rename_i xs hi
        split at hf
        · rename_i j hj
          split at hf
          · rename_i hl
            cases hf
            obtain ⟨p, hv, _⟩ := ol_before (s1 := st) S1 (isL_of hl)
            refine ⟨_, hv, ?_⟩
            refine h2 s1 σ B1 F H1 S1 _ _ ei _ fun B2 H2 e2 S2 w hw => ?_
            cases rep_int hw
            obtain ⟨u, hu, q, ys, rfl, hq, hr⟩ := S2.rel i _ hi
            rw [hu] at hv; cases hv
            exact ⟨p, ys, k, j, rfl, rfl, hq, by rw [← hr.length]; exact hj, hD σ B2 _ (e1.trans e2) (Kp.refl _ _) (S2.change hi hu rfl (fun _ z => nomatch z) ⟨p, _, rfl, upd_same, hr.set (Rep.mono e2 x hx)⟩)⟩
          · cases hf
        · cases hf
      · cases hf
    · rename_i c s2 ei
      split at hf
      · rename_i hl
        cases hf
        obtain ⟨p, hv, _⟩ := ol_before (s1 := st) S1 (isL_of hl)
        refine ⟨_, hv, ?_⟩
        exact h2 s1 σ B1 F H1 S1 _ _ ei _ fun d B2 H2 e2 S2 => hD d σ B2 H2 (e1.trans e2) (Kp.refl _ _) S2
      · cases hf
    · cases hf
  · rename_i c s1 e
    cases hf
    exact h st σ B F H S _ _ e _ fun d B1 H1 e1 S1 => hD d σ B1 H1 e1 (Kp.refl _ _) S1
  · cases hf
theorem xs_sub (i : Nat) {p sp' : Pos} {ei : Expr} (hv : XE T E X e fa) (hi : XE T E X ei fb) (hN : ∀ j, (X j).N[i]? = some x := by intro j; rfl) (hvis : ∀ j, Vis (X j).env.scope x := by intro j; first | exact Or.inl rfl | exact Or.inr (Or.inl rfl) | exact Or.inr (Or.inr rfl))
    (hd : (x == ("__debug__" : Str)) = false := by decide +kernel) (hcd : (x == ("__classdict__" : Str)) = false := by decide +kernel)
    (ha : ∀ j v, assign (.Subscript (.Name x p) ei sp') (X j).env v = (do
      let ov ← holding [v] (eval (.Name x p) (X j).env)
      let iv ← holding [v, ov] (eval ei (X j).env)
      standAt sp'
      holding [v, ov, iv] (setItem ov iv v)
      release [v, ov, iv] []) := by intro _ _; rfl)
    (hs : ∀ j, swapsWithSole [.Subscript (.Name x p) ei sp'] e pos.line (X j).env = pure false := by intro j; rfl) (hw : ∀ j, swappedStores [.Subscript (.Name x p) ei sp'] e (X j).env = pure none := by intro j; rfl) (h1 : ∀ j, (assignEach [.Subscript (.Name x p) ei sp'] (X j).env).map (·.2) = [assign (.Subscript (.Name x p) ei sp') (X j).env] := by intro j; rfl) : XS T E X kp (.Assign [.Subscript (.Name x p) ei sp'] e pos) (sSub i fb fa) := by
  obtain ⟨_, a1, a2⟩ := hv
  obtain ⟨_, b1, b2⟩ := hi
  exact ⟨_, fun j => ps_asg (a1 j) (pg_sub (pe_var (hN j) (hvis j) hd hcd) (b1 j) set_list (ha j)) (hs j) (hw j) (h1 j), semS_sub a2 b2⟩
end
abbrev CxD (P : Program) (w : World) (T : Tab) (mg : Str → Option Value) (base : Heap) (N : List Str) (qual : Str) (st : Stmt) (f : Addr) (cdv : Value) (A : Around) (outer : List Env) (s : Shared) (H : Hp) (E : XK) : Unit → Cx := fun _ => cxOf (L2.CX P w) P w T.K mg base N qual (defScope st) f cdv A outer s H E
theorem ok_def {P : Program} {w : World} {T : Tab} {mg : Str → Option Value} {base : Heap} {x qual : Str} {st : Stmt} {f : Addr} {fd : FuncData} {N ps : List Str} {k : Nat} {kp : Nat → Bool} {body : MS} (F : Fun T.K x qual st f fd) (S : FnScope N ps (defScope st))
    (h : ∀ (cdv : Value) (A : Around) (outer : List Env) (s : Shared) (H : Hp) (E : XK), Room k (A.deeper (envOfC qual (defScope st) s.heap.objs.size f cdv)) →
      XSs T (fun _ => E) (CxD P w T mg base N qual st f cdv A outer s H E) kp (defBody st) body) : FnOk P w T.K mg base (L2.CX P w) (k + 1) f fd ps (sp T ps.length (fnOf ps.length N.length kp body)) := by
  refine okR F S (fun vs H Q E h => h.1) fun cdv A outer s H vs Q E hr hsp => ?_
  obtain ⟨t, a1, a2⟩ := h cdv A outer s H E hr
  exact ⟨t, a1 (), read_fn hsp a2⟩
theorem rm_def {P : Program} {w : World} {T : Tab} {mg : Str → Option Value} {base : Heap} {N : List Str} {qual : Str} {st : Stmt} {f : Addr} {cdv : Value} {A : Around} {outer : List Env} {s : Shared} {H : Hp} {E : XK} {k : Nat} (hr : Room k (A.deeper (envOfC qual (defScope st) s.heap.objs.size f cdv))) :
    Rm (CxD P w T mg base N qual st f cdv A outer s H E) := fun _ => by
  have h : (A.deeper (envOfC qual (defScope st) s.heap.objs.size f cdv)).units + 16 * k + 200 < cLine := hr.un
  show (A.deeper (envOfC qual (defScope st) s.heap.objs.size f cdv)).units + 65 < cLine
  omega
theorem pass_def {P : Program} {w : World} {T : Tab} {mg : Str → Option Value} {base : Heap} {N : List Str} {qual : Str} {st : Stmt} {f : Addr} {cdv : Value} {A : Around} {outer : List Env} {s : Shared} {H : Hp} {E : XK} {j : Unit} (σ : L2.St) :
    PassesAt (L2.CX P w) (CxD P w T mg base N qual st f cdv A outer s H E j) σ E :=
  passAt (W := fun cls d _ H => E cls d H) (X := CxD P w T mg base N qual st f cdv A outer s H E j) (takes_of rfl rfl rfl rfl) σ
theorem own_def {P : Program} {w : World} {T : Tab} {mg : Str → Option Value} {base : Heap} {N : List Str} {qual : Str} {st : Stmt} {f : Addr} {cdv : Value} {A : Around} {outer : List Env} {s : Shared} {H : Hp} {E : XK} (j : Unit) :
    PassesOwn (model (CxD P w T mg base N qual st f cdv A outer s H E j).prog (CxD P w T mg base N qual st f cdv A outer s H E j).w) (CxD P w T mg base N qual st f cdv A outer s H E j).A (CxD P w T mg base N qual st f cdv A outer s H E j).env (CxD P w T mg base N qual st f cdv A outer s H E j).xe :=
  passes_of (X := CxD P w T mg base N qual st f cdv A outer s H E j) rfl
theorem pass_blk {Y : Cx} {P : Program} {w : World} (σ : L2.St) : PassesAt (L2.CX P w) Y σ E0 := fun _ _ _ _ _ _ h => by
  obtain ⟨_, _, _, _, _, _, _, _, _, _, _, _, z⟩ := h
  exact z.elim
end Fz
set_option Elab.async false
set_option linter.all false
set_option maxRecDepth 100000
set_option maxHeartbeats 2000000
namespace Fz
open PySem L2 PySem.Spec PyProof.Rows
section
variable (P : Program) (w : World) (T : Tab) (mg : Str → Option Value) (base : Heap)
structure FnG (x : Str) (n : Nat) (F : Fn) (k : Nat) : Prop where
  ex : ∃ f fd ps, mg x = some (.ref f) ∧ PySem.W.keepIn T.K (.ref f) = true ∧ Binds T.K fd ps [] ∧ FnOk P w T.K mg base (L2.CX P w) k f fd ps (sp T n F)
structure MtG (c : Nat) (m : Str) (n : Nat) (F : Fn) (k : Nat) : Prop where
  ex : ∃ f fd ps, Meth T.K (T.cls c) m f ∧ Binds T.K fd ps [] ∧ FnOk P w T.K mg base (L2.CX P w) k f fd ps (sp T n F)
  cl : ClsOk T c
  nf : m ∉ T.flds c
structure MkG (x : Str) (c n : Nat) (F : Fn) (k : Nat) : Prop where
  ex : ∃ f fd ps, mg x = some (.ref (T.cls c)) ∧ Mk T.K (T.cls c) f ∧ Binds T.K fd ps [] ∧ FnOk P w T.K mg base (L2.CX P w) k f fd ps (sp T n F)
end
section
variable {P : Program} {w : World} {T : Tab} {mg : Str → Option Value} {base : Heap} {N : List Str} {qual : Str} {st : Stmt} {f : Addr} {cdv : Value} {A : Around} {outer : List Env} {s : Shared} {H : Hp} {E : XK} {x m : Str} {n c k : Nat} {F : Fn}
theorem FnG.mono {j : Nat} (G : FnG P w T mg base x n F j) (h : j ≤ k) : FnG P w T mg base x n F k := let ⟨f, fd, ps, a, b, c, d⟩ := G.ex; ⟨f, fd, ps, a, b, c, d.mono h⟩
theorem FnG.sub {F' : Fn} (G : FnG P w T mg base x n F k) (h : ∀ rs o, F' rs = some o → F rs = some o) : FnG P w T mg base x n F' k := let ⟨f, fd, ps, a, b, c, d⟩ := G.ex; ⟨f, fd, ps, a, b, c, fn_sub d h⟩
theorem MtG.mono {j : Nat} (G : MtG P w T mg base c m n F j) (h : j ≤ k) : MtG P w T mg base c m n F k := ⟨let ⟨f, fd, ps, a, b, d⟩ := G.ex; ⟨f, fd, ps, a, b, d.mono h⟩, G.cl, G.nf⟩
theorem MtG.sub {F' : Fn} (G : MtG P w T mg base c m n F k) (h : ∀ rs o, F' rs = some o → F rs = some o) : MtG P w T mg base c m n F' k := ⟨let ⟨f, fd, ps, a, b, d⟩ := G.ex; ⟨f, fd, ps, a, b, fn_sub d h⟩, G.cl, G.nf⟩
theorem MkG.sub {F' : Fn} (G : MkG P w T mg base x c n F k) (h : ∀ rs o, F' rs = some o → F rs = some o) : MkG P w T mg base x c n F' k := let ⟨f, fd, ps, a, b, b', d⟩ := G.ex; ⟨f, fd, ps, a, b, b', fn_sub d h⟩
theorem FnG.d {j : Nat} (G : FnG P w T mg base x n F j) (hr : Room k (A.deeper (envOfC qual (defScope st) s.heap.objs.size f cdv))) (h : j ≤ k) (i : Unit) : FunAt (CxD P w T mg base N qual st f cdv A outer s H E i) T (fun _ => E) x n F [] :=
  let ⟨f, fd, ps, a, b, c, d⟩ := G.ex; ⟨f, fd, ps, _, j, a, b, c, d, hr.mono h, fun σ => pass_def σ⟩
theorem MtG.d {j : Nat} (G : MtG P w T mg base c m n F j) (hr : Room k (A.deeper (envOfC qual (defScope st) s.heap.objs.size f cdv))) (h : j ≤ k) (i : Unit) : MethAt (CxD P w T mg base N qual st f cdv A outer s H E i) T (fun _ => E) c m n F :=
  let ⟨f, fd, ps, a, b, d⟩ := G.ex; ⟨f, fd, ps, _, j, G.cl.cls, a, b, d, hr.mono h, fun σ => pass_def σ, G.nf⟩
theorem MkG.d {j : Nat} (G : MkG P w T mg base x c n F j) (hr : Room k (A.deeper (envOfC qual (defScope st) s.heap.objs.size f cdv))) (h : j + 1 ≤ k) (i : Unit) : MakeAt (CxD P w T mg base N qual st f cdv A outer s H E i) T (fun _ => E) x c n F :=
  let ⟨f, fd, ps, a, b, b', d⟩ := G.ex; ⟨f, fd, ps, _, j, a, b, b', d, hr.mono h, fun σ => pass_def σ⟩
theorem FunAt.blk {ι : Type} {X : ι → Cx} {E : L2.St → XK} (h : ∀ i, FunAt (X i) T E x n F []) {scope : Scope} (hc : ∀ i, (X i).prog = P) (G : FnG P w T mg base x n F k) (hr : ∀ i, Room k (X i).A) (hw : ∀ i, (X i).w = w) (hm : ∀ i, (X i).mg = mg) (hb : ∀ i, (X i).base = base) (hK : ∀ i, (X i).K = T.K) (i) : FunAt (Blk X scope i) T (fun _ => E0) x n F [] := by
  obtain ⟨f, fd, ps, a, b, c, d⟩ := G.ex
  refine ⟨f, fd, ps, _, k, ?_, ?_, ?_, ?_, hr i.1, fun σ => pass_blk (P := P) (w := w) σ⟩
  · show (X i.1).mg x = _; rw [hm]; exact a
  · show PySem.W.keepIn (X i.1).K _ = _; rw [hK]; exact b
  · show Binds (X i.1).K _ _ _; rw [hK]; exact c
  · show FnOk (X i.1).prog (X i.1).w (X i.1).K (X i.1).mg (X i.1).base _ _ _ _ _ _; rw [hc, hw, hK, hm, hb]; exact d
theorem FnG.b {j : Nat} {scope : Scope} (G : FnG P w T mg base x n F j) (hr : Room k (A.deeper (envOfC qual (defScope st) s.heap.objs.size f cdv))) (h : j ≤ k) (i) : FunAt (Blk (CxD P w T mg base N qual st f cdv A outer s H E) scope i) T (fun _ => E0) x n F [] :=
  let ⟨f, fd, ps, a, b, c, d⟩ := G.ex; ⟨f, fd, ps, _, j, a, b, c, d, hr.mono h, fun σ => pass_blk (P := P) (w := w) σ⟩
theorem MtG.b {j : Nat} {scope : Scope} (G : MtG P w T mg base c m n F j) (hr : Room k (A.deeper (envOfC qual (defScope st) s.heap.objs.size f cdv))) (h : j ≤ k) (i) : MethAt (Blk (CxD P w T mg base N qual st f cdv A outer s H E) scope i) T (fun _ => E0) c m n F :=
  let ⟨f, fd, ps, a, b, d⟩ := G.ex; ⟨f, fd, ps, _, j, G.cl.cls, a, b, d, hr.mono h, fun σ => pass_blk (P := P) (w := w) σ, G.nf⟩
theorem MkG.b {j : Nat} {scope : Scope} (G : MkG P w T mg base x c n F j) (hr : Room k (A.deeper (envOfC qual (defScope st) s.heap.objs.size f cdv))) (h : j + 1 ≤ k) (i) : MakeAt (Blk (CxD P w T mg base N qual st f cdv A outer s H E) scope i) T (fun _ => E0) x c n F :=
  let ⟨f, fd, ps, a, b, b', d⟩ := G.ex; ⟨f, fd, ps, _, j, a, b, b', d, hr.mono h, fun σ => pass_blk (P := P) (w := w) σ⟩
def MtT (P : Program) (w : World) (T : Tab) (mg : Str → Option Value) (base : Heap) (m : Str) (n k : Nat) (tab : Nat → Option Fn) : Prop := ∀ c F, tab c = some F → MtG P w T mg base c m n F k
theorem MtT.d {j : Nat} {tab : Nat → Option Fn} (G : MtT P w T mg base m n j tab) (hr : Room k (A.deeper (envOfC qual (defScope st) s.heap.objs.size f cdv))) (h : j ≤ k) : ∀ (i : Unit) c F, tab c = some F → MethAt (CxD P w T mg base N qual st f cdv A outer s H E i) T (fun _ => E) c m n F := fun i c F hc => (G c F hc).d hr h i
theorem MtT.b {j : Nat} {scope : Scope} {tab : Nat → Option Fn} (G : MtT P w T mg base m n j tab) (hr : Room k (A.deeper (envOfC qual (defScope st) s.heap.objs.size f cdv))) (h : j ≤ k) : ∀ i c F, tab c = some F → MethAt (Blk (CxD P w T mg base N qual st f cdv A outer s H E) scope i) T (fun _ => E0) c m n F := fun i c F hc => (G c F hc).b hr h i
theorem MtT.nf {j : Nat} {tab : Nat → Option Fn} (G : MtT P w T mg base m n j tab) : ∀ c F, tab c = some F → m ∉ T.flds c := fun c F hc => (G c F hc).nf
theorem MtT.mono {j : Nat} {tab : Nat → Option Fn} (G : MtT P w T mg base m n j tab) (h : j ≤ k) : MtT P w T mg base m n k tab := fun c F hc => (G c F hc).mono h
end
section
variable {ι : Type} {T : Tab} {E : L2.St → XK} {X : ι → Cx} {kp : Nat → Bool} {pos apos : Pos} {e a b c o : Expr} {es : List Expr} {fa fb : M D} {fs : M (List D)} {r : M R} {x : Str}
theorem xe_len {p : Pos} (hm : ∀ j, (X j).mg "len" = none) (ha : XA T E X [e] fs) (hK : ∀ j, (X j).K = T.K := by intro j; rfl) (hg : ∀ j, Gl (X j) "len" := by intro j; rfl) (he : ∀ j, starEach [e] (X j).env = (false, eval e (X j).env) :: starEach [] (X j).env := by intro j; rfl) (hpl : ∀ j, (backTo pos (starEach [] (X j).env)).any (·.1) = false := by intro j; rfl) : XE T E X (.Call (.Name "len" p) [e] [] pos) (eOp dLen fs) :=
  xe_callB (fun j => by rw [← hK j]; exact call_len) p_len hm PySem.boot_len ha hg (by decide +kernel) (by decide +kernel) he hpl
theorem xe_intc {p : Pos} (hm : ∀ j, (X j).mg "int" = none) (ha : XA T E X [e] fs) (hg : ∀ j, Gl (X j) "int" := by intro j; rfl) (he : ∀ j, starEach [e] (X j).env = (false, eval e (X j).env) :: starEach [] (X j).env := by intro j; rfl) (hpl : ∀ j, (backTo pos (starEach [] (X j).env)).any (·.1) = false := by intro j; rfl) : XE T E X (.Call (.Name "int" p) [e] [] pos) (eOp dInt fs) :=
  xe_callTy (fun j => call_int1) p_int hm boot_int ha hg (by decide +kernel) (by decide +kernel) he hpl
theorem xe_tuple {p : Pos} (hm : ∀ j, (X j).mg "tuple" = none) (ha : XA T E X [e] fs) (hK : ∀ j, (X j).K = T.K := by intro j; rfl) (hg : ∀ j, Gl (X j) "tuple" := by intro j; rfl) (he : ∀ j, starEach [e] (X j).env = (false, eval e (X j).env) :: starEach [] (X j).env := by intro j; rfl) (hpl : ∀ j, (backTo pos (starEach [] (X j).env)).any (·.1) = false := by intro j; rfl) : XE T E X (.Call (.Name "tuple" p) [e] [] pos) (eOp dTuple fs) :=
  xe_callTy (fun j => by rw [← hK j]; exact call_tuple_of) p_tuple hm (by decide +kernel) ha hg (by decide +kernel) (by decide +kernel) he hpl
theorem xr_list {p : Pos} (hm : ∀ j, (X j).mg "list" = none) (ha : XA T E X [e] fs) (hK : ∀ j, (X j).K = T.K := by intro j; rfl) (hg : ∀ j, Gl (X j) "list" := by intro j; rfl) (he : ∀ j, starEach [e] (X j).env = (false, eval e (X j).env) :: starEach [] (X j).env := by intro j; rfl) (hpl : ∀ j, (backTo pos (starEach [] (X j).env)).any (·.1) = false := by intro j; rfl) : XR T E X (.Call (.Name "list" p) [e] [] pos) (rOp dList fs) :=
  xr_callTy (fun j => by rw [← hK j]; exact call_list_of) p_list hm (by decide +kernel) ha hg (by decide +kernel) (by decide +kernel) he hpl
end
end Fz
set_option Elab.async false
set_option linter.all false
set_option maxRecDepth 100000
set_option maxHeartbeats 2000000
namespace PySem.AutoSeq1
open PySem
end PySem.AutoSeq1
namespace Fz
open PySem L2 PySem.Spec PyProof.Rows
section
variable {X : Cx}
def rCatL (K : PySem.W.Frag) : R2 := fun x y H Q => ∃ l b xs zs, x = .ref l ∧ y = .ref b ∧ SqL K H l xs ∧ SqL K H b zs ∧ xs.length + zs.length ≤ sizeLine ∧ ∀ p, H p = none → Q (.ref p) (upd H p (.lst (xs ++ zs)))
theorem op_catL : OpR X (binaryOp .Add) (rCatL X.K) := by
  intro pins s σ H x y v u Q I rx ry h
  obtain ⟨l, b, xs, zs, rfl, rfl, hH, hB, hz, q⟩ := h
  cases rx
  cases ry
  obtain ⟨its, r, ⟨⟨cls, dd, data, sl⟩, n, e, hc, hk, hd⟩, hl⟩ := I.list hH
  obtain ⟨its2, r2, ⟨⟨cls2, dd2, data2, sl2⟩, n2, e2, hc2, hk2, hd2⟩, hl2⟩ := I.list hB
  simp only at hc hd hc2 hd2
  subst hc hd hc2 hd2
  have l1 := r.length
  have l2 := r2.length
  have ea : its.toArray ++ its2.toArray = (its ++ its2).toArray := by simp
  refine concat_meets ⟨_, e, rfl⟩ ⟨_, e2, rfl⟩ noFill_list_add seq_list_add PySem.F.slot_list_add PySem.F.entry_list_add (PySem.F.args_list_add_2 _ _) (list_addW l b its.toArray its2.toArray n n2 dd dd2 sl sl2 (by rw [List.size_toArray, List.size_toArray]; omega)) ⟨e, e2, ?_⟩
  rw [ea]
  exact ⟨.ref _, _, I.lnew (t' := s.toks) (r.append r2) (by rw [List.length_append]; omega), rfl, q _ I.fresh⟩
end
end Fz
set_option Elab.async false
set_option linter.all false
set_option maxRecDepth 100000
set_option maxHeartbeats 2000000
namespace Fz
open PySem L2 PySem.Spec PyProof.Rows
def dNeg (x : D) : Option D := match x with | .int i => some (.int (-i)) | _ => none
def tyD : D → Option String
  | .non => some "NoneType"
  | .bl _ => some "bool"
  | .int _ => some "int"
  | .str _ => some "str"
  | .tup _ => some "tuple"
  | .lst _ => some "list"
  | .dct _ _ => some "dict"
  | .obj _ _ => none
  | .ext _ _ => none
def TyZ (T : Tab) (H : Hp) (v : V) (t : Value) : Prop := TyX T.K H v t ∨ ∃ a w ep es, v = .ref a ∧ H a = some (dG w a ep es) ∧ t = .type "dict"
theorem kit_ofZ {X : Cx} {pins : List (Addr × Obj)} {σ : L2.St} {H : Hp} {s : Shared} {T : Tab} {x : V} {u t : Value} (hK : X.K = T.K) (I : Inv X pins σ H s) (rx : RelV x u) (ty : TyZ T H x t) : ∃ P : Heap → Prop, PySem.W.KitX X.K u t P ∧ P s.heap ∧ u ≠ .builtin "__main__.__loader__#opaque" := by
  rcases ty with ty | ⟨a, w, ep, es, rfl, h, rfl⟩
  · exact kit_of I rx (by rw [hK]; exact ty)
  · cases (show u = Value.ref a from rx)
    obtain ⟨⟨o, en, h1, h2, _⟩, _⟩ := (show ObjOk X.prog X.w H s.heap a (dG w a ep es) from I.hok a _ h)
    exact ⟨_, PySem.W.kitx_dict, ⟨o, h1, h2.1⟩, fun z => nomatch z⟩
def rIsiZ (T : Tab) : List V → Hp → VK → Prop := fun xs H Q => ∃ (x c : V) (t u : Value) (b : Bool), xs = [x, c] ∧ ClsV c u ∧ TyZ T H x t ∧ PySem.W.kitOne T.K t u = some b ∧ Q (.bl b) H
theorem call_isiZ {X : Cx} {T : Tab} (hK : X.K = T.K) : CallR X (.builtin "isinstance") (rIsiZ T) := by
  intro pins s σ H xs us Q I r h
  obtain ⟨x, c, t, u, b, rfl, k, ty, e, q⟩ := h
  obtain ⟨u1, u2, rfl, r1, r2⟩ := vals2 r
  have e2 := k.eq r2
  subst e2
  obtain ⟨P, Z, p, hx⟩ := kit_ofZ hK I r1 ty
  rw [← hK] at e
  exact PySem.W.kia_one Z I.kIn p e hx fun tk => ⟨.bl b, H, I.tok tk, rfl, q⟩
theorem tyx_of {T : Tab} {B H : Hp} {x : D} {v : V} {t : String} (e : Ex B H) (r : Rep T B x v) (h : tyD x = some t) : TyZ T H v (.type t) := by
  cases x with
  | non => cases h; cases rep_non r; exact .inl <| .base .non
  | bl b => cases h; cases rep_bl r; exact .inl <| .base (.bl b)
  | int i => cases h; cases rep_int r; exact .inl <| .base (.int i)
  | str s => cases h; obtain ⟨rfl, _⟩ := rep_str r; exact .inl <| .base (.str s)
  | tup ds =>
    cases h
    unfold Rep at r
    obtain ⟨a, xs, rfl, h2, _⟩ := r
    rcases h2 with h2 | ⟨o, its, n, h3, h4, _⟩
    · exact .inl <| .base (.tup (e a _ h2))
    · exact .inl <| .kTuple h3 h4
  | lst ds =>
    cases h
    unfold Rep at r
    obtain ⟨a, xs, rfl, h2, _⟩ := r
    rcases h2 with (h2 | ⟨o, h2⟩) | ⟨o, its, n, h3, h4, _⟩
    · exact .inl <| .base (.lst (e a _ h2))
    · exact .inl <| .base (.frz (e a _ h2))
    · exact .inl <| .kList h3 h4
  | dct ks vs =>
    cases h
    rw [rep_dct] at r
    obtain ⟨a, xs, rfl, ⟨ep, es, h2, _⟩, _⟩ := r
    exact .inr ⟨a, _, ep, es, rfl, e a _ h2, rfl⟩
  | obj c fs => cases h
  | ext c fs => cases h
def isTy (t c : String) : Bool := t == c || (t == "bool" && c == "int")
def tyNames : List String := ["NoneType", "bool", "int", "str", "tuple", "list", "dict"]
theorem tyD_mem {x : D} {t : String} (h : tyD x = some t) : t ∈ tyNames := by
  cases x <;> cases h <;> decide
theorem kit_all : (tyNames.all fun t => ["str", "int", "bool", "list", "tuple", "dict"].all fun c => kitB t c == some (isTy t c)) = true := by decide +kernel
theorem kit_is {t c : String} (ht : t ∈ tyNames) (hc : c ∈ ["str", "int", "bool", "list", "tuple", "dict"]) : kitB t c = some (isTy t c) := by
  have := List.all_eq_true.mp (List.all_eq_true.mp kit_all t ht) c hc
  exact eq_of_beq this
def dIsi (c : String) (x : D) : Option D := (tyD x).map fun t => .bl (isTy t c)
section
variable {ι : Type} {T : Tab} {E : L2.St → XK} {X : ι → Cx} {kp : Nat → Bool} {pos apos : Pos} {e a b c o : Expr} {es : List Expr} {fa fb fc : M D} {fs : M (List D)} {fl : M (List Arg)} {r : M R} {x m : Str} {te ta : TE} {t : TA}
theorem semE_isi {c : String} (hc : c ∈ ["str", "int", "bool", "list", "tuple", "dict"]) (ha : SemE T E te fa) : SemE T E (tCB (rIsiZ T) (tCons te (tCons (tC (.ty c)) tNil))) (eUn (dIsi c) fa) := by
  intro st σ B F H S o s h Q hQ
  refine okx_bnd h hQ (fun o1 s1 e1 q => ha st σ B F H S o1 s1 e1 _ q) fun a s1 B1 H1 _ h2 e1 S1 hQ1 v hv => ?_
  obtain ⟨z, hz, rfl, rfl⟩ := opt_some h2
  unfold dIsi at hz
  cases ht : tyD a with
  | none => rw [ht] at hz; cases hz
  | some t =>
    rw [ht] at hz; cases hz
    exact ⟨v, .ty c, .type t, .type c, _, rfl, .ty c, tyx_of S1.exB hv ht, kit_ty (kit_is (tyD_mem ht) hc), hQ1 B1 H1 (Ex.refl _) S1 _ rfl⟩
theorem xe_isi {c : String} {cx : Str} {p p2 : Pos} (hc : c ∈ ["str", "int", "bool", "list", "tuple", "dict"]) (hv : bootBuiltins cx = some (.type c)) (hm : ∀ j, (X j).mg "isinstance" = none) (hm2 : ∀ j, (X j).mg cx = none) (ha : XE T E X e fa) (hK : ∀ j, (X j).K = T.K := by intro j; rfl)
    (hg : ∀ j, Gl (X j) "isinstance" := by intro j; rfl) (hg2 : ∀ j, Gl (X j) cx := by intro j; rfl) (hn2 : cx ≠ "__name__" := by decide +kernel) (hdb2 : (cx == ("__debug__" : Str)) = false := by decide +kernel)
    (hs1 : ∀ j, starEach [e, .Name cx p2] (X j).env = (false, eval e (X j).env) :: starEach [.Name cx p2] (X j).env := by intro j; rfl) (hs2 : ∀ j, starEach [.Name cx p2] (X j).env = (false, eval (.Name cx p2) (X j).env) :: starEach [] (X j).env := by intro j; rfl)
    (hpl : ∀ j, (backTo pos (starEach [.Name cx p2] (X j).env)).any (·.1) = false := by intro j; rfl) : XE T E X (.Call (.Name "isinstance" p) [e, .Name cx p2] [] pos) (eUn (dIsi c) fa) :=
  let ⟨_, a1, a2⟩ := ha
  ⟨_, fun j => pe_callB (call_isiZ (hK j)) (hg j) (hm j) (by decide +kernel) (pa_cons (a1 j) (pa_cons (pe_bltn (v := .ty c) (hg2 j) (hm2 j) hv rfl hn2 hdb2) pa_nil (hs2 j)) (hs1 j)) (by decide +kernel) (by decide +kernel) (hs1 j) (hpl j), semE_isi hc a2⟩
def tFull (n : Nat → Nat) (f : M Bool) : M Bool := fun st => match f (vwN n st) with
  | some (.v b, _) => some (.v b, st)
  | some (.x c, _) => some (.x c, st)
  | none => none
theorem semT_all {tt : TT} {f : M Bool} (h : SemT T E tt f) : SemT T E tt (tFull (fun c => (T.flds c).length) f) := by
  intro st σ B F H S o s hf Q hQ
  unfold tFull at hf
  split at hf
  · rename_i x s1 e1
    cases hf
    refine h _ σ (noT T H) _ H S.full _ _ e1 Q fun B1 H1 x1 S1 => ?_
    obtain ⟨b1, b2, b3⟩ := S.back (x1.trans S1.exB) S1.tbs S1.exB
    exact hQ _ H1 b1 b2
  · rename_i c s1 e1
    cases hf
    refine h _ σ (noT T H) _ H S.full _ _ e1 Q fun d B1 H1 x1 S1 => ?_
    obtain ⟨b1, b2, b3⟩ := S.back (x1.trans S1.exB) S1.tbs S1.exB
    exact hQ d _ H1 b1 b2
  · cases hf
theorem xt_full {f : M Bool} (h : XT T E X e f) : XT T E X e (tFull (fun c => (T.flds c).length) f) := let ⟨_, h1, h2⟩ := h; ⟨_, h1, semT_all h2⟩
def Prim2L (T : Tab) (r : R2) (g : D → D → Option (List D)) : Prop := ∀ x y zs vx vy B H (Q : VK), Ex B H → Rep T B x vx → Rep T B y vy → g x y = some zs →
  (∀ p ys B1 H1, Ext B H B1 H1 → H1 p = none → Reps T B1 zs ys → Q (.ref p) (upd H1 p (.lst ys))) → r vx vy H Q
def rBin (g : D → D → Option (List D)) (fa fb : M D) : M R := bnd fa fun x => bnd fb fun y => opt ((g x y).map .ol)
theorem semR_op {rr : R2} {g : D → D → Option (List D)} {tb : TE} (hr : Prim2L T rr g) (ha : SemE T E ta fa) (hb : SemE T E tb fb) : SemR T E (tOp rr ta tb) (rBin g fa fb) := by
  intro st σ B F H S o s h Q hQ
  rcases bnd_some h with ⟨c, e1, rfl⟩ | ⟨a, s1, e1, h2⟩
  · exact ha st σ B F H S _ _ e1 _ hQ
  · refine ha st σ B F H S _ _ e1 _ fun B1 H1 x1 S1 v hv => ?_
    rcases bnd_some h2 with ⟨c, e2, rfl⟩ | ⟨b, s2, e2, h3⟩
    · exact hb s1 σ B1 F H1 S1 _ _ e2 _ fun d B2 H2 x2 S2 => hQ d B2 H2 (x1.trans x2) S2
    · refine hb s1 σ B1 F H1 S1 _ _ e2 _ fun B2 H2 x2 S2 u hu => ?_
      obtain ⟨z, hz, rfl, rfl⟩ := opt_some h3
      cases hg : g a b with
      | none => rw [hg] at hz; cases hz
      | some zs =>
        rw [hg] at hz; cases hz
        exact hr a b zs v u B2 H2 Q S2.exB (Rep.mono x2 _ hv) hu hg fun p ys B3 H3 x3 hp hy => hQ _ B3 _ (x1.trans (x2.trans x3.b)) ((S2.ext x3).alloc hp (fun _ z => nomatch z) (relR_ol upd_same hy))
def gCat : D → D → Option (List D)
  | .lst xs, .lst ys => if xs.length + ys.length ≤ sizeLine then some (xs ++ ys) else none
  | _, _ => none
theorem p_cat : Prim2L T (rCatL T.K) gCat := by
  intro x y zs vx vy B H Q e hx hy hz k
  unfold gCat at hz
  split at hz
  · rename_i xs ys
    split at hz
    · rename_i hl
      cases hz
      unfold Rep at hx hy
      obtain ⟨a, us, rfl, t1, r1⟩ := hx
      obtain ⟨b, ws, rfl, t2, r2⟩ := hy
      exact ⟨a, b, us, ws, rfl, rfl, e.sqL t1, e.sqL t2, by rw [← r1.length, ← r2.length]; exact hl, fun p hp => k p _ B H (.refl e) hp (r1.append r2)⟩
    · cases hz
  · cases hz
theorem xr_bin {op : Operator} {rr : R2} {g : D → D → Option (List D)} (ho : ∀ j, OpR (X j) (binaryOp op) rr) (hp : Prim2L T rr g) (ha : XE T E X a fa) (hb : XE T E X b fb) : XR T E X (.BinOp a op b pos) (rBin g fa fb) :=
  let ⟨_, a1, a2⟩ := ha; let ⟨_, b1, b2⟩ := hb; ⟨_, fun j => pe_op (ho j) (a1 j) (b1 j), semR_op hp a2 b2⟩
theorem xr_cat (ha : XE T E X a fa) (hb : XE T E X b fb) (hK : ∀ j, (X j).K = T.K := by intro j; rfl) : XR T E X (.BinOp a .Add b pos) (rBin gCat fa fb) := xr_bin (fun j => by rw [← hK j]; exact op_catL) p_cat ha hb
def tyOk (ty : String) (x : D) : Bool := match x with
  | .str _ => ty == "str"
  | .lst _ => ty == "list"
  | _ => false
theorem tyV_of {ty : String} {B H : Hp} {x : D} {v : V} (e : Ex B H) (r : Rep T B x v) (h : tyOk ty x = true) : tyV T.K ty v H := by
  cases x with
  | str s => obtain ⟨rfl, _⟩ := rep_str r; exact eq_of_beq h
  | lst ds =>
    unfold Rep at r
    obtain ⟨a, xs, rfl, h2, _⟩ := r
    exact .inl ⟨eq_of_beq h, xs, e.sqL h2⟩
  | _ => cases h
def PrimM (T : Tab) (r : V → List V → Hp → VK → Prop) (g : D → List D → Option D) : Prop := ∀ x xs z v vs B H (Q : VK), Ex B H → Rep T B x v → Reps T B xs vs → g x xs = some z → (∀ u B' H', Ext B H B' H' → Rep T B' z u → Q u H') → r v vs H Q
def eMt (ty : String) (g : D → List D → Option D) (fa : M D) (fs : M (List D)) : M D := bnd fa fun x => if tyOk ty x = true then bnd fs fun xs => opt (g x xs) else fun _ => none
def rMt (ty : String) (g : D → List D → Option (List D)) (fa : M D) (fs : M (List D)) : M R := bnd fa fun x => if tyOk ty x = true then bnd fs fun xs => opt ((g x xs).map .ol) else fun _ => none
theorem semE_mt {ty : String} {rr : V → List V → Hp → VK → Prop} {g : D → List D → Option D} (hr : PrimM T rr g) (ha : SemE T E ta fa) (hs : SemA T E t fs) : SemE T E (tBM T.K ty rr ta t) (eMt ty g fa fs) := by
  intro st σ B F H S o s h Q hQ
  refine okx_bnd h hQ (fun o1 s1 e1 q => ha st σ B F H S o1 s1 e1 _ q) fun a s1 B1 H1 _ h2 e1 S1 hQ1 v hv => ?_
  split at h2
  · rename_i ht
    refine ⟨tyV_of S1.exB hv ht, ?_⟩
    refine okx_bnd h2 hQ1 (fun o1 s2 e2 q => hs s1 σ B1 F H1 S1 o1 s2 e2 _ q) fun b s2 B2 H2 _ h3 e2 S2 hQ2 us hu => ?_
    obtain ⟨z, hz, rfl, rfl⟩ := opt_some h3
    exact hr a b z v us B2 H2 Q S2.exB (Rep.mono e2 a hv) hu hz fun u B3 H3 e3 hu => hQ2 B3 H3 e3.b (S2.ext e3) u hu
  · cases h2
structure MtOk (X : ι → Cx) (o e : Expr) (es : List Expr) (m : Str) (apos pos : Pos) : Prop where
  base : ∀ j, attributeBase o m (X j).env (eval o (X j).env) = eval o (X j).env
  few : ∀ j, ((backTo pos (starEach (e :: es) (X j).env)).all (fun x => !x.1) && (backToKw pos (keywordEach [] (X j).env)).all (fun x => x.1.isSome)
      && decide ((e :: es).length + ([] : List Keyword).length + (if ([] : List Keyword).isEmpty then 0 else 1) < 30)) = true
  line : (apos.endLine == pos.line) = true
  st : ∀ j, starEach (e :: es) (X j).env = (false, eval e (X j).env) :: starEach es (X j).env
  pl : ∀ j, (backTo pos (starEach es (X j).env)).any (·.1) = false
theorem xe_mt {ty id : String} {rr : V → List V → Hp → VK → Prop} {g : D → List D → Option D} (pa : PlainAttrs ty) (slot : Slot ty m id) (hty : typeOf (.builtin id) = pure (.type "method_descriptor")) (hp : PrimM T rr g) (hm : ∀ j, MtR (X j) id rr) (ho : XE T E X o fa) (ha : XA T E X (e :: es) fs)
    (hK : ∀ j, (X j).K = T.K := by intro j; rfl) (k : MtOk X o e es m apos pos := by exact ⟨fun j => rfl, fun j => rfl, rfl, fun j => rfl, fun j => rfl⟩) : XE T E X (.Call (.Attribute o m apos) (e :: es) [] pos) (eMt ty g fa fs) :=
  let ⟨_, a1, a2⟩ := ho; let ⟨_, b1, b2⟩ := ha; ⟨_, fun j => by rw [← hK j]; exact pe_bm pa slot hty (hm j) (a1 j) (b1 j) (k.base j) (k.few j) k.line (k.st j) (k.pl j), semE_mt hp a2 b2⟩
theorem reps_strs {B : Hp} : ∀ {l : List Str}, (∀ s ∈ l, PyData.strOk s = true) → Reps T B (l.map D.str) (l.map V.str)
  | [], _ => reps_nil
  | s :: l, h => reps_cons ⟨rfl, h s (.head _)⟩ (reps_strs fun z hz => h z (.tail _ hz))
def sExtA (i : Nat) (m : M D) : MS := fun st => if isL st[i]? then (match m st with
  | some (.v y, s) => (match (match y with | .lst ys => some ys | .tup ys => some ys | _ => none), s[i]? with
    | some ys, some (some (.ol xs)) => if xs.length + ys.length ≤ sizeLine then some (.nx, s.set i (some (.ol (xs ++ ys)))) else none
    | _, _ => none)
  | some (.x c, s) => some (.x c, s)
  | none => none) else none
end
end Fz
set_option Elab.async false
set_option linter.all false
set_option maxRecDepth 100000
set_option maxHeartbeats 2000000
namespace Fz
open PySem L2 PySem.Spec PyProof.Rows
section
variable (T : Tab) (mg : Str → Option Value)
def GFun (x : Str) (st : Stmt) (ps : List Str) : Prop := ∃ f fd, mg x = some (.ref f) ∧ Fun T.K x x st f fd ∧ Binds T.K fd ps []
def GlobD (x : Str) (d : D) : Prop := ∃ v u, mg x = some u ∧ RelV v u ∧ ∀ B, Rep T B d v
end
section
variable {P : Program} {w : World} {T : Tab} {mg : Str → Option Value} {base : Heap} {x m qual : Str} {st : Stmt} {N ps : List Str} {k c : Nat} {kp : Nat → Bool} {body : MS}
abbrev Does (P : Program) (w : World) (T : Tab) (mg : Str → Option Value) (base : Heap) (N : List Str) (qual : Str) (st : Stmt) (k : Nat) (kp : Nat → Bool) (body : MS) : Prop :=
  ∀ (f : Addr) (cdv : Value) (A : Around) (outer : List Env) (s : Shared) (H : Hp) (E : XK), Room k (A.deeper (envOfC qual (defScope st) s.heap.objs.size f cdv)) → XSs T (fun _ => E) (CxD P w T mg base N qual st f cdv A outer s H E) kp (defBody st) body
theorem fng_g (G : GFun T mg x st ps) (S : FnScope N ps (defScope st)) (h : Does P w T mg base N x st k kp body) : FnG P w T mg base x ps.length (fnOf ps.length N.length kp body) (k + 1) := by
  obtain ⟨f, fd, h1, h2, h3⟩ := G
  exact ⟨f, fd, ps, h1, h2.kp, h3, ok_def h2 S (h f)⟩
end
section
variable {ι : Type} {T : Tab} {E : L2.St → XK} {X : ι → Cx} {kp : Nat → Bool} {pos apos : Pos} {e a b c o : Expr} {es : List Expr} {fa fb : M D} {fs : M (List D)} {r : M R} {x : Str}
theorem xe_gd {d : D} {mg : Str → Option Value} (G : GlobD T mg x d) (hm : ∀ j, (X j).mg x = mg x := by intro j; rfl) (hg : ∀ j, Gl (X j) x := by intro j; rfl) (hd : (x == ("__debug__" : Str)) = false := by decide +kernel) : XE T E X (.Name x pos) (ret d) :=
  let ⟨v, u, h1, h2, h3⟩ := G; xe_glob (u := u) (fun j => (hm j).trans h1) h2 h3 hg hd
theorem rm_blk {scope : Scope} (h : Rm X) : Rm (Blk X scope) := fun q => h q.1
end
end Fz
namespace Fz
open PySem L2 PySem.Spec PyProof.Rows
section
variable {T : Tab} {K : PySem.W.Frag} {h : Heap} {mg : Str → Option Value}
theorem fun_of {x qual : Str} {st : Stmt} {f : Addr} {fd : FuncData} (F : FunD K x qual (defArgs st) (defBody st) (defScope st) [] [] f fd) : Fun K x qual st f fd := by
  obtain ⟨oc, od, dV, kV, doc, pm, an, cdv, ct, osl, rfl, lk, hcd, hD, _⟩ := F.ex
  rcases hD with ⟨_, rfl⟩ | ⟨e, _⟩
  · exact ⟨⟨oc, od, kV, doc, pm, an, cdv, ct, osl, rfl, lk, hcd⟩, F.kp⟩
  · exact absurd rfl e
end
end Fz
set_option Elab.async false
set_option linter.all false
set_option maxRecDepth 100000
set_option maxHeartbeats 2000000
namespace Fz
open PySem L2 PySem.Spec PyProof.Rows
def LawDoes (F : Fn) : Prop := ∀ ns : List Int, ns.length ≤ 63 → ∃ rs, F [.d (.lst (ns.map D.int))] = some (.v (.d (.bl true)), rs)
theorem reps_ints {T : Tab} {B : Hp} : ∀ ns : List Int, Reps T B (ns.map D.int) (ns.map V.int)
  | [] => reps_nil
  | _ :: r => reps_cons rfl (reps_ints r)
theorem law_sp {T : Tab} {F : Fn} {H : Hp} {a : Addr} {ns : List Int} (h : LawDoes F) (hl : ns.length ≤ 63) (hT : ∀ p ∈ T.tt, H p.1 = some (.tbl #[])) (hS : SqL T.K H a (ns.map V.int)) : sp T 1 F [.ref a] H (fun v _ => v = .bl true) fun _ _ _ => False := by
  obtain ⟨rs, e⟩ := h ns hl
  have out : ∀ {b : Addr} {o : HO}, H b = some o → (∀ ps, o ≠ .tbl ps) → noT T H b = some o := fun {b o} q n => by
    rw [noT_out]
    · exact q
    · rintro ⟨p, hp, e⟩
      have := hT p hp
      rw [e, q] at this
      exact n _ (Option.some.inj this)
  have hS2 : SqL T.K (noT T H) a (ns.map V.int) := by
    rcases hS with (q | ⟨o, q⟩) | q
    · exact .inl (.inl (out q fun ps z => nomatch z))
    · exact .inl (.inr ⟨o, out q fun ps z => nomatch z⟩)
    · exact .inr q
  refine ⟨rfl, [.d (.lst (ns.map D.int))], noT T H, fun _ => none, _, rs, ?_, e, fun v B' H' _ S => ?_⟩
  · refine ⟨noT_ex, fun _ _ z => (nomatch z), fun _ _ z => (nomatch z), fun _ _ z => out z (fun ps z => (nomatch z)), rfl, fun i r h => ?_, fun i r v a h1 h2 h3 => ?_, fun i j r q v u b n h1 h2 h3 h4 h5 h6 => ?_, ⟨fun _ _ z => (nomatch z), fun p hp => ⟨if_pos ⟨p, hp, rfl⟩, #[], hT p hp, trivial, fun pos cv hc => ?_⟩⟩⟩
    · cases i with
      | zero =>
        simp at h; subst h
        exact ⟨_, rfl, by show Rep T (noT T H) (.lst _) _; unfold Rep; exact ⟨a, _, rfl, hS2, reps_ints ns⟩⟩
      | succ i => simp at h
    · cases i with
      | zero => simp at h1; subst h1; exact h3.elim
      | succ i => simp at h1
    · cases i with
      | zero => simp at h1; subst h1; exact h5.elim
      | succ i => simp at h1
    · have z : codeAmong pos [] = some cv := hc
      simp [codeAmong] at z
  · have := S.rel 0 _ rfl
    obtain ⟨u, hu, r⟩ := this
    cases hu
    exact rep_bl (T := T) (B := B') r
section
variable {K : PySem.W.Frag} {h : Heap} {mg : Str → Option Value}
end
end Fz
set_option Elab.async false
set_option linter.all false
set_option maxRecDepth 100000
set_option maxHeartbeats 2000000
namespace Fz
open PySem L2
def wp {α : Type} (m : M α) (st : Sl) (Q : Oc α → Sl → Prop) : Prop := match m st with
  | some (o, s) => Q o s
  | none => False
def ws (m : MS) (st : Sl) (Q : Fl → Sl → Prop) : Prop := match m st with
  | some (o, s) => Q o s
  | none => False
def wf (F : Fn) (rs : List R) (Q : Oc R → List R → Prop) : Prop := match F rs with
  | some (o, s) => Q o s
  | none => False
def wpe {α : Type} (m : M α) (st : Sl) (Q : Oc α → Sl → Prop) : Prop := wp m st Q
def wse (m : MS) (st : Sl) (Q : Fl → Sl → Prop) : Prop := ws m st Q
def wo {α : Type} (o : Option α) (k : α → Prop) : Prop := ∃ a, o = some a ∧ k a
def wb (b : Bool) (p q : Prop) : Prop := if b = true then p else q
def wa (c p : Prop) : Prop := c ∧ p
def vx {α β : Type} (Q : Oc β → Sl → Prop) (k : α → Sl → Prop) : Oc α → Sl → Prop
  | .v a, s => k a s
  | .x c, s => Q (.x c) s
def vs {α : Type} (Q : Fl → Sl → Prop) (k : α → Sl → Prop) : Oc α → Sl → Prop
  | .v a, s => k a s
  | .x c, s => Q (.x c) s
def nx (Q : Fl → Sl → Prop) (k : Sl → Prop) : Fl → Sl → Prop
  | .nx, s => k s
  | f, s => Q f s
def lp (Q : Fl → Sl → Prop) (k : Sl → Prop) : Fl → Sl → Prop
  | .nx, s => k s
  | .ct, s => k s
  | .bk, s => Q .nx s
  | f, s => Q f s
def gt : Sl → Nat → Option (Option R)
  | [], _ => none
  | a :: _, 0 => some a
  | _ :: l, i + 1 => gt l i
def stt : Sl → Nat → Option R → Sl
  | [], _, _ => []
  | _ :: l, 0, x => x :: l
  | a :: l, i + 1, x => a :: stt l i x
theorem gt_eq : ∀ (s : Sl) (i : Nat), s[i]? = gt s i
  | [], _ => by simp [gt]
  | a :: _, 0 => rfl
  | _ :: l, i + 1 => by simp [gt, gt_eq l i]
theorem stt_eq : ∀ (s : Sl) (i : Nat) (x : Option R), s.set i x = stt s i x
  | [], _, _ => rfl
  | a :: _, 0, _ => rfl
  | a :: l, i + 1, x => by rw [List.set_cons_succ, stt_eq l i]; rfl
def vr (o : Option (Option R)) (i : Nat) (st : Sl) (Q : Oc D → Sl → Prop) : Prop := match o with
  | some (some (.d x)) => Q (.v x) st
  | some (some (.ol xs)) => Q (.v (.lst xs)) (stt st i (some (.d (.lst xs))))
  | some (some (.od ks vs)) => Q (.v (.dct ks vs)) (stt st i (some (.d (.dct ks vs))))
  | _ => False
section
variable {α β : Type} {st s : Sl} {Q : Oc D → Sl → Prop} {QR : Oc R → Sl → Prop} {QB : Oc Bool → Sl → Prop} {QL : Oc (List D) → Sl → Prop} {QA : Oc (List Arg) → Sl → Prop} {QS : Fl → Sl → Prop} {fa fb fc : M D} {fs : M (List D)} {r : M R}
-- ends
theorem vs_v {k : α → Sl → Prop} {a : α} : vs QS k (.v a) s = k a s := rfl
theorem lp_nx {k : Sl → Prop} : lp QS k .nx s = k s := rfl
theorem lp_rt {k : Sl → Prop} {v : R} : lp QS k (.rt v) s = QS (.rt v) s := rfl
theorem lp_bk {k : Sl → Prop} : lp QS k .bk s = QS .nx s := rfl
theorem lp_ct {k : Sl → Prop} : lp QS k .ct s = k s := rfl
theorem lp_x {k : Sl → Prop} {c : Nat} : lp QS k (.x c) s = QS (.x c) s := rfl
theorem wo_some {k : α → Prop} {a : α} : wo (some a) k = k a := propext ⟨fun ⟨_, e, h⟩ => by cases e; exact h, fun h => ⟨_, rfl, h⟩⟩
theorem wo_none {k : α → Prop} : wo (none : Option α) k = False := propext ⟨fun ⟨_, e, h⟩ => (nomatch e), fun h => h.elim⟩
theorem wo_if {c : Prop} [Decidable c] {k : α → Prop} {a : α} : wo (if c then some a else none) k = wa c (k a) := by
  refine propext ⟨fun ⟨_, e, h⟩ => ?_, fun h => ⟨_, if_pos h.1, h.2⟩⟩
  split at e
  · rename_i hc; cases e; exact ⟨hc, h⟩
  · cases e
theorem wb_t {p q : Prop} : wb true p q = p := rfl
theorem wb_f {p q : Prop} : wb false p q = q := by unfold wb; simp
theorem wb_of {b : Bool} {p q : Prop} (h1 : b = true → p) (h2 : b = false → q) : wb b p q := by
  cases b with
  | true => exact h1 rfl
  | false => rw [wb_f]; exact h2 rfl
theorem wa_t {p : Prop} : wa True p = p := by unfold wa; simp
theorem wf_of {F : Fn} {rs rs' : List R} {o : Oc R} {Q : Oc R → List R → Prop} (h : F rs = some (o, rs')) : wf F rs Q = Q o rs' := by unfold wf; rw [h]
theorem wf_get {F : Fn} {rs : List R} {Q : Oc R → List R → Prop} (h : wf F rs Q) : ∃ o rs', F rs = some (o, rs') ∧ Q o rs' := by
  unfold wf at h
  split at h
  · rename_i o s e; exact ⟨o, s, e, h⟩
  · exact h.elim
theorem wf_eq {F : Fn} {rs rs' : List R} {o : Oc R} (h : wf F rs (fun p q => p = o ∧ q = rs')) : F rs = some (o, rs') := by
  obtain ⟨p, q, e, rfl, rfl⟩ := wf_get h
  exact e
theorem wpe_eq {m : M α} {Q : Oc α → Sl → Prop} : wpe m st Q = wp m st Q := rfl
theorem wse_eq {m : MS} : wse m st QS = ws m st QS := rfl
-- terms
theorem wp_ret {a : α} {Q : Oc α → Sl → Prop} : wp (ret a) st Q = Q (.v a) st := rfl
theorem wp_bnd {m : M α} {k : α → M β} {Q : Oc β → Sl → Prop} : wp (bnd m k) st Q = wp m st (vx Q fun a s => wp (k a) s Q) := by
  unfold wp bnd
  cases m st with
  | none => rfl
  | some p => obtain ⟨o, s⟩ := p; cases o <;> rfl
theorem wp_opt {o : Option α} {Q : Oc α → Sl → Prop} : wp (opt o) st Q = wo o fun a => Q (.v a) st := by
  unfold wp opt
  cases o with
  | none => rw [wo_none]
  | some a => rw [wo_some]
theorem wp_eUn {g : D → Option D} : wp (eUn g fa) st Q = wp fa st (vx Q fun x s => wo (g x) fun z => Q (.v z) s) := by
  unfold eUn; rw [wp_bnd]; simp only [wp_opt]
theorem wp_eBin {g : D → D → Option D} : wp (eBin g fa fb) st Q = wp fa st (vx Q fun x s => wp fb s (vx Q fun y s => wo (g x y) fun z => Q (.v z) s)) := by
  unfold eBin; rw [wp_bnd]; simp only [wp_bnd, wp_opt]
theorem wp_eCons {fr : M (List D)} : wp (eCons fa fr) st QL = wp fa st (vx QL fun x s => wp fr s (vx QL fun xs s => QL (.v (x :: xs)) s)) := by
  unfold eCons; rw [wp_bnd]; simp only [wp_bnd, wp_ret]
theorem wp_eOp {g : List D → Option D} : wp (eOp g fs) st Q = wp fs st (vx Q fun x s => wo (g x) fun z => Q (.v z) s) := by
  unfold eOp; rw [wp_bnd]; simp only [wp_opt]
theorem wp_eTup : wp (eTup fs) st Q = wp fs st (vx Q fun x s => wa (x.length ≤ sizeLine) (Q (.v (.tup x)) s)) := by
  unfold eTup; rw [wp_bnd]; simp only [wp_opt, wo_if]
theorem wp_rD : wp (rD fa) st QR = wp fa st (vx QR fun x s => QR (.v (.d x)) s) := by unfold rD; rw [wp_bnd]; rfl
theorem wp_rOp {g : List D → Option (List D)} : wp (rOp g fs) st QR = wp fs st (vx QR fun x s => wo (g x) fun z => QR (.v (.ol z)) s) := by
  unfold rOp; rw [wp_bnd]; simp only [wp_opt]
  congr 1; congr 1; funext x s
  cases g x with
  | none => (simp only [Option.map_none]; rw [wo_none, wo_none])
  | some z => (simp only [Option.map_some]; rw [wo_some, wo_some])
theorem wp_rLst : wp (rLst fs) st QR = wp fs st (vx QR fun x s => wa (x.length ≤ sizeLine) (QR (.v (.ol x)) s)) := by
  unfold rLst; rw [wp_bnd]; simp only [wp_opt, wo_if]
theorem wp_eFz {n : Nat → Nat} : wp (eFz n r) st Q = wp r st (vx Q fun x s => wa (wholeB n x = true) (Q (.v (vw x)) s)) := by
  unfold eFz; rw [wp_bnd]; simp only [wp_opt, wo_if]
theorem wp_eVar {i : Nat} : wp (eVar i) st Q = vr (gt st i) i st Q := by
  unfold wp eVar vr
  rw [gt_eq]
  cases gt st i with
  | none => rfl
  | some o => cases o with
    | none => rfl
    | some r => cases r <;> first | rfl | (simp only [stt_eq])
theorem vr_d {i : Nat} {x : D} : vr (some (some (.d x))) i st Q = Q (.v x) st := rfl
theorem vr_ol {i : Nat} {xs : List D} : vr (some (some (.ol xs))) i st Q = Q (.v (.lst xs)) (stt st i (some (.d (.lst xs)))) := rfl
theorem vr_od {i : Nat} {ks vs : List D} : vr (some (some (.od ks vs))) i st Q = Q (.v (.dct ks vs)) (stt st i (some (.d (.dct ks vs)))) := rfl
theorem gt_0 {a : Option R} {l : Sl} : gt (a :: l) 0 = some a := rfl
theorem gt_s {a : Option R} {l : Sl} {i : Nat} : gt (a :: l) (i + 1) = gt l i := rfl
theorem stt_0 {a x : Option R} {l : Sl} : stt (a :: l) 0 x = x :: l := rfl
theorem stt_s {a x : Option R} {l : Sl} {i : Nat} : stt (a :: l) (i + 1) x = a :: stt l i x := rfl
def fx {α : Type} (Q : Oc α → Sl → Prop) (st : Sl) (k : α → Prop) : Oc α → Sl → Prop
  | .v x, _ => k x
  | .x c, _ => Q (.x c) st
theorem wp_eFull {n : Nat → Nat} : wp (eFull n fa) st Q = wpe fa (vwN n st) (fx Q st fun x => wa (imm x = true) (Q (.v x) st)) := by
  unfold wpe wp eFull
  cases fa (vwN n st) with
  | none => rfl
  | some p =>
    obtain ⟨o, s⟩ := p
    cases o with
    | v x =>
      simp only [fx, wa]
      cases imm x <;> simp
    | x c => rfl
theorem wp_tFull {n : Nat → Nat} {f : M Bool} : wp (tFull n f) st QB = wpe f (vwN n st) (fx QB st fun x => QB (.v x) st) := by
  unfold wpe wp tFull
  cases f (vwN n st) with
  | none => rfl
  | some p => obtain ⟨o, s⟩ := p; cases o <;> rfl
def rfx (Q : Oc R → Sl → Prop) (st : Sl) : Oc R → Sl → Prop
  | .v (.ol xs), _ => wa (imms xs = true) (Q (.v (.ol xs)) st)
  | .v (.d x), _ => wa (imm x = true) (Q (.v (.d x)) st)
  | .x c, _ => Q (.x c) st
  | _, _ => False
theorem rfx_x {c : Nat} : rfx QR st (.x c) s = QR (.x c) st := rfl
theorem wp_rFull {n : Nat → Nat} : wp (rFull n r) st QR = wpe r (vwN n st) (rfx QR st) := by
  unfold wpe wp rFull
  cases r (vwN n st) with
  | none => rfl
  | some p =>
    obtain ⟨o, s⟩ := p
    cases o with
    | v x =>
      cases x with
      | d x =>
        simp only [rfx, wa]
        cases imm x <;> simp
      | ol xs =>
        simp only [rfx, wa]
        cases imms xs <;> simp
      | _ => rfl
    | x c => rfl
theorem vwN_nil {n : Nat → Nat} : vwN n [] = [] := rfl
theorem vwN_d {n : Nat → Nat} {x : D} {l : Sl} : vwN n (some (.d x) :: l) = some (.d x) :: vwN n l := rfl
theorem vwN_ol {n : Nat → Nat} {x : List D} {l : Sl} : vwN n (some (.ol x) :: l) = some (.d (.lst x)) :: vwN n l := rfl
theorem vwN_od {n : Nat → Nat} {x y : List D} {l : Sl} : vwN n (some (.od x y) :: l) = some (.d (.dct x y)) :: vwN n l := rfl
theorem vwN_no {n : Nat → Nat} {l : Sl} : vwN n (none :: l) = none :: vwN n l := rfl
theorem vwN_oi {n : Nat → Nat} {c : Nat} {x : List D} {l : Sl} : vwN n (some (.oi c x) :: l) = (if (x.length == n c) = true then some (.d (.obj c x)) else none) :: vwN n l := rfl
-- tests
def tb (o : D) (k : Bool → Prop) : Prop := match o with
  | .bl b => k b
  | _ => False
theorem wp_eTst : wp (eTst fa) st QB = wp fa st (vx QB fun x s => tb x fun b => QB (.v b) s) := by
  unfold eTst; rw [wp_bnd]; simp only [wp_opt]
  congr 1; congr 1; funext x s
  cases x <;> first | exact wo_none | exact wo_some
theorem wp_eNot : wp (eNot fa) st Q = wp fa st (vx Q fun x s => tb x fun b => Q (.v (.bl !b)) s) := by
  unfold eNot; rw [wp_bnd]; simp only [wp_opt]
  congr 1; congr 1; funext x s
  cases x <;> first | exact wo_none | exact wo_some
theorem wp_cAnd {f g : M Bool} : wp (cAnd f g) st QB = wp f st (vx QB fun b s => wb b (wp g s QB) (QB (.v false) s)) := by
  unfold cAnd; rw [wp_bnd]; congr 1; congr 1; funext b s; cases b <;> simp [wb, wp_ret]
theorem wp_cOr {f g : M Bool} : wp (cOr f g) st QB = wp f st (vx QB fun b s => wb b (QB (.v true) s) (wp g s QB)) := by
  unfold cOr; rw [wp_bnd]; congr 1; congr 1; funext b s; cases b <;> simp [wb, wp_ret]
theorem wp_cNot {f : M Bool} : wp (cNot f) st QB = wp f st (vx QB fun b s => QB (.v !b) s) := by unfold cNot; rw [wp_bnd]; rfl
theorem wp_eAnd : wp (eAnd fa fb) st Q = wp fa st (vx Q fun x s => tb x fun b => wb b (wp fb s Q) (Q (.v (.bl false)) s)) := by
  unfold eAnd; rw [wp_bnd]; congr 1; congr 1; funext x s
  cases x <;> first | rfl | (rename_i b; cases b <;> simp [wb, tb, wp_ret])
theorem wp_eOr : wp (eOr fa fb) st Q = wp fa st (vx Q fun x s => tb x fun b => wb b (Q (.v (.bl true)) s) (wp fb s Q)) := by
  unfold eOr; rw [wp_bnd]; congr 1; congr 1; funext x s
  cases x <;> first | rfl | (rename_i b; cases b <;> simp [wb, tb, wp_ret])
theorem wp_eChain {g g' : D → D → Option D} : wp (eChain g g' fa fb fc) st Q = wp fa st (vx Q fun x s => wp fb s (vx Q fun y s => wo (g x y) fun z => tb z fun b => wb b (wp fc s (vx Q fun w s => wo (g' y w) fun z => Q (.v z) s)) (Q (.v (.bl false)) s))) := by
  unfold eChain; rw [wp_bnd]; congr 1; congr 1; funext x s; rw [wp_bnd]; congr 1; congr 1; funext y s; rw [wp_bnd, wp_opt]
  cases g x y with
  | none => rw [wo_none, wo_none]
  | some z =>
    rw [wo_some, wo_some]
    show wp _ s Q = _
    cases z <;> first | rfl | (rename_i b; cases b <;> simp [wb, tb, wp_ret, wp_bnd, wp_opt])
theorem wp_eIf {c : M Bool} {p q : M D} : wp (eIf c p q) st Q = wp c st (vx Q fun b s => wb b (wp p s Q) (wp q s Q)) := by
  unfold eIf; rw [wp_bnd]; congr 1; congr 1; funext b s; cases b <;> simp [wb]
theorem wp_rIf {c : M Bool} {p q : M R} : wp (rIf c p q) st QR = wp c st (vx QR fun b s => wb b (wp p s QR) (wp q s QR)) := by
  unfold rIf; rw [wp_bnd]; congr 1; congr 1; funext b s; cases b <;> simp [wb]
-- slices
def ti (o : D) (k : Int → Prop) : Prop := match o with
  | .int b => k b
  | _ => False
theorem ti_int {b : Int} {k : Int → Prop} : ti (.int b) k = k b := rfl
theorem wp_oSome {QO : Oc (Option Int) → Sl → Prop} : wp (oSome fa) st QO = wp fa st (vx QO fun x s => ti x fun i => QO (.v (some i)) s) := by
  unfold oSome; rw [wp_bnd]; simp only [wp_opt]
  congr 1; congr 1; funext x s
  cases x <;> first | exact wo_none | exact wo_some
theorem wp_eSl {lo hi : M (Option Int)} : wp (eSl fa lo hi) st Q = wp fa st (vx Q fun x s => wp lo s (vx Q fun l s => wp hi s (vx Q fun h s => wo (dSl x l h) fun z => Q (.v z) s))) := by
  unfold eSl; rw [wp_bnd]; simp only [wp_bnd, wp_opt]
def tl (o : D) (k : List D → Prop) : Prop := match o with
  | .lst b => k b
  | _ => False
theorem tl_l {b : List D} {k : List D → Prop} : tl (.lst b) k = k b := rfl
theorem wp_rSlL' {lo hi : M (Option Int)} : wp (rSlL' fa lo hi) st QR = wp fa st (vx QR fun x s => wp lo s (vx QR fun l s => wp hi s (vx QR fun h s => tl x fun xs => QR (.v (.ol (cutD xs l h))) s))) := by
  unfold rSlL'; rw [wp_bnd]; simp only [wp_bnd, wp_opt]
  congr 1; congr 1; funext x s; congr 1; congr 1; funext l s; congr 1; congr 1; funext h s
  cases x <;> first | exact wo_none | exact wo_some
-- methods of data
theorem wp_eMt {ty : String} {g : D → List D → Option D} : wp (eMt ty g fa fs) st Q = wp fa st (vx Q fun x s => wa (tyOk ty x = true) (wp fs s (vx Q fun xs s => wo (g x xs) fun z => Q (.v z) s))) := by
  unfold eMt; rw [wp_bnd]; congr 1; congr 1; funext x s
  unfold wa
  cases tyOk ty x with
  | false => simp [wp]
  | true => simp [wp_bnd, wp_opt]
theorem wp_rMt {ty : String} {g : D → List D → Option (List D)} : wp (rMt ty g fa fs) st QR = wp fa st (vx QR fun x s => wa (tyOk ty x = true) (wp fs s (vx QR fun xs s => wo (g x xs) fun z => QR (.v (.ol z)) s))) := by
  unfold rMt; rw [wp_bnd]; congr 1; congr 1; funext x s
  unfold wa
  cases tyOk ty x with
  | false => simp [wp]
  | true =>
    simp only [if_true, wp_bnd, wp_opt, true_and]
    congr 1; congr 1; funext y s
    cases g x y with
    | none => (simp only [Option.map_none]; rw [wo_none, wo_none])
    | some z => (simp only [Option.map_some]; rw [wo_some, wo_some])
theorem wp_rBin {g : D → D → Option (List D)} : wp (rBin g fa fb) st QR = wp fa st (vx QR fun x s => wp fb s (vx QR fun y s => wo (g x y) fun z => QR (.v (.ol z)) s)) := by
  unfold rBin; rw [wp_bnd]; simp only [wp_bnd, wp_opt]
  congr 1; congr 1; funext x s; congr 1; congr 1; funext y s
  cases g x y with
  | none => (simp only [Option.map_none]; rw [wo_none, wo_none])
  | some z => (simp only [Option.map_some]; rw [wo_some, wo_some])
def mv (o : Option (Option R)) (i : Nat) (st : Sl) (Q : Oc R → Sl → Prop) : Prop := match o with
  | some (some r) => Q (.v r) (stt st i none)
  | _ => False
theorem mv_s {i : Nat} {x : R} : mv (some (some x)) i st QR = QR (.v x) (stt st i none) := rfl
theorem wp_rMv {i : Nat} : wp (rMv i) st QR = mv (gt st i) i st QR := by
  unfold wp rMv mv
  rw [gt_eq]
  cases gt st i with
  | none => rfl
  | some o => cases o <;> first | rfl | (simp only [stt_eq])
-- what is walked
theorem wp_iLst : wp (iLst fa) st QL = wp fa st (vx QL fun x s => tl x fun xs => QL (.v xs) s) := by
  unfold iLst; rw [wp_bnd]; simp only [wp_opt]
  congr 1; congr 1; funext x s
  cases x <;> first | exact wo_none | exact wo_some
def tt (o : D) (k : List D → Prop) : Prop := match o with
  | .tup b => k b
  | _ => False
theorem tt_t {b : List D} {k : List D → Prop} : tt (.tup b) k = k b := rfl
theorem wp_iTupl : wp (iTupl fa) st QL = wp fa st (vx QL fun x s => tt x fun xs => QL (.v xs) s) := by
  unfold iTupl; rw [wp_bnd]; simp only [wp_opt]
  congr 1; congr 1; funext x s
  cases x <;> first | exact wo_none | exact wo_some
def tq (o : D) (k : List D → Prop) : Prop := match o with
  | .tup b => k b
  | .lst b => k b
  | _ => False
theorem tq_t {b : List D} {k : List D → Prop} : tq (.tup b) k = k b := rfl
theorem tq_l {b : List D} {k : List D → Prop} : tq (.lst b) k = k b := rfl
theorem wp_iSeq : wp (iSeq fa) st QL = wp fa st (vx QL fun x s => tq x fun xs => QL (.v xs) s) := by
  unfold iSeq; rw [wp_bnd]; simp only [wp_opt]
  congr 1; congr 1; funext x s
  cases x <;> first | exact wo_none | exact wo_some
def tx (o : D) (k : Str → Prop) : Prop := match o with
  | .str b => k b
  | _ => False
theorem tx_s {b : Str} {k : Str → Prop} : tx (.str b) k = k b := rfl
theorem wp_iText : wp (iText fa) st QL = wp fa st (vx QL fun x s => tx x fun z => QL (.v (sgnD z)) s) := by
  unfold iText; rw [wp_bnd]; simp only [wp_opt]
  congr 1; congr 1; funext x s
  cases x <;> first | exact wo_none | exact wo_some
def dR1 : List D → Option (List D)
  | [.int j] => if smallI j then some (rngD 0 j.toNat) else none
  | _ => none
theorem dR1_i {j : Int} : dR1 [.int j] = if smallI j then some (rngD 0 j.toNat) else none := rfl
theorem wp_iR1 : wp (iR1 fs) st QL = wp fs st (vx QL fun x s => wo (dR1 x) fun z => QL (.v z) s) := by
  unfold iR1; rw [wp_bnd]; simp only [wp_opt]; rfl
def dR2 : List D → Option (List D)
  | [.int i, .int j] => if smallI i && smallI j then some (rngD i (j - i).toNat) else none
  | _ => none
theorem dR2_i {i j : Int} : dR2 [.int i, .int j] = if smallI i && smallI j then some (rngD i (j - i).toNat) else none := rfl
theorem wp_iR2 : wp (iR2 fs) st QL = wp fs st (vx QL fun x s => wo (dR2 x) fun z => QL (.v z) s) := by
  unfold iR2; rw [wp_bnd]; simp only [wp_opt]; rfl
def dEn : List D → Option (List D)
  | [.lst xs] => some (enumD 0 xs)
  | _ => none
theorem dEn_i {j : List D} : dEn [.lst j] = some (enumD 0 j) := rfl
theorem wp_iEn : wp (iEn fs) st QL = wp fs st (vx QL fun x s => wo (dEn x) fun z => QL (.v z) s) := by
  unfold iEn; rw [wp_bnd]; simp only [wp_opt]; rfl
-- calls
theorem wp_aV {fr : M (List Arg)} : wp (aV fa fr) st QA = wp fa st (vx QA fun x s => wp fr s (vx QA fun xs s => QA (.v (.v x :: xs)) s)) := by
  unfold aV; rw [wp_bnd]; simp only [wp_bnd, wp_ret]
def isR (o : Option (Option R)) (p : Prop) : Prop := match o with
  | some (some _) => p
  | _ => False
theorem isR_s {x : R} {p : Prop} : isR (some (some x)) p = p := rfl
theorem wp_aO {i : Nat} {fr : M (List Arg)} : wp (aO i fr) st QA = isR (gt st i) (wp fr st (vx QA fun xs s => QA (.v (.o i :: xs)) s)) := by
  rw [← gt_eq]
  unfold aO isR
  cases h : st[i]? with
  | none => simp only [wp, h]
  | some o => cases o with
    | none => simp only [wp, h]
    | some r =>
      have e : wp (bnd fr fun xs => ret (.o i :: xs)) st QA = wp fr st (vx QA fun xs s => QA (.v (.o i :: xs)) s) := by rw [wp_bnd]; rfl
      rw [← e]
      simp only [wp, h]
def gA : List Arg → Sl → Option (List R)
  | [], _ => some []
  | .v x :: as, st => (gA as st).map (.d x :: ·)
  | .o i :: as, st => match gt st i, gA as st with
    | some (some r), some rs => some (r :: rs)
    | _, _ => none
theorem gA_eq : ∀ (as : List Arg) (st : Sl), getA as st = gA as st
  | [], _ => rfl
  | .v x :: as, st => by unfold getA gA; rw [gA_eq as st]
  | .o i :: as, st => by
    unfold getA gA; rw [gA_eq as st, gt_eq]
    try (cases gt st i with
      | none => rfl
      | some o => cases o <;> rfl)
def pA : List Arg → List R → Sl → Sl
  | .o i :: as, r :: rs, st => pA as rs (stt st i (some r))
  | .v _ :: as, _ :: rs, st => pA as rs st
  | _, _, st => st
theorem pA_eq : ∀ (as : List Arg) (rs : List R) (st : Sl), putA as rs st = pA as rs st
  | .o i :: as, r :: rs, st => by unfold putA pA; rw [pA_eq as rs, stt_eq]
  | .v _ :: as, _ :: rs, st => by unfold putA pA; rw [pA_eq as rs]
  | [], _, st => by unfold putA pA; rfl
  | .o i :: as, [], st => rfl
  | .v i :: as, [], st => rfl
theorem wp_callF {F : Fn} {as : List Arg} : wp (callF F as) st QR = wo (gA as st) fun rs => wa ((owns as).Nodup) (wf F rs fun o rs' => wa (rs'.length = rs.length) (QR o (pA as rs' st))) := by
  unfold wp callF wf
  rw [gA_eq]
  cases gA as st with
  | none => rw [wo_none]
  | some rs =>
    rw [wo_some]
    unfold wa
    by_cases h : (owns as).Nodup
    · simp only [h, if_true, true_and]
      cases F rs with
      | none => rfl
      | some p =>
        obtain ⟨o, rs'⟩ := p
        by_cases h2 : rs'.length = rs.length
        · simp only [h2, if_true, true_and, pA_eq]
        · simp only [h2, if_false, false_and]
    · simp only [h, if_false, false_and]
theorem wp_rCall {n : Nat} {F : Fn} {ds : List D} {fl : M (List Arg)} : wp (rCall n F ds fl) st QR = wp fl st (vx QR fun as s => wa (as.length + ds.length = n) (wp (callF F (as ++ ds.map Arg.v)) s QR)) := by
  unfold rCall; rw [wp_bnd]; congr 1; congr 1; funext as s
  unfold wa
  by_cases h : as.length + ds.length = n
  · simp only [h, if_true, true_and]
  · simp only [h, if_false, false_and]; rfl
def to (o : D) (k : Nat → List D → Prop) : Prop := match o with
  | .obj c b => k c b
  | _ => False
theorem to_o {c : Nat} {b : List D} {k : Nat → List D → Prop} : to (.obj c b) k = k c b := rfl
def nx0 {α β : Type} (k : α → Sl → Prop) : Oc α → Sl → Prop
  | .v a, s => k a s
  | _, _ => False
theorem nx0_v {k : α → Sl → Prop} {a : α} : nx0 (β := β) k (.v a) s = k a s := rfl
theorem wp_rMeth {n : Nat} {tab : Nat → Option Fn} {fl : M (List Arg)} : wp (rMeth n tab fa fl) st QR = wp fa st (nx0 (β := D) fun x s => to x fun c xs => wo (tab c) fun F => wp fl s (vx QR fun as s => wa (as.length + 1 = n) (wp (callF F (.v (.obj c xs) :: as)) s QR))) := by
  have gen : ∀ (F : Fn) (c : Nat) (xs : List D) (s : Sl), wp (bnd fl fun as => if as.length + 1 = n then callF F (.v (.obj c xs) :: as) else fun _ => none) s QR = wp fl s (vx QR fun as s => wa (as.length + 1 = n) (wp (callF F (.v (.obj c xs) :: as)) s QR)) := fun F c xs s => by
    rw [wp_bnd]; congr 1; congr 1; funext as s
    unfold wa
    by_cases h : as.length + 1 = n
    · simp only [h, if_true, true_and]
    · simp only [h, if_false, false_and]; rfl
  simp only [← gen]
  unfold wp rMeth
  cases fa st with
  | none => rfl
  | some p =>
    obtain ⟨o, s⟩ := p
    cases o with
    | x c => rfl
    | v x =>
      cases x with
      | obj c xs =>
        simp only [nx0_v, to_o]
        cases tab c with
        | none => rw [wo_none]
        | some F => rw [wo_some]
      | _ => rfl
-- a def
def oend (n : Nat) (kp : Nat → Bool) (rs : List R) (Q : Oc R → List R → Prop) : Fl → Sl → Prop
  | .rt r, s => wo (outs kp 0 rs s) fun qs => Q (.v r) qs
  | .nx, s => wo (outs kp 0 rs s) fun qs => Q (.v (.d .non)) qs
  | .x c, s => wo (outs kp 0 rs s) fun qs => Q (.x c) qs
  | _, _ => False
theorem wf_fnOf {n N : Nat} {kp : Nat → Bool} {body : MS} {rs : List R} {Q : Oc R → List R → Prop} : wf (fnOf n N kp body) rs Q = wa (rs.length = n) (wse body (rs.map some ++ List.replicate (N - n) none) (oend n kp rs Q)) := by
  unfold wf fnOf wse ws wa
  by_cases h : rs.length = n
  · simp only [h, if_true, true_and]
    have wm : ∀ (o : Oc R) (x : Option (List R)), (match (x.map fun qs => (o, qs)) with | some (o, s) => Q o s | none => False) = wo x fun qs => Q o qs := fun o x => by
      cases x with
      | none => rw [wo_none]; rfl
      | some a => rw [wo_some]; rfl
    cases body (rs.map some ++ List.replicate (N - n) none) with
    | none => rfl
    | some p =>
      obtain ⟨f, s⟩ := p
      cases f <;> first | rfl | exact wm _ _
  · simp only [h, if_false, false_and]
theorem outs_nil {kp : Nat → Bool} {i : Nat} {st : Sl} : outs kp i [] st = some [] := by cases st <;> rfl
def outs1 (o : Option R) (t : Option (List R)) : Option (List R) := match o, t with
  | some q, some qs => some (q :: qs)
  | _, _ => none
theorem outs1_s {a : R} {b : List R} : outs1 (some a) (some b) = some (a :: b) := rfl
theorem outs_cons {kp : Nat → Bool} {i : Nat} {a : R} {rs : List R} {b : Option R} {st : Sl} : outs kp i (a :: rs) (b :: st) = outs1 (if kp i = true then b else if isD a = true then some a else none) (outs kp (i + 1) rs st) := rfl
theorem isD_d {x : D} : isD (.d x) = true := rfl
-- rows
theorem ws_sSeq {f g : MS} : ws (sSeq f g) st QS = ws f st (nx QS fun s => ws g s QS) := by
  unfold ws sSeq
  cases f st with
  | none => rfl
  | some p => obtain ⟨o, s⟩ := p; cases o <;> rfl
theorem ws_sSet {i : Nat} {m : M R} : ws (sSet i m) st QS = wp m st (vs QS fun r s => QS .nx (stt s i (some r))) := by
  unfold ws wp sSet
  cases m st with
  | none => rfl
  | some p => obtain ⟨o, s⟩ := p; cases o <;> first | rfl | (simp only [stt_eq]; rfl)
theorem ws_sAsg {m : M D} {g : D → Sl → Option Sl} : ws (sAsg m g) st QS = wp m st (vs QS fun x s => wo (g x s) fun s => QS .nx s) := by
  unfold ws wp sAsg
  cases m st with
  | none => rfl
  | some p =>
    obtain ⟨o, s⟩ := p
    cases o with
    | x c => rfl
    | v x =>
      simp only [vs_v]
      cases g x s with
      | none => rw [wo_none]; rfl
      | some z => rw [wo_some]; rfl
theorem ws_sIf {c : M Bool} {f g : MS} : ws (sIf c f g) st QS = wp c st (vs QS fun b s => wb b (ws f s QS) (ws g s QS)) := by
  unfold ws wp sIf
  cases c st with
  | none => rfl
  | some p =>
    obtain ⟨o, s⟩ := p
    cases o with
    | x c => rfl
    | v b => cases b <;> simp [wb, vs]
theorem ws_sRet {m : M R} : ws (sRet m) st QS = wp m st (vs QS fun r s => QS (.rt r) s) := by
  unfold ws wp sRet
  cases m st with
  | none => rfl
  | some p => obtain ⟨o, s⟩ := p; cases o <;> rfl
theorem ws_sDrop {m : M R} : ws (sDrop m) st QS = wp m st (vs QS fun _ s => QS .nx s) := by
  unfold ws wp sDrop
  cases m st with
  | none => rfl
  | some p => obtain ⟨o, s⟩ := p; cases o <;> rfl
theorem ws_sFor {it : M (List D)} {g : D → Sl → Option Sl} {body : MS} : ws (sFor it g body) st QS = wp it st (vs QS fun ds s => ws (forL g body ds) s QS) := by
  unfold ws wp sFor
  cases it st with
  | none => rfl
  | some p => obtain ⟨o, s⟩ := p; cases o <;> rfl
theorem ws_forL_cons {g : D → Sl → Option Sl} {body : MS} {d : D} {ds : List D} : ws (forL g body (d :: ds)) st QS = wo (g d st) fun s => ws body s (lp QS fun s => ws (forL g body ds) s QS) := by
  unfold ws
  rw [forL.eq_2]
  cases g d st with
  | none => rw [wo_none]
  | some s1 =>
    rw [wo_some]
    simp only []
    cases body s1 with
    | none => rfl
    | some p => obtain ⟨o, s⟩ := p; cases o <;> rfl
theorem wp_sub {m : M α} {Q Q' : Oc α → Sl → Prop} (h : ∀ o s, Q o s → Q' o s) (k : wp m st Q) : wp m st Q' := by
  unfold wp at *
  split at k
  · exact h _ _ k
  · exact k.elim
theorem ws_sub {m : MS} {Q Q' : Fl → Sl → Prop} (h : ∀ o s, Q o s → Q' o s) (k : ws m st Q) : ws m st Q' := by
  unfold ws at *
  split at k
  · exact h _ _ k
  · exact k.elim
theorem ws_for {g : D → Sl → Option Sl} {body : MS} (I : List D → Sl → Prop) {ds : List D} (h0 : I ds st) (hs : ∀ d r s, I (d :: r) s → wo (g d s) fun s1 => ws body s1 (lp QS fun s2 => I r s2)) (h1 : ∀ s, I [] s → QS .nx s) : ws (forL g body ds) st QS := by
  induction ds generalizing st with
  | nil => exact h1 _ h0
  | cons d r ih =>
    rw [ws_forL_cons]
    obtain ⟨s1, e, h⟩ := hs d r st h0
    refine ⟨s1, e, ws_sub (fun o s z => ?_) h⟩
    cases o with
    | nx => exact ih z
    | ct => exact ih z
    | bk => exact z
    | rt v => exact z
    | x c => exact z
theorem ws_while0 {c : M Bool} {body : MS} {n : Nat} : ws (whileL c body (n + 1)) st QS = wp c st (vs QS fun b s => wb b (ws body s (lp QS fun s => ws (whileL c body n) s QS)) (QS .nx s)) := by
  unfold wp
  unfold ws
  rw [whileL.eq_2]
  cases c st with
  | none => rfl
  | some p =>
    obtain ⟨o, s⟩ := p
    cases o with
    | x c => rfl
    | v b =>
      cases b with
      | false => simp [wb, vs]
      | true =>
        simp only [vs_v, wb_t]
        cases body s with
        | none => rfl
        | some p => obtain ⟨o, s⟩ := p; cases o <;> rfl
theorem ws_while {c : M Bool} {body : MS} (I : Nat → Sl → Prop) {n k : Nat} (hk : k < n) (h0 : I k st) (hs : ∀ k s, I k s → wp c s (vs QS fun b s1 => wb b (ws body s1 (lp QS fun s2 => ∃ j, j < k ∧ I j s2)) (QS .nx s1))) : ws (whileL c body n) st QS := by
  induction n generalizing k st with
  | zero => omega
  | succ n ih =>
    rw [ws_while0]
    refine wp_sub (fun o s z => ?_) (hs k st h0)
    cases o with
    | x c => exact z
    | v b =>
      refine wb_of (fun hb => ?_) (fun hb => ?_)
      · subst hb
        refine ws_sub (fun o s z => ?_) z
        cases o with
        | nx => obtain ⟨j, hj, z⟩ := z; exact ih (by omega) z
        | ct => obtain ⟨j, hj, z⟩ := z; exact ih (by omega) z
        | bk => exact z
        | rt v => exact z
        | x c => exact z
      · subst hb
        have z : wb false _ (QS .nx s) := z
        rw [wb_f] at z
        exact z
-- lists that are changed
def gol (o : Option (Option R)) (k : List D → Prop) : Prop := match o with
  | some (some (.ol xs)) => k xs
  | _ => False
theorem gol_s {xs : List D} {k : List D → Prop} : gol (some (some (.ol xs))) k = k xs := rfl
theorem isL_ol {xs : List D} : isL (some (some (.ol xs))) = true := rfl
theorem isL_d {xs : List D} : isL (some (some (.d (.lst xs)))) = true := rfl
theorem ws_sApp' {i : Nat} : ws (sApp' i fa) st QS = wa (isL (gt st i) = true) (wp fa st (vs QS fun x s => gol (gt s i) fun xs => wa (xs.length < sizeLine) (QS .nx (stt s i (some (.ol (xs ++ [x]))))))) := by
  unfold ws wp sApp' sApp wa
  rw [gt_eq]
  by_cases hl : isL (gt st i) = true
  · simp only [hl, if_true, true_and]
    cases fa st with
    | none => rfl
    | some p =>
      obtain ⟨o, s⟩ := p
      cases o with
      | x c => rfl
      | v x =>
        simp only [vs_v]
        rw [gt_eq]
        cases gt s i with
        | none => rfl
        | some o =>
          cases o with
          | none => rfl
          | some r =>
            cases r <;> try rfl
            rename_i xs
            simp only [gol_s, stt_eq]
            by_cases h : xs.length < sizeLine
            · simp only [h, if_true, true_and]
            · simp only [h, if_false, false_and]
  · simp [hl]
theorem ws_sExtA {i : Nat} : ws (sExtA i fa) st QS = wa (isL (gt st i) = true) (wp fa st (vs QS fun x s => tq x fun ys => gol (gt s i) fun xs => wa (xs.length + ys.length ≤ sizeLine) (QS .nx (stt s i (some (.ol (xs ++ ys))))))) := by
  unfold ws wp sExtA wa
  rw [gt_eq]
  by_cases hl : isL (gt st i) = true
  · simp only [hl, if_true, true_and]
    cases fa st with
    | none => rfl
    | some p =>
      obtain ⟨o, s⟩ := p
      cases o with
      | x c => rfl
      | v x =>
        simp only [vs_v]
        rw [gt_eq]
        cases x <;> try rfl
        all_goals
          rename_i ys
          cases gt s i with
          | none => rfl
          | some o =>
            cases o with
            | none => rfl
            | some r =>
              cases r <;> try rfl
              rename_i xs
              simp only [tq_t, tq_l, gol_s, stt_eq]
              by_cases h : xs.length + ys.length ≤ sizeLine
              · simp only [h, if_true, true_and]
              · simp only [h, if_false, false_and]
  · simp [hl]
theorem ws_sSub {i : Nat} {mi : M D} : ws (sSub i mi fa) st QS = wp fa st (vs QS fun x s1 => wa (isL (gt s1 i) = true) (wp mi s1 (vs QS fun y s2 => ti y fun k => gol (gt s2 i) fun xs => wo (ixN xs.length k) fun j => QS .nx (stt s2 i (some (.ol (xs.set j x))))))) := by
  unfold ws wp sSub
  cases fa st with
  | none => rfl
  | some p =>
    obtain ⟨o, s⟩ := p
    cases o with
    | x c => rfl
    | v x =>
      simp only [vs_v, gt_eq, wa]
      cases mi s with
      | none => simp
      | some p =>
        obtain ⟨o, s2⟩ := p
        cases o with
        | x c => cases isL (gt s i) <;> simp [vs]
        | v y =>
          simp only [vs_v, gt_eq]
          cases y <;> try (simp [ti]; done)
          rename_i k
          simp only [ti_int]
          cases gt s2 i with
          | none => simp [gol]
          | some o =>
            cases o with
            | none => simp [gol]
            | some r =>
              cases r <;> try (simp [gol]; done)
              rename_i xs
              simp only [gol_s]
              cases ixN xs.length k with
              | none => simp [wo_none]
              | some j =>
                rw [wo_some]
                cases isL (gt s i) <;> simp [stt_eq]
-- targets
theorem gN_eq {i : Nat} {d : D} : gN i d st = some (stt st i (some (.d d))) := by unfold gN; rw [stt_eq]
theorem gT_eq {n : Nat} {g : List D → Sl → Option Sl} {ds : List D} : gT n g (.tup ds) st = if ds.length = n then g ds st else none := rfl
theorem gsN_eq : gsN [] st = some st := rfl
theorem gsC_eq {f : D → Sl → Option Sl} {g : List D → Sl → Option Sl} {d : D} {r : List D} : gsC f g (d :: r) st = (f d st).bind (g r) := rfl
theorem some_bind' {a : α} {k : α → Option β} : (some a).bind k = k a := rfl
end
end Fz
set_option Elab.async false
set_option linter.all false
set_option maxRecDepth 100000
set_option maxHeartbeats 2000000
namespace Fz
open PySem L2
def wc (c : Prop) (k : Unit → Prop) : Prop := wa c (k ())
theorem wc_t {k : Unit → Prop} : wc True k = k () := wa_t
def wd (b : Bool) (k : Bool → Prop) : Prop := k b
theorem wd_t {k : Bool → Prop} : wd true k = k true := rfl
theorem wd_f {k : Bool → Prop} : wd false k = k false := rfl
theorem wd_of {b : Bool} {k : Bool → Prop} (h1 : b = true → k true) (h2 : b = false → k false) : wd b k := by
  cases b with
  | true => exact h1 rfl
  | false => exact h2 rfl
def kU {α : Type} (k : α → Prop) (a : α) : Unit → Prop := fun _ => k a
theorem kU_a {α : Type} (k : α → Prop) (a : α) : kU k a () = k a := rfl
theorem wo_ifn {α : Type} {c : Prop} [Decidable c] {k : α → Prop} {a : α} : wo (if c then some a else none) k = wc c (kU k a) := wo_if
section
variable {α β : Type} {st s : Sl} {Q : Oc D → Sl → Prop} {QR : Oc R → Sl → Prop} {QB : Oc Bool → Sl → Prop} {QL : Oc (List D) → Sl → Prop} {QA : Oc (List Arg) → Sl → Prop} {QO : Oc (Option Int) → Sl → Prop} {QS : Fl → Sl → Prop} {fa fb fc : M D} {fs : M (List D)} {r : M R}
def kr {α : Type} (Q : Oc α → Sl → Prop) (s : Sl) : α → Prop := fun z => Q (.v z) s
theorem kr_a {α : Type} (Q : Oc α → Sl → Prop) (s : Sl) (z : α) : kr Q s z = Q (.v z) s := rfl
def krl (Q : Oc R → Sl → Prop) (s : Sl) : List D → Prop := fun z => Q (.v (.ol z)) s
theorem krl_a (Q : Oc R → Sl → Prop) (s : Sl) (z : List D) : krl Q s z = Q (.v (.ol z)) s := rfl
def ku {α : Type} (Q : Oc α → Sl → Prop) (z : α) (s : Sl) : Unit → Prop := fun _ => Q (.v z) s
theorem ku_a {α : Type} (Q : Oc α → Sl → Prop) (z : α) (s : Sl) : ku Q z s () = Q (.v z) s := rfl
theorem n_ret : ∀ {α : Type} {a : α} {st : Sl} {Q : Oc α → Sl → Prop}, wp (ret a) st Q = Q (.v a) st := rfl
theorem n_opt : ∀ {α : Type} {o : Option α} {st : Sl} {Q : Oc α → Sl → Prop}, wp (opt o) st Q = wo o (kr Q st) := wp_opt
def kUn (g : D → Option D) (Q : Oc D → Sl → Prop) : Oc (D) → Sl → Prop := vx Q fun x s => wo (g x) (kr Q s)
theorem kUn_v (g : D → Option D) (Q : Oc D → Sl → Prop) (x : D) (s : Sl) : kUn g Q (.v x) s = wo (g x) (kr Q s) := rfl
theorem kUn_x (g : D → Option D) (Q : Oc D → Sl → Prop) (c : Nat) (s : Sl) : kUn g Q (.x c) s = Q (.x c) s := rfl
theorem n_eUn : ∀ {g : D → Option D}, wp (eUn g fa) st Q = wp fa st (kUn g Q) := wp_eUn
def kBin2 (g : D → D → Option D) (x : D) (Q : Oc D → Sl → Prop) : Oc (D) → Sl → Prop := vx Q fun y s => wo (g x y) (kr Q s)
theorem kBin2_v (g : D → D → Option D) (x : D) (Q : Oc D → Sl → Prop) (y : D) (s : Sl) : kBin2 g x Q (.v y) s = wo (g x y) (kr Q s) := rfl
theorem kBin2_x (g : D → D → Option D) (x : D) (Q : Oc D → Sl → Prop) (c : Nat) (s : Sl) : kBin2 g x Q (.x c) s = Q (.x c) s := rfl
def kBin1 (g : D → D → Option D) (fb : M D) (Q : Oc D → Sl → Prop) : Oc (D) → Sl → Prop := vx Q fun x s => wp fb s (kBin2 g x Q)
theorem kBin1_v (g : D → D → Option D) (fb : M D) (Q : Oc D → Sl → Prop) (x : D) (s : Sl) : kBin1 g fb Q (.v x) s = wp fb s (kBin2 g x Q) := rfl
theorem kBin1_x (g : D → D → Option D) (fb : M D) (Q : Oc D → Sl → Prop) (c : Nat) (s : Sl) : kBin1 g fb Q (.x c) s = Q (.x c) s := rfl
theorem n_eBin : ∀ {g : D → D → Option D}, wp (eBin g fa fb) st Q = wp fa st (kBin1 g fb Q) := wp_eBin
def kCons2 (x : D) (Q : Oc (List D) → Sl → Prop) : Oc (List D) → Sl → Prop := vx Q fun xs s => Q (.v (x :: xs)) s
theorem kCons2_v (x : D) (Q : Oc (List D) → Sl → Prop) (xs : List D) (s : Sl) : kCons2 x Q (.v xs) s = Q (.v (x :: xs)) s := rfl
theorem kCons2_x (x : D) (Q : Oc (List D) → Sl → Prop) (c : Nat) (s : Sl) : kCons2 x Q (.x c) s = Q (.x c) s := rfl
def kCons1 (fr : M (List D)) (Q : Oc (List D) → Sl → Prop) : Oc (D) → Sl → Prop := vx Q fun x s => wp fr s (kCons2 x Q)
theorem kCons1_v (fr : M (List D)) (Q : Oc (List D) → Sl → Prop) (x : D) (s : Sl) : kCons1 fr Q (.v x) s = wp fr s (kCons2 x Q) := rfl
theorem kCons1_x (fr : M (List D)) (Q : Oc (List D) → Sl → Prop) (c : Nat) (s : Sl) : kCons1 fr Q (.x c) s = Q (.x c) s := rfl
theorem n_eCons : ∀ {fr : M (List D)}, wp (eCons fa fr) st QL = wp fa st (kCons1 fr QL) := wp_eCons
theorem n_eNil : wp eNil st QL = QL (.v []) st := rfl
def kOp (g : List D → Option D) (Q : Oc D → Sl → Prop) : Oc (List D) → Sl → Prop := vx Q fun x s => wo (g x) (kr Q s)
theorem kOp_v (g : List D → Option D) (Q : Oc D → Sl → Prop) (x : List D) (s : Sl) : kOp g Q (.v x) s = wo (g x) (kr Q s) := rfl
theorem kOp_x (g : List D → Option D) (Q : Oc D → Sl → Prop) (c : Nat) (s : Sl) : kOp g Q (.x c) s = Q (.x c) s := rfl
theorem n_eOp : ∀ {g : List D → Option D}, wp (eOp g fs) st Q = wp fs st (kOp g Q) := wp_eOp
def kTup  (Q : Oc D → Sl → Prop) : Oc (List D) → Sl → Prop := vx Q fun x s => wc (x.length ≤ sizeLine) (ku Q (.tup x) s)
theorem kTup_v  (Q : Oc D → Sl → Prop) (x : List D) (s : Sl) : kTup  Q (.v x) s = wc (x.length ≤ sizeLine) (ku Q (.tup x) s) := rfl
theorem kTup_x  (Q : Oc D → Sl → Prop) (c : Nat) (s : Sl) : kTup  Q (.x c) s = Q (.x c) s := rfl
theorem n_eTup : wp (eTup fs) st Q = wp fs st (kTup Q) := wp_eTup
def kD  (Q : Oc R → Sl → Prop) : Oc (D) → Sl → Prop := vx Q fun x s => Q (.v (.d x)) s
theorem kD_v  (Q : Oc R → Sl → Prop) (x : D) (s : Sl) : kD  Q (.v x) s = Q (.v (.d x)) s := rfl
theorem kD_x  (Q : Oc R → Sl → Prop) (c : Nat) (s : Sl) : kD  Q (.x c) s = Q (.x c) s := rfl
theorem n_rD : wp (rD fa) st QR = wp fa st (kD QR) := wp_rD
def kROp (g : List D → Option (List D)) (Q : Oc R → Sl → Prop) : Oc (List D) → Sl → Prop := vx Q fun x s => wo (g x) (krl Q s)
theorem kROp_v (g : List D → Option (List D)) (Q : Oc R → Sl → Prop) (x : List D) (s : Sl) : kROp g Q (.v x) s = wo (g x) (krl Q s) := rfl
theorem kROp_x (g : List D → Option (List D)) (Q : Oc R → Sl → Prop) (c : Nat) (s : Sl) : kROp g Q (.x c) s = Q (.x c) s := rfl
theorem n_rOp : ∀ {g : List D → Option (List D)}, wp (rOp g fs) st QR = wp fs st (kROp g QR) := wp_rOp
def kLst  (Q : Oc R → Sl → Prop) : Oc (List D) → Sl → Prop := vx Q fun x s => wc (x.length ≤ sizeLine) (ku Q (.ol x) s)
theorem kLst_v  (Q : Oc R → Sl → Prop) (x : List D) (s : Sl) : kLst  Q (.v x) s = wc (x.length ≤ sizeLine) (ku Q (.ol x) s) := rfl
theorem kLst_x  (Q : Oc R → Sl → Prop) (c : Nat) (s : Sl) : kLst  Q (.x c) s = Q (.x c) s := rfl
theorem n_rLst : wp (rLst fs) st QR = wp fs st (kLst QR) := wp_rLst
def kFz (n : Nat → Nat) (Q : Oc D → Sl → Prop) : Oc (R) → Sl → Prop := vx Q fun x s => wc (wholeB n x = true) (ku Q (vw x) s)
theorem kFz_v (n : Nat → Nat) (Q : Oc D → Sl → Prop) (x : R) (s : Sl) : kFz n Q (.v x) s = wc (wholeB n x = true) (ku Q (vw x) s) := rfl
theorem kFz_x (n : Nat → Nat) (Q : Oc D → Sl → Prop) (c : Nat) (s : Sl) : kFz n Q (.x c) s = Q (.x c) s := rfl
theorem n_eFz : ∀ {n : Nat → Nat}, wp (eFz n r) st Q = wp r st (kFz n Q) := wp_eFz
theorem n_eVar : ∀ {i : Nat}, wp (eVar i) st Q = vr (gt st i) i st Q := wp_eVar
def kFull (st : Sl) (Q : Oc D → Sl → Prop) : Oc D → Sl → Prop := fx Q st fun x => wa (imm x = true) (Q (.v x) st)
theorem kFull_v (st : Sl) (Q : Oc D → Sl → Prop) (x : D) (s : Sl) : kFull st Q (.v x) s = wc (imm x = true) (ku Q x st) := rfl
theorem kFull_x (st : Sl) (Q : Oc D → Sl → Prop) (c : Nat) (s : Sl) : kFull st Q (.x c) s = Q (.x c) st := rfl
theorem n_eFull : ∀ {n : Nat → Nat}, wp (eFull n fa) st Q = wpe fa (vwN n st) (kFull st Q) := wp_eFull
def kTFull (st : Sl) (Q : Oc Bool → Sl → Prop) : Oc Bool → Sl → Prop := fx Q st fun x => Q (.v x) st
theorem kTFull_v (st : Sl) (Q : Oc Bool → Sl → Prop) (x : Bool) (s : Sl) : kTFull st Q (.v x) s = Q (.v x) st := rfl
theorem kTFull_x (st : Sl) (Q : Oc Bool → Sl → Prop) (c : Nat) (s : Sl) : kTFull st Q (.x c) s = Q (.x c) st := rfl
theorem n_tFull : ∀ {n : Nat → Nat} {f : M Bool}, wp (tFull n f) st QB = wpe f (vwN n st) (kTFull st QB) := wp_tFull
theorem n_rfx_ol {xs : List D} : rfx QR st (.v (.ol xs)) s = wc (imms xs = true) (ku QR (.ol xs) st) := rfl
theorem n_rfx_d {x : D} : rfx QR st (.v (.d x)) s = wc (imm x = true) (ku QR (.d x) st) := rfl
theorem n_rFull : ∀ {n : Nat → Nat}, wp (rFull n r) st QR = wpe r (vwN n st) (rfx QR st) := wp_rFull
def kTst  (Q : Oc Bool → Sl → Prop) : Oc (D) → Sl → Prop := vx Q fun x s => tb x (kr Q s)
theorem kTst_v  (Q : Oc Bool → Sl → Prop) (x : D) (s : Sl) : kTst  Q (.v x) s = tb x (kr Q s) := rfl
theorem kTst_x  (Q : Oc Bool → Sl → Prop) (c : Nat) (s : Sl) : kTst  Q (.x c) s = Q (.x c) s := rfl
theorem n_eTst : wp (eTst fa) st QB = wp fa st (kTst QB) := wp_eTst
def krn (Q : Oc D → Sl → Prop) (s : Sl) : Bool → Prop := fun b => Q (.v (.bl !b)) s
theorem krn_a (Q : Oc D → Sl → Prop) (s : Sl) (b : Bool) : krn Q s b = Q (.v (.bl !b)) s := rfl
def kNot  (Q : Oc D → Sl → Prop) : Oc (D) → Sl → Prop := vx Q fun x s => tb x (krn Q s)
theorem kNot_v  (Q : Oc D → Sl → Prop) (x : D) (s : Sl) : kNot  Q (.v x) s = tb x (krn Q s) := rfl
theorem kNot_x  (Q : Oc D → Sl → Prop) (c : Nat) (s : Sl) : kNot  Q (.x c) s = Q (.x c) s := rfl
theorem n_eNot : wp (eNot fa) st Q = wp fa st (kNot Q) := wp_eNot
def wAnd (g : M Bool) (Q : Oc Bool → Sl → Prop) (s : Sl) : Bool → Prop := fun b => wb b (wp g s Q) (Q (.v false) s)
theorem wAnd_t (g : M Bool) (Q : Oc Bool → Sl → Prop) (s : Sl) : wAnd g Q s true = wp g s Q := rfl
theorem wAnd_f (g : M Bool) (Q : Oc Bool → Sl → Prop) (s : Sl) : wAnd g Q s false = Q (.v false) s := wb_f
def kAnd (g : M Bool) (Q : Oc Bool → Sl → Prop) : Oc (Bool) → Sl → Prop := vx Q fun b s => wd b (wAnd g Q s)
theorem kAnd_v (g : M Bool) (Q : Oc Bool → Sl → Prop) (b : Bool) (s : Sl) : kAnd g Q (.v b) s = wd b (wAnd g Q s) := rfl
theorem kAnd_x (g : M Bool) (Q : Oc Bool → Sl → Prop) (c : Nat) (s : Sl) : kAnd g Q (.x c) s = Q (.x c) s := rfl
theorem n_cAnd : ∀ {f g : M Bool}, wp (cAnd f g) st QB = wp f st (kAnd g QB) := wp_cAnd
def wOr (g : M Bool) (Q : Oc Bool → Sl → Prop) (s : Sl) : Bool → Prop := fun b => wb b (Q (.v true) s) (wp g s Q)
theorem wOr_t (g : M Bool) (Q : Oc Bool → Sl → Prop) (s : Sl) : wOr g Q s true = Q (.v true) s := rfl
theorem wOr_f (g : M Bool) (Q : Oc Bool → Sl → Prop) (s : Sl) : wOr g Q s false = wp g s Q := wb_f
def kOr (g : M Bool) (Q : Oc Bool → Sl → Prop) : Oc (Bool) → Sl → Prop := vx Q fun b s => wd b (wOr g Q s)
theorem kOr_v (g : M Bool) (Q : Oc Bool → Sl → Prop) (b : Bool) (s : Sl) : kOr g Q (.v b) s = wd b (wOr g Q s) := rfl
theorem kOr_x (g : M Bool) (Q : Oc Bool → Sl → Prop) (c : Nat) (s : Sl) : kOr g Q (.x c) s = Q (.x c) s := rfl
theorem n_cOr : ∀ {f g : M Bool}, wp (cOr f g) st QB = wp f st (kOr g QB) := wp_cOr
def kCNot  (Q : Oc Bool → Sl → Prop) : Oc (Bool) → Sl → Prop := vx Q fun b s => Q (.v !b) s
theorem kCNot_v  (Q : Oc Bool → Sl → Prop) (b : Bool) (s : Sl) : kCNot  Q (.v b) s = Q (.v !b) s := rfl
theorem kCNot_x  (Q : Oc Bool → Sl → Prop) (c : Nat) (s : Sl) : kCNot  Q (.x c) s = Q (.x c) s := rfl
theorem n_cNot : ∀ {f : M Bool}, wp (cNot f) st QB = wp f st (kCNot QB) := wp_cNot
theorem n_cYes : wp cYes st QB = QB (.v true) st := rfl
def wEAnd (fb : M D) (Q : Oc D → Sl → Prop) (s : Sl) : Bool → Prop := fun b => wb b (wp fb s Q) (Q (.v (.bl false)) s)
theorem wEAnd_t (fb : M D) (Q : Oc D → Sl → Prop) (s : Sl) : wEAnd fb Q s true = wp fb s Q := rfl
theorem wEAnd_f (fb : M D) (Q : Oc D → Sl → Prop) (s : Sl) : wEAnd fb Q s false = Q (.v (.bl false)) s := wb_f
def kEAnd (fb : M D) (Q : Oc D → Sl → Prop) : Oc (D) → Sl → Prop := vx Q fun x s => tb x (wEAnd fb Q s)
theorem kEAnd_v (fb : M D) (Q : Oc D → Sl → Prop) (x : D) (s : Sl) : kEAnd fb Q (.v x) s = tb x (wEAnd fb Q s) := rfl
theorem kEAnd_x (fb : M D) (Q : Oc D → Sl → Prop) (c : Nat) (s : Sl) : kEAnd fb Q (.x c) s = Q (.x c) s := rfl
theorem n_eAnd : wp (eAnd fa fb) st Q = wp fa st (kEAnd fb Q) := wp_eAnd
def wEOr (fb : M D) (Q : Oc D → Sl → Prop) (s : Sl) : Bool → Prop := fun b => wb b (Q (.v (.bl true)) s) (wp fb s Q)
theorem wEOr_t (fb : M D) (Q : Oc D → Sl → Prop) (s : Sl) : wEOr fb Q s true = Q (.v (.bl true)) s := rfl
theorem wEOr_f (fb : M D) (Q : Oc D → Sl → Prop) (s : Sl) : wEOr fb Q s false = wp fb s Q := wb_f
def kEOr (fb : M D) (Q : Oc D → Sl → Prop) : Oc (D) → Sl → Prop := vx Q fun x s => tb x (wEOr fb Q s)
theorem kEOr_v (fb : M D) (Q : Oc D → Sl → Prop) (x : D) (s : Sl) : kEOr fb Q (.v x) s = tb x (wEOr fb Q s) := rfl
theorem kEOr_x (fb : M D) (Q : Oc D → Sl → Prop) (c : Nat) (s : Sl) : kEOr fb Q (.x c) s = Q (.x c) s := rfl
theorem n_eOr : wp (eOr fa fb) st Q = wp fa st (kEOr fb Q) := wp_eOr
theorem tb_n {b : Bool} {k : Bool → Prop} : tb (.bl b) k = wd b k := rfl
def wChain (g' : D → D → Option D) (fc : M D) (y : D) (Q : Oc D → Sl → Prop) (s : Sl) : Bool → Prop := fun b => wb b (wp fc s (kBin2 g' y Q)) (Q (.v (.bl false)) s)
theorem wChain_t (g' : D → D → Option D) (fc : M D) (y : D) (Q : Oc D → Sl → Prop) (s : Sl) : wChain g' fc y Q s true = wp fc s (kBin2 g' y Q) := rfl
theorem wChain_f (g' : D → D → Option D) (fc : M D) (y : D) (Q : Oc D → Sl → Prop) (s : Sl) : wChain g' fc y Q s false = Q (.v (.bl false)) s := wb_f
def kCh3 (g' : D → D → Option D) (fc : M D) (y : D) (Q : Oc D → Sl → Prop) (s : Sl) : D → Prop := fun z => tb z (wChain g' fc y Q s)
theorem kCh3_a (g' : D → D → Option D) (fc : M D) (y : D) (Q : Oc D → Sl → Prop) (s : Sl) (z : D) : kCh3 g' fc y Q s z = tb z (wChain g' fc y Q s) := rfl
def kCh2 (g g' : D → D → Option D) (fc : M D) (x : D) (Q : Oc D → Sl → Prop) : Oc (D) → Sl → Prop := vx Q fun y s => wo (g x y) (kCh3 g' fc y Q s)
theorem kCh2_v (g g' : D → D → Option D) (fc : M D) (x : D) (Q : Oc D → Sl → Prop) (y : D) (s : Sl) : kCh2 g g' fc x Q (.v y) s = wo (g x y) (kCh3 g' fc y Q s) := rfl
theorem kCh2_x (g g' : D → D → Option D) (fc : M D) (x : D) (Q : Oc D → Sl → Prop) (c : Nat) (s : Sl) : kCh2 g g' fc x Q (.x c) s = Q (.x c) s := rfl
def kCh1 (g g' : D → D → Option D) (fb fc : M D) (Q : Oc D → Sl → Prop) : Oc (D) → Sl → Prop := vx Q fun x s => wp fb s (kCh2 g g' fc x Q)
theorem kCh1_v (g g' : D → D → Option D) (fb fc : M D) (Q : Oc D → Sl → Prop) (x : D) (s : Sl) : kCh1 g g' fb fc Q (.v x) s = wp fb s (kCh2 g g' fc x Q) := rfl
theorem kCh1_x (g g' : D → D → Option D) (fb fc : M D) (Q : Oc D → Sl → Prop) (c : Nat) (s : Sl) : kCh1 g g' fb fc Q (.x c) s = Q (.x c) s := rfl
theorem n_eChain : ∀ {g g' : D → D → Option D}, wp (eChain g g' fa fb fc) st Q = wp fa st (kCh1 g g' fb fc Q) := wp_eChain
def wEIf (p q : M D) (Q : Oc D → Sl → Prop) (s : Sl) : Bool → Prop := fun b => wb b (wp p s Q) (wp q s Q)
theorem wEIf_t (p q : M D) (Q : Oc D → Sl → Prop) (s : Sl) : wEIf p q Q s true = wp p s Q := rfl
theorem wEIf_f (p q : M D) (Q : Oc D → Sl → Prop) (s : Sl) : wEIf p q Q s false = wp q s Q := wb_f
def kEIf (p q : M D) (Q : Oc D → Sl → Prop) : Oc (Bool) → Sl → Prop := vx Q fun b s => wd b (wEIf p q Q s)
theorem kEIf_v (p q : M D) (Q : Oc D → Sl → Prop) (b : Bool) (s : Sl) : kEIf p q Q (.v b) s = wd b (wEIf p q Q s) := rfl
theorem kEIf_x (p q : M D) (Q : Oc D → Sl → Prop) (c : Nat) (s : Sl) : kEIf p q Q (.x c) s = Q (.x c) s := rfl
theorem n_eIf : ∀ {c : M Bool} {p q : M D}, wp (eIf c p q) st Q = wp c st (kEIf p q Q) := wp_eIf
def wRIf (p q : M R) (Q : Oc R → Sl → Prop) (s : Sl) : Bool → Prop := fun b => wb b (wp p s Q) (wp q s Q)
theorem wRIf_t (p q : M R) (Q : Oc R → Sl → Prop) (s : Sl) : wRIf p q Q s true = wp p s Q := rfl
theorem wRIf_f (p q : M R) (Q : Oc R → Sl → Prop) (s : Sl) : wRIf p q Q s false = wp q s Q := wb_f
def kRIf (p q : M R) (Q : Oc R → Sl → Prop) : Oc (Bool) → Sl → Prop := vx Q fun b s => wd b (wRIf p q Q s)
theorem kRIf_v (p q : M R) (Q : Oc R → Sl → Prop) (b : Bool) (s : Sl) : kRIf p q Q (.v b) s = wd b (wRIf p q Q s) := rfl
theorem kRIf_x (p q : M R) (Q : Oc R → Sl → Prop) (c : Nat) (s : Sl) : kRIf p q Q (.x c) s = Q (.x c) s := rfl
theorem n_rIf : ∀ {c : M Bool} {p q : M R}, wp (rIf c p q) st QR = wp c st (kRIf p q QR) := wp_rIf
theorem n_oNone : wp oNone st QO = QO (.v none) st := rfl
def kso (Q : Oc (Option Int) → Sl → Prop) (s : Sl) : Int → Prop := fun i => Q (.v (some i)) s
theorem kso_a (Q : Oc (Option Int) → Sl → Prop) (s : Sl) (i : Int) : kso Q s i = Q (.v (some i)) s := rfl
def kSome  (Q : Oc (Option Int) → Sl → Prop) : Oc (D) → Sl → Prop := vx Q fun x s => ti x (kso Q s)
theorem kSome_v  (Q : Oc (Option Int) → Sl → Prop) (x : D) (s : Sl) : kSome  Q (.v x) s = ti x (kso Q s) := rfl
theorem kSome_x  (Q : Oc (Option Int) → Sl → Prop) (c : Nat) (s : Sl) : kSome  Q (.x c) s = Q (.x c) s := rfl
theorem n_oSome : wp (oSome fa) st QO = wp fa st (kSome QO) := wp_oSome
def kSl3 (x : D) (l : Option Int) (Q : Oc D → Sl → Prop) : Oc (Option Int) → Sl → Prop := vx Q fun h s => wo (dSl x l h) (kr Q s)
theorem kSl3_v (x : D) (l : Option Int) (Q : Oc D → Sl → Prop) (h : Option Int) (s : Sl) : kSl3 x l Q (.v h) s = wo (dSl x l h) (kr Q s) := rfl
theorem kSl3_x (x : D) (l : Option Int) (Q : Oc D → Sl → Prop) (c : Nat) (s : Sl) : kSl3 x l Q (.x c) s = Q (.x c) s := rfl
def kSl2 (x : D) (hi : M (Option Int)) (Q : Oc D → Sl → Prop) : Oc (Option Int) → Sl → Prop := vx Q fun l s => wp hi s (kSl3 x l Q)
theorem kSl2_v (x : D) (hi : M (Option Int)) (Q : Oc D → Sl → Prop) (l : Option Int) (s : Sl) : kSl2 x hi Q (.v l) s = wp hi s (kSl3 x l Q) := rfl
theorem kSl2_x (x : D) (hi : M (Option Int)) (Q : Oc D → Sl → Prop) (c : Nat) (s : Sl) : kSl2 x hi Q (.x c) s = Q (.x c) s := rfl
def kSl1 (lo hi : M (Option Int)) (Q : Oc D → Sl → Prop) : Oc (D) → Sl → Prop := vx Q fun x s => wp lo s (kSl2 x hi Q)
theorem kSl1_v (lo hi : M (Option Int)) (Q : Oc D → Sl → Prop) (x : D) (s : Sl) : kSl1 lo hi Q (.v x) s = wp lo s (kSl2 x hi Q) := rfl
theorem kSl1_x (lo hi : M (Option Int)) (Q : Oc D → Sl → Prop) (c : Nat) (s : Sl) : kSl1 lo hi Q (.x c) s = Q (.x c) s := rfl
theorem n_eSl : ∀ {lo hi : M (Option Int)}, wp (eSl fa lo hi) st Q = wp fa st (kSl1 lo hi Q) := wp_eSl
def kcut (l h : Option Int) (Q : Oc R → Sl → Prop) (s : Sl) : List D → Prop := fun xs => Q (.v (.ol (cutD xs l h))) s
theorem kcut_a (l h : Option Int) (Q : Oc R → Sl → Prop) (s : Sl) (xs : List D) : kcut l h Q s xs = Q (.v (.ol (cutD xs l h))) s := rfl
def kRSl3 (x : D) (l : Option Int) (Q : Oc R → Sl → Prop) : Oc (Option Int) → Sl → Prop := vx Q fun h s => tl x (kcut l h Q s)
theorem kRSl3_v (x : D) (l : Option Int) (Q : Oc R → Sl → Prop) (h : Option Int) (s : Sl) : kRSl3 x l Q (.v h) s = tl x (kcut l h Q s) := rfl
theorem kRSl3_x (x : D) (l : Option Int) (Q : Oc R → Sl → Prop) (c : Nat) (s : Sl) : kRSl3 x l Q (.x c) s = Q (.x c) s := rfl
def kRSl2 (x : D) (hi : M (Option Int)) (Q : Oc R → Sl → Prop) : Oc (Option Int) → Sl → Prop := vx Q fun l s => wp hi s (kRSl3 x l Q)
theorem kRSl2_v (x : D) (hi : M (Option Int)) (Q : Oc R → Sl → Prop) (l : Option Int) (s : Sl) : kRSl2 x hi Q (.v l) s = wp hi s (kRSl3 x l Q) := rfl
theorem kRSl2_x (x : D) (hi : M (Option Int)) (Q : Oc R → Sl → Prop) (c : Nat) (s : Sl) : kRSl2 x hi Q (.x c) s = Q (.x c) s := rfl
def kRSl1 (lo hi : M (Option Int)) (Q : Oc R → Sl → Prop) : Oc (D) → Sl → Prop := vx Q fun x s => wp lo s (kRSl2 x hi Q)
theorem kRSl1_v (lo hi : M (Option Int)) (Q : Oc R → Sl → Prop) (x : D) (s : Sl) : kRSl1 lo hi Q (.v x) s = wp lo s (kRSl2 x hi Q) := rfl
theorem kRSl1_x (lo hi : M (Option Int)) (Q : Oc R → Sl → Prop) (c : Nat) (s : Sl) : kRSl1 lo hi Q (.x c) s = Q (.x c) s := rfl
theorem n_rSlL' : ∀ {lo hi : M (Option Int)}, wp (rSlL' fa lo hi) st QR = wp fa st (kRSl1 lo hi QR) := wp_rSlL'
def kMt2 (g : D → List D → Option D) (x : D) (Q : Oc D → Sl → Prop) : Oc (List D) → Sl → Prop := vx Q fun xs s => wo (g x xs) (kr Q s)
theorem kMt2_v (g : D → List D → Option D) (x : D) (Q : Oc D → Sl → Prop) (xs : List D) (s : Sl) : kMt2 g x Q (.v xs) s = wo (g x xs) (kr Q s) := rfl
theorem kMt2_x (g : D → List D → Option D) (x : D) (Q : Oc D → Sl → Prop) (c : Nat) (s : Sl) : kMt2 g x Q (.x c) s = Q (.x c) s := rfl
def kMtu (g : D → List D → Option D) (fs : M (List D)) (x : D) (Q : Oc D → Sl → Prop) (s : Sl) : Unit → Prop := fun _ => wp fs s (kMt2 g x Q)
theorem kMtu_a (g : D → List D → Option D) (fs : M (List D)) (x : D) (Q : Oc D → Sl → Prop) (s : Sl) : kMtu g fs x Q s () = wp fs s (kMt2 g x Q) := rfl
def kMt1 (ty : String) (g : D → List D → Option D) (fs : M (List D)) (Q : Oc D → Sl → Prop) : Oc (D) → Sl → Prop := vx Q fun x s => wc (tyOk ty x = true) (kMtu g fs x Q s)
theorem kMt1_v (ty : String) (g : D → List D → Option D) (fs : M (List D)) (Q : Oc D → Sl → Prop) (x : D) (s : Sl) : kMt1 ty g fs Q (.v x) s = wc (tyOk ty x = true) (kMtu g fs x Q s) := rfl
theorem kMt1_x (ty : String) (g : D → List D → Option D) (fs : M (List D)) (Q : Oc D → Sl → Prop) (c : Nat) (s : Sl) : kMt1 ty g fs Q (.x c) s = Q (.x c) s := rfl
theorem n_eMt : ∀ {ty : String} {g : D → List D → Option D}, wp (eMt ty g fa fs) st Q = wp fa st (kMt1 ty g fs Q) := wp_eMt
def kRMt2 (g : D → List D → Option (List D)) (x : D) (Q : Oc R → Sl → Prop) : Oc (List D) → Sl → Prop := vx Q fun xs s => wo (g x xs) (krl Q s)
theorem kRMt2_v (g : D → List D → Option (List D)) (x : D) (Q : Oc R → Sl → Prop) (xs : List D) (s : Sl) : kRMt2 g x Q (.v xs) s = wo (g x xs) (krl Q s) := rfl
theorem kRMt2_x (g : D → List D → Option (List D)) (x : D) (Q : Oc R → Sl → Prop) (c : Nat) (s : Sl) : kRMt2 g x Q (.x c) s = Q (.x c) s := rfl
def kRMtu (g : D → List D → Option (List D)) (fs : M (List D)) (x : D) (Q : Oc R → Sl → Prop) (s : Sl) : Unit → Prop := fun _ => wp fs s (kRMt2 g x Q)
theorem kRMtu_a (g : D → List D → Option (List D)) (fs : M (List D)) (x : D) (Q : Oc R → Sl → Prop) (s : Sl) : kRMtu g fs x Q s () = wp fs s (kRMt2 g x Q) := rfl
def kRMt1 (ty : String) (g : D → List D → Option (List D)) (fs : M (List D)) (Q : Oc R → Sl → Prop) : Oc (D) → Sl → Prop := vx Q fun x s => wc (tyOk ty x = true) (kRMtu g fs x Q s)
theorem kRMt1_v (ty : String) (g : D → List D → Option (List D)) (fs : M (List D)) (Q : Oc R → Sl → Prop) (x : D) (s : Sl) : kRMt1 ty g fs Q (.v x) s = wc (tyOk ty x = true) (kRMtu g fs x Q s) := rfl
theorem kRMt1_x (ty : String) (g : D → List D → Option (List D)) (fs : M (List D)) (Q : Oc R → Sl → Prop) (c : Nat) (s : Sl) : kRMt1 ty g fs Q (.x c) s = Q (.x c) s := rfl
theorem n_rMt : ∀ {ty : String} {g : D → List D → Option (List D)}, wp (rMt ty g fa fs) st QR = wp fa st (kRMt1 ty g fs QR) := wp_rMt
def kRBin2 (g : D → D → Option (List D)) (x : D) (Q : Oc R → Sl → Prop) : Oc (D) → Sl → Prop := vx Q fun y s => wo (g x y) (krl Q s)
theorem kRBin2_v (g : D → D → Option (List D)) (x : D) (Q : Oc R → Sl → Prop) (y : D) (s : Sl) : kRBin2 g x Q (.v y) s = wo (g x y) (krl Q s) := rfl
theorem kRBin2_x (g : D → D → Option (List D)) (x : D) (Q : Oc R → Sl → Prop) (c : Nat) (s : Sl) : kRBin2 g x Q (.x c) s = Q (.x c) s := rfl
def kRBin1 (g : D → D → Option (List D)) (fb : M D) (Q : Oc R → Sl → Prop) : Oc (D) → Sl → Prop := vx Q fun x s => wp fb s (kRBin2 g x Q)
theorem kRBin1_v (g : D → D → Option (List D)) (fb : M D) (Q : Oc R → Sl → Prop) (x : D) (s : Sl) : kRBin1 g fb Q (.v x) s = wp fb s (kRBin2 g x Q) := rfl
theorem kRBin1_x (g : D → D → Option (List D)) (fb : M D) (Q : Oc R → Sl → Prop) (c : Nat) (s : Sl) : kRBin1 g fb Q (.x c) s = Q (.x c) s := rfl
theorem n_rBin : ∀ {g : D → D → Option (List D)}, wp (rBin g fa fb) st QR = wp fa st (kRBin1 g fb QR) := wp_rBin
theorem n_rMv : ∀ {i : Nat}, wp (rMv i) st QR = mv (gt st i) i st QR := wp_rMv
def kILst  (Q : Oc (List D) → Sl → Prop) : Oc (D) → Sl → Prop := vx Q fun x s => tl x (kr Q s)
theorem kILst_v  (Q : Oc (List D) → Sl → Prop) (x : D) (s : Sl) : kILst  Q (.v x) s = tl x (kr Q s) := rfl
theorem kILst_x  (Q : Oc (List D) → Sl → Prop) (c : Nat) (s : Sl) : kILst  Q (.x c) s = Q (.x c) s := rfl
theorem n_iLst : wp (iLst fa) st QL = wp fa st (kILst QL) := wp_iLst
def kITup  (Q : Oc (List D) → Sl → Prop) : Oc (D) → Sl → Prop := vx Q fun x s => tt x (kr Q s)
theorem kITup_v  (Q : Oc (List D) → Sl → Prop) (x : D) (s : Sl) : kITup  Q (.v x) s = tt x (kr Q s) := rfl
theorem kITup_x  (Q : Oc (List D) → Sl → Prop) (c : Nat) (s : Sl) : kITup  Q (.x c) s = Q (.x c) s := rfl
theorem n_iTupl : wp (iTupl fa) st QL = wp fa st (kITup QL) := wp_iTupl
def kISeq  (Q : Oc (List D) → Sl → Prop) : Oc (D) → Sl → Prop := vx Q fun x s => tq x (kr Q s)
theorem kISeq_v  (Q : Oc (List D) → Sl → Prop) (x : D) (s : Sl) : kISeq  Q (.v x) s = tq x (kr Q s) := rfl
theorem kISeq_x  (Q : Oc (List D) → Sl → Prop) (c : Nat) (s : Sl) : kISeq  Q (.x c) s = Q (.x c) s := rfl
theorem n_iSeq : wp (iSeq fa) st QL = wp fa st (kISeq QL) := wp_iSeq
def ktx (Q : Oc (List D) → Sl → Prop) (s : Sl) : Str → Prop := fun z => Q (.v (sgnD z)) s
theorem ktx_a (Q : Oc (List D) → Sl → Prop) (s : Sl) (z : Str) : ktx Q s z = Q (.v (sgnD z)) s := rfl
def kIText  (Q : Oc (List D) → Sl → Prop) : Oc (D) → Sl → Prop := vx Q fun x s => tx x (ktx Q s)
theorem kIText_v  (Q : Oc (List D) → Sl → Prop) (x : D) (s : Sl) : kIText  Q (.v x) s = tx x (ktx Q s) := rfl
theorem kIText_x  (Q : Oc (List D) → Sl → Prop) (c : Nat) (s : Sl) : kIText  Q (.x c) s = Q (.x c) s := rfl
theorem n_iText : wp (iText fa) st QL = wp fa st (kIText QL) := wp_iText
def kIL (g : List D → Option (List D)) (Q : Oc (List D) → Sl → Prop) : Oc (List D) → Sl → Prop := vx Q fun x s => wo (g x) (kr Q s)
theorem kIL_v (g : List D → Option (List D)) (Q : Oc (List D) → Sl → Prop) (x : List D) (s : Sl) : kIL g Q (.v x) s = wo (g x) (kr Q s) := rfl
theorem kIL_x (g : List D → Option (List D)) (Q : Oc (List D) → Sl → Prop) (c : Nat) (s : Sl) : kIL g Q (.x c) s = Q (.x c) s := rfl
theorem n_iR1 : wp (iR1 fs) st QL = wp fs st (kIL dR1 QL) := wp_iR1
theorem n_iR2 : wp (iR2 fs) st QL = wp fs st (kIL dR2 QL) := wp_iR2
theorem n_iEn : wp (iEn fs) st QL = wp fs st (kIL dEn QL) := wp_iEn
theorem n_aNil : wp aNil st QA = QA (.v []) st := rfl
def kAV2 (x : D) (Q : Oc (List Arg) → Sl → Prop) : Oc (List Arg) → Sl → Prop := vx Q fun xs s => Q (.v (.v x :: xs)) s
theorem kAV2_v (x : D) (Q : Oc (List Arg) → Sl → Prop) (xs : List Arg) (s : Sl) : kAV2 x Q (.v xs) s = Q (.v (.v x :: xs)) s := rfl
theorem kAV2_x (x : D) (Q : Oc (List Arg) → Sl → Prop) (c : Nat) (s : Sl) : kAV2 x Q (.x c) s = Q (.x c) s := rfl
def kAV1 (fr : M (List Arg)) (Q : Oc (List Arg) → Sl → Prop) : Oc (D) → Sl → Prop := vx Q fun x s => wp fr s (kAV2 x Q)
theorem kAV1_v (fr : M (List Arg)) (Q : Oc (List Arg) → Sl → Prop) (x : D) (s : Sl) : kAV1 fr Q (.v x) s = wp fr s (kAV2 x Q) := rfl
theorem kAV1_x (fr : M (List Arg)) (Q : Oc (List Arg) → Sl → Prop) (c : Nat) (s : Sl) : kAV1 fr Q (.x c) s = Q (.x c) s := rfl
theorem n_aV : ∀ {fr : M (List Arg)}, wp (aV fa fr) st QA = wp fa st (kAV1 fr QA) := wp_aV
def kAO (i : Nat) (Q : Oc (List Arg) → Sl → Prop) : Oc (List Arg) → Sl → Prop := vx Q fun xs s => Q (.v (.o i :: xs)) s
theorem kAO_v (i : Nat) (Q : Oc (List Arg) → Sl → Prop) (xs : List Arg) (s : Sl) : kAO i Q (.v xs) s = Q (.v (.o i :: xs)) s := rfl
theorem kAO_x (i : Nat) (Q : Oc (List Arg) → Sl → Prop) (c : Nat) (s : Sl) : kAO i Q (.x c) s = Q (.x c) s := rfl
def isq (o : Option (Option R)) (k : Unit → Prop) : Prop := isR o (k ())
theorem isq_s {x : R} {k : Unit → Prop} : isq (some (some x)) k = k () := rfl
def kAOu (i : Nat) (fr : M (List Arg)) (Q : Oc (List Arg) → Sl → Prop) (st : Sl) : Unit → Prop := fun _ => wp fr st (kAO i Q)
theorem kAOu_a (i : Nat) (fr : M (List Arg)) (Q : Oc (List Arg) → Sl → Prop) (st : Sl) : kAOu i fr Q st () = wp fr st (kAO i Q) := rfl
theorem n_aO : ∀ {i : Nat} {fr : M (List Arg)}, wp (aO i fr) st QA = isq (gt st i) (kAOu i fr QA st) := wp_aO
def kEnd2 (o : Oc R) (as : List Arg) (rs2 : List R) (Q : Oc R → Sl → Prop) (st : Sl) : Unit → Prop := fun _ => Q o (pA as rs2 st)
theorem kEnd2_a (o : Oc R) (as : List Arg) (rs2 : List R) (Q : Oc R → Sl → Prop) (st : Sl) : kEnd2 o as rs2 Q st () = Q o (pA as rs2 st) := rfl
def kEnd (as : List Arg) (rs : List R) (Q : Oc R → Sl → Prop) (st : Sl) : Oc R → List R → Prop := fun o rs2 => wa (rs2.length = rs.length) (Q o (pA as rs2 st))
theorem kEnd_a (as : List Arg) (rs : List R) (Q : Oc R → Sl → Prop) (st : Sl) (o : Oc R) (rs2 : List R) : kEnd as rs Q st o rs2 = wc (rs2.length = rs.length) (kEnd2 o as rs2 Q st) := rfl
def kCallU (F : Fn) (as : List Arg) (rs : List R) (Q : Oc R → Sl → Prop) (st : Sl) : Unit → Prop := fun _ => wf F rs (kEnd as rs Q st)
theorem kCallU_a (F : Fn) (as : List Arg) (rs : List R) (Q : Oc R → Sl → Prop) (st : Sl) : kCallU F as rs Q st () = wf F rs (kEnd as rs Q st) := rfl
def kCall (F : Fn) (as : List Arg) (Q : Oc R → Sl → Prop) (st : Sl) : List R → Prop := fun rs => wa ((owns as).Nodup) (wf F rs (kEnd as rs Q st))
theorem kCall_a (F : Fn) (as : List Arg) (Q : Oc R → Sl → Prop) (st : Sl) (rs : List R) : kCall F as Q st rs = wc ((owns as).Nodup) (kCallU F as rs Q st) := rfl
theorem n_callF : ∀ {F : Fn} {as : List Arg}, wp (callF F as) st QR = wo (gA as st) (kCall F as QR st) := wp_callF
def kRcu (F : Fn) (ds : List D) (as : List Arg) (Q : Oc R → Sl → Prop) (s : Sl) : Unit → Prop := fun _ => wp (callF F (as ++ ds.map Arg.v)) s Q
theorem kRcu_a (F : Fn) (ds : List D) (as : List Arg) (Q : Oc R → Sl → Prop) (s : Sl) : kRcu F ds as Q s () = wp (callF F (as ++ ds.map Arg.v)) s Q := rfl
def kRc (n : Nat) (F : Fn) (ds : List D) (Q : Oc R → Sl → Prop) : Oc (List Arg) → Sl → Prop := vx Q fun as s => wc (as.length + ds.length = n) (kRcu F ds as Q s)
theorem kRc_v (n : Nat) (F : Fn) (ds : List D) (Q : Oc R → Sl → Prop) (as : List Arg) (s : Sl) : kRc n F ds Q (.v as) s = wc (as.length + ds.length = n) (kRcu F ds as Q s) := rfl
theorem kRc_x (n : Nat) (F : Fn) (ds : List D) (Q : Oc R → Sl → Prop) (c : Nat) (s : Sl) : kRc n F ds Q (.x c) s = Q (.x c) s := rfl
theorem n_rCall : ∀ {n : Nat} {F : Fn} {ds : List D} {fl : M (List Arg)}, wp (rCall n F ds fl) st QR = wp fl st (kRc n F ds QR) := wp_rCall
def kMcu (F : Fn) (c : Nat) (xs : List D) (as : List Arg) (Q : Oc R → Sl → Prop) (s : Sl) : Unit → Prop := fun _ => wp (callF F (.v (.obj c xs) :: as)) s Q
theorem kMcu_a (F : Fn) (c : Nat) (xs : List D) (as : List Arg) (Q : Oc R → Sl → Prop) (s : Sl) : kMcu F c xs as Q s () = wp (callF F (.v (.obj c xs) :: as)) s Q := rfl
def kMc (n : Nat) (F : Fn) (c : Nat) (xs : List D) (Q : Oc R → Sl → Prop) : Oc (List Arg) → Sl → Prop := vx Q fun as s => wc (as.length + 1 = n) (kMcu F c xs as Q s)
theorem kMc_v (n : Nat) (F : Fn) (c : Nat) (xs : List D) (Q : Oc R → Sl → Prop) (as : List Arg) (s : Sl) : kMc n F c xs Q (.v as) s = wc (as.length + 1 = n) (kMcu F c xs as Q s) := rfl
theorem kMc_x (n : Nat) (F : Fn) (c : Nat) (xs : List D) (Q : Oc R → Sl → Prop) (c : Nat) (s : Sl) : kMc n F c xs Q (.x c) s = Q (.x c) s := rfl
def kMf (n : Nat) (fl : M (List Arg)) (c : Nat) (xs : List D) (Q : Oc R → Sl → Prop) (s : Sl) : Fn → Prop := fun F => wp fl s (kMc n F c xs Q)
theorem kMf_a (n : Nat) (fl : M (List Arg)) (c : Nat) (xs : List D) (Q : Oc R → Sl → Prop) (s : Sl) (F : Fn) : kMf n fl c xs Q s F = wp fl s (kMc n F c xs Q) := rfl
def kMo (n : Nat) (tab : Nat → Option Fn) (fl : M (List Arg)) (Q : Oc R → Sl → Prop) (s : Sl) : Nat → List D → Prop := fun c xs => wo (tab c) (kMf n fl c xs Q s)
theorem kMo_a (n : Nat) (tab : Nat → Option Fn) (fl : M (List Arg)) (Q : Oc R → Sl → Prop) (s : Sl) (c : Nat) (xs : List D) : kMo n tab fl Q s c xs = wo (tab c) (kMf n fl c xs Q s) := rfl
def kMeth (n : Nat) (tab : Nat → Option Fn) (fl : M (List Arg)) (Q : Oc R → Sl → Prop) : Oc D → Sl → Prop := nx0 (β := D) fun x s => to x (kMo n tab fl Q s)
theorem kMeth_v (n : Nat) (tab : Nat → Option Fn) (fl : M (List Arg)) (Q : Oc R → Sl → Prop) (x : D) (s : Sl) : kMeth n tab fl Q (.v x) s = to x (kMo n tab fl Q s) := rfl
theorem n_rMeth : ∀ {n : Nat} {tab : Nat → Option Fn} {fl : M (List Arg)}, wp (rMeth n tab fa fl) st QR = wp fa st (kMeth n tab fl QR) := wp_rMeth
theorem n_rMakeN : ∀ {c : Nat}, wp (rMakeN c) st QR = QR (.v (.oi c [])) st := rfl
def kFnU (kp : Nat → Bool) (n N : Nat) (body : MS) (rs : List R) (Q : Oc R → List R → Prop) : Unit → Prop := fun _ => wse body (rs.map some ++ List.replicate (N - n) none) (oend n kp rs Q)
theorem kFnU_a (kp : Nat → Bool) (n N : Nat) (body : MS) (rs : List R) (Q : Oc R → List R → Prop) : kFnU kp n N body rs Q () = wse body (rs.map some ++ List.replicate (N - n) none) (oend n kp rs Q) := rfl
theorem n_fnOf : ∀ {n N : Nat} {kp : Nat → Bool} {body : MS} {rs : List R} {Q : Oc R → List R → Prop}, wf (fnOf n N kp body) rs Q = wc (rs.length = n) (kFnU kp n N body rs Q) := wf_fnOf
def ko (v : Oc R) (Q : Oc R → List R → Prop) : List R → Prop := fun qs => Q v qs
theorem ko_a (v : Oc R) (Q : Oc R → List R → Prop) (qs : List R) : ko v Q qs = Q v qs := rfl
theorem n_oend_rt {n : Nat} {kp : Nat → Bool} {rs : List R} {Q : Oc R → List R → Prop} {v : R} : oend n kp rs Q (.rt v) s = wo (outs kp 0 rs s) (ko (.v v) Q) := rfl
theorem n_oend_nx {n : Nat} {kp : Nat → Bool} {rs : List R} {Q : Oc R → List R → Prop} : oend n kp rs Q .nx s = wo (outs kp 0 rs s) (ko (.v (.d .non)) Q) := rfl
theorem n_oend_x {n : Nat} {kp : Nat → Bool} {rs : List R} {Q : Oc R → List R → Prop} {c : Nat} : oend n kp rs Q (.x c) s = wo (outs kp 0 rs s) (ko (.x c) Q) := rfl
theorem n_sNext : ws sNext st QS = QS .nx st := rfl
theorem n_sBrk : ws sBrk st QS = QS .bk st := rfl
theorem n_sCt : ws sCt st QS = QS .ct st := rfl
theorem n_sRetN : ws sRetN st QS = QS (.rt (.d .non)) st := rfl
def kSeq (g : MS) (Q : Fl → Sl → Prop) : Fl → Sl → Prop := nx Q fun s => ws g s Q
theorem kSeq_nx (g : MS) (Q : Fl → Sl → Prop) (s : Sl) : kSeq g Q .nx s = ws g s Q := rfl
theorem kSeq_bk (g : MS) (Q : Fl → Sl → Prop) (s : Sl) : kSeq g Q .bk s = Q .bk s := rfl
theorem kSeq_ct (g : MS) (Q : Fl → Sl → Prop) (s : Sl) : kSeq g Q .ct s = Q .ct s := rfl
theorem kSeq_rt (g : MS) (Q : Fl → Sl → Prop) (v : R) (s : Sl) : kSeq g Q (.rt v) s = Q (.rt v) s := rfl
theorem kSeq_x (g : MS) (Q : Fl → Sl → Prop) (c : Nat) (s : Sl) : kSeq g Q (.x c) s = Q (.x c) s := rfl
theorem n_sSeq : ∀ {f g : MS}, ws (sSeq f g) st QS = ws f st (kSeq g QS) := ws_sSeq
def kSet (i : Nat) (Q : Fl → Sl → Prop) : Oc (R) → Sl → Prop := vs Q fun r s => Q .nx (stt s i (some r))
theorem kSet_v (i : Nat) (Q : Fl → Sl → Prop) (r : R) (s : Sl) : kSet i Q (.v r) s = Q .nx (stt s i (some r)) := rfl
theorem kSet_x (i : Nat) (Q : Fl → Sl → Prop) (c : Nat) (s : Sl) : kSet i Q (.x c) s = Q (.x c) s := rfl
theorem n_sSet : ∀ {i : Nat} {m : M R}, ws (sSet i m) st QS = wp m st (kSet i QS) := ws_sSet
def knx (Q : Fl → Sl → Prop) : Sl → Prop := fun s => Q .nx s
theorem knx_a (Q : Fl → Sl → Prop) (s : Sl) : knx Q s = Q .nx s := rfl
def kAsg (g : D → Sl → Option Sl) (Q : Fl → Sl → Prop) : Oc (D) → Sl → Prop := vs Q fun x s => wo (g x s) (knx Q)
theorem kAsg_v (g : D → Sl → Option Sl) (Q : Fl → Sl → Prop) (x : D) (s : Sl) : kAsg g Q (.v x) s = wo (g x s) (knx Q) := rfl
theorem kAsg_x (g : D → Sl → Option Sl) (Q : Fl → Sl → Prop) (c : Nat) (s : Sl) : kAsg g Q (.x c) s = Q (.x c) s := rfl
theorem n_sAsg : ∀ {m : M D} {g : D → Sl → Option Sl}, ws (sAsg m g) st QS = wp m st (kAsg g QS) := ws_sAsg
def wIf (f g : MS) (Q : Fl → Sl → Prop) (s : Sl) : Bool → Prop := fun b => wb b (ws f s Q) (ws g s Q)
theorem wIf_t (f g : MS) (Q : Fl → Sl → Prop) (s : Sl) : wIf f g Q s true = ws f s Q := rfl
theorem wIf_f (f g : MS) (Q : Fl → Sl → Prop) (s : Sl) : wIf f g Q s false = ws g s Q := wb_f
def kIf (f g : MS) (Q : Fl → Sl → Prop) : Oc (Bool) → Sl → Prop := vs Q fun b s => wd b (wIf f g Q s)
theorem kIf_v (f g : MS) (Q : Fl → Sl → Prop) (b : Bool) (s : Sl) : kIf f g Q (.v b) s = wd b (wIf f g Q s) := rfl
theorem kIf_x (f g : MS) (Q : Fl → Sl → Prop) (c : Nat) (s : Sl) : kIf f g Q (.x c) s = Q (.x c) s := rfl
theorem n_sIf : ∀ {c : M Bool} {f g : MS}, ws (sIf c f g) st QS = wp c st (kIf f g QS) := ws_sIf
def kRet  (Q : Fl → Sl → Prop) : Oc (R) → Sl → Prop := vs Q fun r s => Q (.rt r) s
theorem kRet_v  (Q : Fl → Sl → Prop) (r : R) (s : Sl) : kRet  Q (.v r) s = Q (.rt r) s := rfl
theorem kRet_x  (Q : Fl → Sl → Prop) (c : Nat) (s : Sl) : kRet  Q (.x c) s = Q (.x c) s := rfl
theorem n_sRet : ∀ {m : M R}, ws (sRet m) st QS = wp m st (kRet QS) := ws_sRet
def kDrop  (Q : Fl → Sl → Prop) : Oc (R) → Sl → Prop := vs Q fun r s => Q .nx s
theorem kDrop_v  (Q : Fl → Sl → Prop) (r : R) (s : Sl) : kDrop  Q (.v r) s = Q .nx s := rfl
theorem kDrop_x  (Q : Fl → Sl → Prop) (c : Nat) (s : Sl) : kDrop  Q (.x c) s = Q (.x c) s := rfl
theorem n_sDrop : ∀ {m : M R}, ws (sDrop m) st QS = wp m st (kDrop QS) := ws_sDrop
def kFor (g : D → Sl → Option Sl) (body : MS) (Q : Fl → Sl → Prop) : Oc (List D) → Sl → Prop := vs Q fun ds s => ws (forL g body ds) s Q
theorem kFor_v (g : D → Sl → Option Sl) (body : MS) (Q : Fl → Sl → Prop) (ds : List D) (s : Sl) : kFor g body Q (.v ds) s = ws (forL g body ds) s Q := rfl
theorem kFor_x (g : D → Sl → Option Sl) (body : MS) (Q : Fl → Sl → Prop) (c : Nat) (s : Sl) : kFor g body Q (.x c) s = Q (.x c) s := rfl
theorem n_sFor : ∀ {it : M (List D)} {g : D → Sl → Option Sl} {body : MS}, ws (sFor it g body) st QS = wp it st (kFor g body QS) := ws_sFor
def kSt (i : Nat) (xs : List D) (Q : Fl → Sl → Prop) (s : Sl) : Unit → Prop := fun _ => Q .nx (stt s i (some (.ol xs)))
theorem kSt_a (i : Nat) (xs : List D) (Q : Fl → Sl → Prop) (s : Sl) : kSt i xs Q s () = Q .nx (stt s i (some (.ol xs))) := rfl
def kApp2 (i : Nat) (x : D) (Q : Fl → Sl → Prop) (s : Sl) : List D → Prop := fun xs => wa (xs.length < sizeLine) (Q .nx (stt s i (some (.ol (xs ++ [x])))))
theorem kApp2_a (i : Nat) (x : D) (Q : Fl → Sl → Prop) (s : Sl) (xs : List D) : kApp2 i x Q s xs = wc (xs.length < sizeLine) (kSt i (xs ++ [x]) Q s) := rfl
def kApp (i : Nat) (Q : Fl → Sl → Prop) : Oc (D) → Sl → Prop := vs Q fun x s => gol (gt s i) (kApp2 i x Q s)
theorem kApp_v (i : Nat) (Q : Fl → Sl → Prop) (x : D) (s : Sl) : kApp i Q (.v x) s = gol (gt s i) (kApp2 i x Q s) := rfl
theorem kApp_x (i : Nat) (Q : Fl → Sl → Prop) (c : Nat) (s : Sl) : kApp i Q (.x c) s = Q (.x c) s := rfl
def kAppU (i : Nat) (fa : M D) (Q : Fl → Sl → Prop) (s : Sl) : Unit → Prop := fun _ => wp fa s (kApp i Q)
theorem kAppU_a (i : Nat) (fa : M D) (Q : Fl → Sl → Prop) (s : Sl) : kAppU i fa Q s () = wp fa s (kApp i Q) := rfl
theorem n_sApp' : ∀ {i : Nat}, ws (sApp' i fa) st QS = wc (isL (gt st i) = true) (kAppU i fa QS st) := ws_sApp'
def kExt3 (i : Nat) (ys : List D) (Q : Fl → Sl → Prop) (s : Sl) : List D → Prop := fun xs => wa (xs.length + ys.length ≤ sizeLine) (Q .nx (stt s i (some (.ol (xs ++ ys)))))
theorem kExt3_a (i : Nat) (ys : List D) (Q : Fl → Sl → Prop) (s : Sl) (xs : List D) : kExt3 i ys Q s xs = wc (xs.length + ys.length ≤ sizeLine) (kSt i (xs ++ ys) Q s) := rfl
def kExt2 (i : Nat) (Q : Fl → Sl → Prop) (s : Sl) : List D → Prop := fun ys => gol (gt s i) (kExt3 i ys Q s)
theorem kExt2_a (i : Nat) (Q : Fl → Sl → Prop) (s : Sl) (ys : List D) : kExt2 i Q s ys = gol (gt s i) (kExt3 i ys Q s) := rfl
def kExt (i : Nat) (Q : Fl → Sl → Prop) : Oc (D) → Sl → Prop := vs Q fun x s => tq x (kExt2 i Q s)
theorem kExt_v (i : Nat) (Q : Fl → Sl → Prop) (x : D) (s : Sl) : kExt i Q (.v x) s = tq x (kExt2 i Q s) := rfl
theorem kExt_x (i : Nat) (Q : Fl → Sl → Prop) (c : Nat) (s : Sl) : kExt i Q (.x c) s = Q (.x c) s := rfl
def kExtU (i : Nat) (fa : M D) (Q : Fl → Sl → Prop) (s : Sl) : Unit → Prop := fun _ => wp fa s (kExt i Q)
theorem kExtU_a (i : Nat) (fa : M D) (Q : Fl → Sl → Prop) (s : Sl) : kExtU i fa Q s () = wp fa s (kExt i Q) := rfl
theorem n_sExtA : ∀ {i : Nat}, ws (sExtA i fa) st QS = wc (isL (gt st i) = true) (kExtU i fa QS st) := ws_sExtA
def kSub5 (i : Nat) (x : D) (xs : List D) (Q : Fl → Sl → Prop) (s : Sl) : Nat → Prop := fun j => Q .nx (stt s i (some (.ol (xs.set j x))))
theorem kSub5_a (i : Nat) (x : D) (xs : List D) (Q : Fl → Sl → Prop) (s : Sl) (j : Nat) : kSub5 i x xs Q s j = Q .nx (stt s i (some (.ol (xs.set j x)))) := rfl
def kSub4 (i : Nat) (x : D) (k : Int) (Q : Fl → Sl → Prop) (s : Sl) : List D → Prop := fun xs => wo (ixN xs.length k) (kSub5 i x xs Q s)
theorem kSub4_a (i : Nat) (x : D) (k : Int) (Q : Fl → Sl → Prop) (s : Sl) (xs : List D) : kSub4 i x k Q s xs = wo (ixN xs.length k) (kSub5 i x xs Q s) := rfl
def kSub3 (i : Nat) (x : D) (Q : Fl → Sl → Prop) (s : Sl) : Int → Prop := fun k => gol (gt s i) (kSub4 i x k Q s)
theorem kSub3_a (i : Nat) (x : D) (Q : Fl → Sl → Prop) (s : Sl) (k : Int) : kSub3 i x Q s k = gol (gt s i) (kSub4 i x k Q s) := rfl
def kSub2 (i : Nat) (x : D) (Q : Fl → Sl → Prop) : Oc (D) → Sl → Prop := vs Q fun y s => ti y (kSub3 i x Q s)
theorem kSub2_v (i : Nat) (x : D) (Q : Fl → Sl → Prop) (y : D) (s : Sl) : kSub2 i x Q (.v y) s = ti y (kSub3 i x Q s) := rfl
theorem kSub2_x (i : Nat) (x : D) (Q : Fl → Sl → Prop) (c : Nat) (s : Sl) : kSub2 i x Q (.x c) s = Q (.x c) s := rfl
def kSubU (i : Nat) (mi : M D) (x : D) (Q : Fl → Sl → Prop) (s : Sl) : Unit → Prop := fun _ => wp mi s (kSub2 i x Q)
theorem kSubU_a (i : Nat) (mi : M D) (x : D) (Q : Fl → Sl → Prop) (s : Sl) : kSubU i mi x Q s () = wp mi s (kSub2 i x Q) := rfl
def kSub1 (i : Nat) (mi : M D) (Q : Fl → Sl → Prop) : Oc (D) → Sl → Prop := vs Q fun x s => wc (isL (gt s i) = true) (kSubU i mi x Q s)
theorem kSub1_v (i : Nat) (mi : M D) (Q : Fl → Sl → Prop) (x : D) (s : Sl) : kSub1 i mi Q (.v x) s = wc (isL (gt s i) = true) (kSubU i mi x Q s) := rfl
theorem kSub1_x (i : Nat) (mi : M D) (Q : Fl → Sl → Prop) (c : Nat) (s : Sl) : kSub1 i mi Q (.x c) s = Q (.x c) s := rfl
theorem n_sSub : ∀ {i : Nat} {mi : M D}, ws (sSub i mi fa) st QS = wp fa st (kSub1 i mi QS) := ws_sSub
def fld (ix : Nat → Option Nat) : D → Option D
  | .obj c fs => (match ix c with
    | some i => fs[i]?
    | none => none)
  | _ => none
theorem fld_o {ix : Nat → Option Nat} {c : Nat} {fs : List D} : fld ix (.obj c fs) = (ix c).bind fun i => fs[i]? := by
  show (match ix c with | some i => fs[i]? | none => none) = _
  cases ix c <;> rfl
theorem n_eFld : ∀ {ix : Nat → Option Nat}, wp (eFld ix fa) st Q = wp fa st (kUn (fld ix) Q) := by
  intro ix
  have e : eFld ix fa = eUn (fld ix) fa := rfl
  rw [e]; exact wp_eUn
end
end Fz
set_option Elab.async false
set_option linter.all false
set_option maxRecDepth 100000
set_option maxHeartbeats 2000000
namespace Fz
open PySem L2
theorem e_sub {a b : Int} : dSub (.int a) (.int b) = some (.int (a - b)) := rfl
theorem e_addi {a b : Int} : dAdd (.int a) (.int b) = some (.int (a + b)) := rfl
theorem e_adds {a b : Str} : dAdd (.str a) (.str b) = if a.length + b.length ≤ sizeLine then some (.str (a ++ b)) else none := rfl
theorem e_addt {a b : List D} : dAdd (.tup a) (.tup b) = if a.length + b.length ≤ sizeLine then some (.tup (a ++ b)) else none := rfl
theorem e_mod {a b : Int} : dMod (.int a) (.int b) = if 0 < b then some (.int (a % b)) else none := rfl
theorem e_div {a b : Int} : dDiv (.int a) (.int b) = if 0 < b ∧ b < 1073741824 then some (.int (a / b)) else none := rfl
theorem e_mul {a b : Int} : dMul (.int a) (.int b) = if CMulB a b then some (.int (a * b)) else none := rfl
theorem e_lti {a b : Int} : dLt (.int a) (.int b) = some (.bl (decide (a < b))) := rfl
theorem e_gti {a b : Int} : dGt (.int a) (.int b) = some (.bl (decide (b < a))) := rfl
theorem e_lei {a b : Int} : dLe (.int a) (.int b) = some (.bl (decide (a ≤ b))) := rfl
theorem e_gei {a b : Int} : dGe (.int a) (.int b) = some (.bl (decide (b ≤ a))) := rfl
theorem e_lenl {xs : List D} : dLen [.lst xs] = some (.int (xs.length : Nat)) := rfl
theorem e_lent {xs : List D} : dLen [.tup xs] = some (.int (xs.length : Nat)) := rfl
theorem e_lens {s : Str} : dLen [.str s] = if s.length ≤ sizeLine then some (.int (s.length : Nat)) else none := rfl
theorem e_intb {b : Bool} : dInt [.bl b] = some (.int (if b then 1 else 0)) := by cases b <;> rfl
theorem e_tupl {xs : List D} : dTuple [.lst xs] = some (.tup xs) := rfl
theorem e_tupt {xs : List D} : dTuple [.tup xs] = some (.tup xs) := rfl
theorem e_listl {xs : List D} : dList [.lst xs] = some xs := rfl
theorem e_listt {xs : List D} : dList [.tup xs] = some xs := rfl
theorem e_isib {b : Bool} : dIsi "bool" (.bl b) = some (.bl true) := rfl
theorem szl : sizeLine = 16777216 := rfl
theorem nodup0 : ([] : List Nat).Nodup = True := by simp
theorem nodup1 {i : Nat} : [i].Nodup = True := by simp
theorem same_s (a b : Str) : same (.str a) (.str b) = decide (a = b) := by
  show (a == b) = _
  exact rfl
theorem e_eqs {a b : Str} : dEq (.str a) (.str b) = some (.bl (decide (a = b))) := by
  show some (D.bl (same (.str a) (.str b))) = _
  rw [same_s]
theorem e_nes {a b : Str} : dNe (.str a) (.str b) = some (.bl (!decide (a = b))) := by
  show some (D.bl (!same (.str a) (.str b))) = _
  rw [same_s]
theorem same_i (a b : Int) : same (.int a) (.int b) = decide (a = b) := by
  show (a == b) = _
  exact rfl
theorem e_eqi {a b : Int} : dEq (.int a) (.int b) = some (.bl (decide (a = b))) := by
  show some (D.bl (same (.int a) (.int b))) = _
  rw [same_i]
theorem e_nei {a b : Int} : dNe (.int a) (.int b) = some (.bl (!decide (a = b))) := by
  show some (D.bl (!same (.int a) (.int b))) = _
  rw [same_i]
theorem same_b (a b : Bool) : same (.bl a) (.bl b) = decide (a = b) := by cases a <;> cases b <;> rfl
theorem e_eqb {a b : Bool} : dEq (.bl a) (.bl b) = some (.bl (decide (a = b))) := by
  show some (D.bl (same (.bl a) (.bl b))) = _
  rw [same_b]
theorem e_neb {a b : Bool} : dNe (.bl a) (.bl b) = some (.bl (!decide (a = b))) := by
  show some (D.bl (!same (.bl a) (.bl b))) = _
  rw [same_b]
theorem atI_n {α : Type} (xs : List α) (k : Nat) : atI xs (k : Int) = xs[k]? := by
  unfold atI ixN
  by_cases h : k < xs.length
  · have h2 : (k : Int) < (xs.length : Int) := by omega
    have h3 : ¬ (k : Int) < 0 := by omega
    simp [h2, h3, h]
  · have h2 : ¬ (k : Int) < (xs.length : Int) := by omega
    have h3 : ¬ (k : Int) < 0 := by omega
    simp [h2, h3]
    omega
theorem e_ixn {xs : List D} {k : Nat} : dIx (.lst xs) (.int (k : Int)) = xs[k]? := atI_n xs k
theorem e_ixtn {xs : List D} {k : Nat} : dIx (.tup xs) (.int (k : Int)) = xs[k]? := atI_n xs k
theorem e_ix0 {xs : List D} : dIx (.lst xs) (.int 0) = xs[0]? := atI_n xs 0
theorem e_ix1 {xs : List D} : dIx (.lst xs) (.int 1) = xs[1]? := atI_n xs 1
theorem e_ix2 {xs : List D} : dIx (.lst xs) (.int 2) = xs[2]? := atI_n xs 2
theorem e_ix3 {xs : List D} : dIx (.lst xs) (.int 3) = xs[3]? := atI_n xs 3
theorem e_ixt0 {xs : List D} : dIx (.tup xs) (.int 0) = xs[0]? := atI_n xs 0
theorem e_ixt1 {xs : List D} : dIx (.tup xs) (.int 1) = xs[1]? := atI_n xs 1
theorem e_ixt2 {xs : List D} : dIx (.tup xs) (.int 2) = xs[2]? := atI_n xs 2
theorem e_ixt3 {xs : List D} : dIx (.tup xs) (.int 3) = xs[3]? := atI_n xs 3
theorem ixn_n (l k : Nat) : ixN l (k : Int) = if k < l then some k else none := by
  unfold ixN
  by_cases h : k < l
  · have h2 : (k : Int) < (l : Int) := by omega
    have h3 : ¬ (k : Int) < 0 := by omega
    simp [h2, h3, h]
  · have h2 : ¬ (k : Int) < (l : Int) := by omega
    have h3 : ¬ (k : Int) < 0 := by omega
    simp [h2, h3, h]
theorem ixn0 {l : Nat} : ixN l 0 = if 0 < l then some 0 else none := ixn_n l 0
theorem ixn1 {l : Nat} : ixN l 1 = if 1 < l then some 1 else none := ixn_n l 1
theorem ixn2 {l : Nat} : ixN l 2 = if 2 < l then some 2 else none := ixn_n l 2
theorem ixn3 {l : Nat} : ixN l 3 = if 3 < l then some 3 else none := ixn_n l 3
def sgn (c : Nat) : Str := ⟨#[c]⟩
theorem e_ixs {z : Str} {k : Nat} : dIx (.str z) (.int (k : Int)) = if z.length ≤ sizeLine then (z.cps.toList[k]?).map fun c => .str (sgn c) else none := by
  show (if z.length ≤ sizeLine then (atI z.cps.toList (k : Int)).map fun c => D.str (sgn c) else none) = _
  rw [atI_n]
theorem e_ixs0 {z : Str} : dIx (.str z) (.int 0) = if z.length ≤ sizeLine then (z.cps.toList[0]?).map fun c => .str (sgn c) else none := e_ixs (k := 0)
theorem plains_str (ws : List Str) : plains (ws.map D.str) = true := by
  induction ws with
  | nil => rfl
  | cons a r ih => show (true && plains (r.map D.str)) = true; rw [ih]; rfl
theorem deps_str (ws : List Str) : deps (ws.map D.str) = 0 := by
  induction ws with
  | nil => rfl
  | cons a r ih => show max 0 (deps (r.map D.str)) = 0; rw [ih]; rfl
theorem cok_strs (ws : List Str) : cok (.lst (ws.map D.str)) = true := by
  show (plains (ws.map D.str) && decide (deps (ws.map D.str) + 1 ≤ 64)) = true
  rw [plains_str, deps_str]; rfl
theorem any_str (ws : List Str) (s : Str) : ((ws.map D.str).any fun z => same z (.str s)) = decide (s ∈ ws) := by
  induction ws with
  | nil => rfl
  | cons a r ih =>
    rw [List.map_cons, List.any_cons, ih, same_s]
    by_cases h : a = s
    · subst h; simp
    · have : ¬ s = a := fun e => h e.symm
      simp [h, this]
theorem e_inw {ws : List Str} {s : Str} : dIn (.str s) (.lst (ws.map D.str)) = some (.bl (decide (s ∈ ws))) := by
  show ((if cok (.str s) && cok (.lst (ws.map D.str)) then some ((ws.map D.str).any fun z => same z (.str s)) else none).map D.bl) = _
  rw [cok_strs, any_str]; rfl
theorem e_ninw {ws : List Str} {s : Str} : dNotIn (.str s) (.lst (ws.map D.str)) = some (.bl (!decide (s ∈ ws))) := by
  show ((if cok (.str s) && cok (.lst (ws.map D.str)) then some ((ws.map D.str).any fun z => same z (.str s)) else none).map fun b => D.bl !b) = _
  rw [cok_strs, any_str]; rfl
theorem flat_strs (ws : List Str) : (ws.map D.str).all flat = true := by
  rw [List.all_eq_true]; intro x hx
  rw [List.mem_map] at hx
  obtain ⟨s, _, rfl⟩ := hx; rfl
theorem e_inwt {ws : List Str} {s : Str} : dIn (.str s) (.tup (ws.map D.str)) = some (.bl (decide (s ∈ ws))) := by
  show ((if flat (.str s) && (ws.map D.str).all flat then some ((ws.map D.str).any fun z => same z (.str s)) else none).map D.bl) = _
  rw [flat_strs, any_str]; rfl
theorem e_ninwt {ws : List Str} {s : Str} : dNotIn (.str s) (.tup (ws.map D.str)) = some (.bl (!decide (s ∈ ws))) := by
  show ((if flat (.str s) && (ws.map D.str).all flat then some ((ws.map D.str).any fun z => same z (.str s)) else none).map fun b => D.bl !b) = _
  rw [flat_strs, any_str]; rfl
theorem mod_nat (r : Int) (k : Nat) (h : 0 < k) : ∃ j : Nat, j < k ∧ r % (k : Int) = j := by
  have h1 : 0 ≤ r % (k : Int) := Int.emod_nonneg _ (by omega)
  have h2 : r % (k : Int) < k := Int.emod_lt_of_pos _ (by omega)
  exact ⟨(r % (k : Int)).toNat, by omega, by omega⟩
end Fz
set_option Elab.async false
set_option linter.all false
set_option maxRecDepth 100000
set_option maxHeartbeats 2000000
namespace Fz
open PySem L2
def W (l : List Nat) : Str := ⟨l.toArray⟩
theorem W_list {l : List Nat} : (W l).cps.toList = l := by show l.toArray.toList = l; simp
theorem W_len {l : List Nat} : (W l).length = l.length := by show l.toArray.size = _; simp
theorem W_app {a b : List Nat} : W a ++ W b = W (a ++ b) := by
  show Str.append (W a) (W b) = _
  unfold Str.append W
  simp
theorem sgn_W {c : Nat} : sgn c = W [c] := rfl
theorem W_of (s : Str) : s = W s.cps.toList := by cases s; simp [W]
theorem e_ixsn {l : List Nat} {k : Nat} (h : k < l.length) (hl : l.length ≤ sizeLine) : dIx (.str (W l)) (.int (k : Int)) = some (.str (W [l.getD k 0])) := by
  rw [e_ixs, W_list, W_len, if_pos hl]
  simp [h, sgn_W]
theorem mod_natC {r k : Int} (h : 0 < k) : r % k = (((r % k).toNat : Nat) : Int) ∧ (r % k).toNat < k.toNat := by
  have h1 : 0 ≤ r % k := Int.emod_nonneg _ (by omega)
  have h2 : r % k < k := Int.emod_lt_of_pos _ (by omega)
  omega
theorem e_ixsm {l : List Nat} {r k : Int} (h : 0 < k) (hk : k.toNat ≤ l.length) (hl : l.length ≤ sizeLine) : dIx (.str (W l)) (.int (r % k)) = some (.str (W [l.getD (r % k).toNat 0])) := by
  obtain ⟨e, h2⟩ := mod_natC (r := r) h
  have h3 : dIx (.str (W l)) (.int (((r % k).toNat : Nat) : Int)) = some (.str (W [l.getD (r % k).toNat 0])) := e_ixsn (by omega) hl
  rw [← e] at h3
  exact h3
theorem e_ixlm {xs : List D} {r k : Int} (h : 0 < k) (hk : k.toNat ≤ xs.length) : dIx (.lst xs) (.int (r % k)) = some (xs.getD (r % k).toNat .non) := by
  obtain ⟨e, h2⟩ := mod_natC (r := r) h
  have h4 : (r % k).toNat < xs.length := by omega
  have h3 : dIx (.lst xs) (.int (((r % k).toNat : Nat) : Int)) = some (xs.getD (r % k).toNat .non) := by rw [e_ixn]; simp [h4]
  rw [← e] at h3
  exact h3
theorem getD_mem {α : Type} {xs : List α} {i : Nat} {d : α} (h : i < xs.length) : xs.getD i d ∈ xs := by
  have : xs.getD i d = xs[i] := by simp [h]
  rw [this]; exact List.getElem_mem h
theorem cutS_to {l : List Nat} {k : Nat} : cutS (W l) none (some (k : Int)) = W (l.take k) := by
  unfold cutS
  rw [W_list, W_len, HT.sIx_none, HT.sIx_nat]
  show (W _ : Str) = W _
  refine congrArg W ?_
  rw [Nat.sub_zero, List.drop_zero]
  by_cases h : k ≤ l.length
  · rw [Nat.min_eq_left h]
  · rw [Nat.min_eq_right (by omega), List.take_of_length_le (Nat.le_refl _), List.take_of_length_le (by omega)]
theorem e_slto {l : List Nat} {k : Nat} : dSl (.str (W l)) none (some (k : Int)) = if l.length ≤ sizeLine then some (.str (W (l.take k))) else none := by
  show (if (W l).length ≤ sizeLine then some (D.str (cutS (W l) none (some (k : Int)))) else none) = _
  rw [W_len, cutS_to]
theorem vw_d {x : D} : vw (.d x) = x := rfl
theorem vw_ol {x : List D} : vw (.ol x) = .lst x := rfl
theorem vw_oi {c : Nat} {x : List D} : vw (.oi c x) = .obj c x := rfl
theorem vw_od {x y : List D} : vw (.od x y) = .dct x y := rfl
theorem wh_d {n : Nat → Nat} {x : D} : wholeB n (.d x) = true := rfl
theorem wh_ol {n : Nat → Nat} {x : List D} : wholeB n (.ol x) = true := rfl
theorem wh_od {n : Nat → Nat} {x y : List D} : wholeB n (.od x y) = true := rfl
theorem wh_oi {n : Nat → Nat} {c : Nat} {x : List D} : wholeB n (.oi c x) = (x.length == n c) := rfl
theorem own_no : isOwned none = false := rfl
theorem own_d {x : D} : isOwned (some (.d x)) = false := rfl
theorem e_tys {s : Str} : tyOk "str" (.str s) = true := rfl
theorem ws_cut {m : MS} {st : Sl} {Q : Fl → Sl → Prop} (P : Sl → Prop) (h : ws m st fun f s => f = .nx ∧ P s) (k : ∀ s, P s → Q .nx s) : ws m st Q :=
  ws_sub (fun f s z => by obtain ⟨rfl, z⟩ := z; exact k s z) h
def wl (g : D → Sl → Option Sl) (c : M Bool) (e : M D) (vs : List Nat) (ds acc : List D) (s : Sl) (k : List D → Sl → Prop) : Prop := match lcL g c e vs ds acc s with
  | some (ys, s') => k ys s'
  | none => False
def kLcB (st : Sl) (vs : List Nat) (Q : Oc R → Sl → Prop) : List D → Sl → Prop := fun ys s' => Q (.v (.ol ys)) (backS st s' vs)
def kLcU (g : D → Sl → Option Sl) (c : M Bool) (e : M D) (vs : List Nat) (ds : List D) (s : Sl) (Q : Oc R → Sl → Prop) : Unit → Prop := fun _ => wl g c e vs ds [] (wipeS s vs) (kLcB s vs Q)
theorem kLcU_a {g : D → Sl → Option Sl} {c : M Bool} {e : M D} {vs : List Nat} {ds : List D} {s : Sl} {Q : Oc R → Sl → Prop} : kLcU g c e vs ds s Q () = wl g c e vs ds [] (wipeS s vs) (kLcB s vs Q) := rfl
theorem kLcB_a {st s' : Sl} {vs : List Nat} {Q : Oc R → Sl → Prop} {ys : List D} : kLcB st vs Q ys s' = Q (.v (.ol ys)) (backS st s' vs) := rfl
def kLc (g : D → Sl → Option Sl) (c : M Bool) (e : M D) (vs : List Nat) (Q : Oc R → Sl → Prop) : Oc (List D) → Sl → Prop := vx Q fun ds s => wc (vs.all (fun i => !isOwned (s.getD i none)) = true) (kLcU g c e vs ds s Q)
theorem kLc_v {g : D → Sl → Option Sl} {c : M Bool} {e : M D} {vs : List Nat} {Q : Oc R → Sl → Prop} {ds : List D} {s : Sl} : kLc g c e vs Q (.v ds) s = wc (vs.all (fun i => !isOwned (s.getD i none)) = true) (kLcU g c e vs ds s Q) := rfl
theorem n_rLc {it : M (List D)} {g : D → Sl → Option Sl} {c : M Bool} {e : M D} {vs : List Nat} {st : Sl} {Q : Oc R → Sl → Prop} : wp (rLc it g c e vs) st Q = wp it st (kLc g c e vs Q) := by
  unfold wp rLc
  cases it st with
  | none => rfl
  | some p =>
    obtain ⟨o, s⟩ := p
    cases o with
    | x c => rfl
    | v ds =>
      simp only [kLc_v, wc, wa, kLcU_a, wl]
      by_cases h : (vs.all (fun i => !isOwned (s.getD i none))) = true
      · simp only [h, if_true, true_and]
        cases lcL g c e vs ds [] (wipeS s vs) with
        | none => rfl
        | some p => rfl
      · simp only [h, if_false, false_and]; simp
theorem wl_map {α : Type} {g : D → Sl → Option Sl} {e : M D} {vs : List Nat} {k : List D → Sl → Prop} {xs : List α} (p : α → D) (f : α → D) {acc : List D} {s : Sl} (hl : acc.length + xs.length ≤ sizeLine)
    (hs : ∀ x ∈ xs, wo (g (p x) s) fun s1 => wp e s1 fun o s3 => o = .v (f x) ∧ wipeS s3 vs = s)
    (h1 : k (acc ++ xs.map f) s) : wl g cYes e vs (xs.map p) acc s k := by
  induction xs generalizing acc with
  | nil => simp at h1; exact h1
  | cons d r ih =>
    obtain ⟨s1, e1, h⟩ := hs d (.head _)
    unfold wl
    rw [List.map_cons]
    unfold lcL
    rw [e1]
    simp only [cYes, ret]
    unfold wp at h
    revert h
    cases he : e s1 with
    | none => exact fun h => h.elim
    | some p =>
      obtain ⟨o, s3⟩ := p
      rintro ⟨rfl, h⟩
      simp only [List.length_cons] at hl
      have hl2 : acc.length < sizeLine := by omega
      simp only [hl2, if_true, h]
      refine ih (acc := acc ++ [f d]) (by simp; omega) (fun x hx => hs x (.tail _ hx)) ?_
      simpa using h1
theorem wl_filter {α : Type} {g : D → Sl → Option Sl} {c : M Bool} {e : M D} {vs : List Nat} {k : List D → Sl → Prop} {xs : List α} (p : α → D) (q : α → Bool) (f : α → D) {acc : List D} {s : Sl} (hl : acc.length + xs.length ≤ sizeLine)
    (hs : ∀ x ∈ xs, wo (g (p x) s) fun s1 => wp c s1 fun o s2 => o = .v (q x) ∧ (q x = false → wipeS s2 vs = s) ∧ (q x = true → wp e s2 fun o s3 => o = .v (f x) ∧ wipeS s3 vs = s))
    (h1 : k (acc ++ (xs.filter q).map f) s) : wl g c e vs (xs.map p) acc s k := by
  induction xs generalizing acc with
  | nil => simp at h1; exact h1
  | cons d r ih =>
    obtain ⟨s1, e1, h⟩ := hs d (.head _)
    unfold wl
    rw [List.map_cons]
    unfold lcL
    rw [e1]
    simp only []
    unfold wp at h
    revert h
    cases hc : c s1 with
    | none => exact fun h => h.elim
    | some z =>
      obtain ⟨o, s2⟩ := z
      rintro ⟨rfl, hf, ht⟩
      simp only [List.length_cons] at hl
      cases hq : q d with
      | false =>
        simp only [hf hq]
        refine ih (by omega) (fun x hx => hs x (.tail _ hx)) ?_
        rw [List.filter_cons_of_neg (by simp [hq])] at h1
        exact h1
      | true =>
        have ht := ht hq
        revert ht
        cases he : e s2 with
        | none => exact fun h => h.elim
        | some z =>
          obtain ⟨o, s3⟩ := z
          rintro ⟨rfl, h⟩
          have hl2 : acc.length < sizeLine := by omega
          simp only [he, hl2, if_true, h]
          refine ih (acc := acc ++ [f d]) (by simp; omega) (fun x hx => hs x (.tail _ hx)) ?_
          rw [List.filter_cons_of_pos (by simp [hq])] at h1
          simpa using h1
end Fz
set_option Elab.async false
set_option linter.all false
set_option maxRecDepth 100000
set_option maxHeartbeats 2000000
namespace Fz
open PySem L2 PySem.Spec PyProof.Rows
section
variable {prog : Program} {w : World} {A : Around} {Z : Result → Shared → Prop} {E : Value → Shared → Prop} {it : Addr} {tr wr : List Addr} {n : Nat} {P : Nat → Value → Prop} {G : Nat → Heap → Prop}
end
def maxOf (i : Int) : List Int → Int
  | [] => i
  | a :: r => r.foldl max a
def dInts : List D → Option (List Int)
  | [] => some []
  | .int i :: ds => (dInts ds).map (i :: ·)
  | _ => none
def dSum : List D → Option D
  | [.lst xs] => (dInts xs).map fun ns => .int ns.sum
  | _ => none
def dMax2 : List D → Option D
  | [.int i, .int j] => some (.int (max i j))
  | _ => none
def eMaxD (fa : M (List D)) (fb : M D) : M D := bnd fa fun xs => bnd fb fun y => opt (match xs, y with
  | [.lst xs], .int i => (dInts xs).map fun ns => .int (maxOf i ns)
  | _, _ => none)
def dIsc (tab : Nat → Option Bool) : D → Option D
  | .obj c _ => (tab c).map .bl
  | _ => none
structure InsOk (K : PySem.W.Frag) (C : Addr) : Prop where
  ha : PySem.W.findIn K (.ref C) "__class__" = some (some (.builtin "object.__class__"))
  hn : PySem.W.specialIn K (.builtin "object.__class__") "__get__" = some (some (.builtin "getset_descriptor.__get__"))
  htk : PySem.W.takesIn K (.builtin "object.__class__") = some true
  hm : PySem.W.mroIn K C (.type "object") = some true
section
variable {ι : Type} {T : Tab} {E : L2.St → XK} {X : ι → Cx} {kp : Nat → Bool} {pos apos : Pos} {e a b c o : Expr} {es : List Expr} {fa fb fc : M D} {fs : M (List D)} {fl : M (List Arg)} {r : M R} {x m : Str} {te ta : TE} {t : TA}
end
end Fz
set_option Elab.async false
set_option linter.all false
set_option maxRecDepth 100000
set_option maxHeartbeats 2000000
namespace Fz
open PySem L2
def eVarO (n : Nat → Nat) (i : Nat) : M D := fun st => match st[i]? with
  | some (some r) => if wholeB n r = true then some (.v (vw r), st.set i (some (.d (vw r)))) else none
  | _ => none
def vro (n : Nat → Nat) (o : Option (Option R)) (i : Nat) (st : Sl) (Q : Oc D → Sl → Prop) : Prop := match o with
  | some (some r) => wc (wholeB n r = true) (ku Q (vw r) (stt st i (some (.d (vw r)))))
  | _ => False
theorem vro_r {n : Nat → Nat} {r : R} {i : Nat} {st : Sl} {Q : Oc D → Sl → Prop} : vro n (some (some r)) i st Q = wc (wholeB n r = true) (ku Q (vw r) (stt st i (some (.d (vw r))))) := rfl
theorem n_eVarO {n : Nat → Nat} {i : Nat} {st : Sl} {Q : Oc D → Sl → Prop} : wp (eVarO n i) st Q = vro n (gt st i) i st Q := by
  unfold wp eVarO vro
  rw [gt_eq]
  cases gt st i with
  | none => rfl
  | some o => cases o with
    | none => rfl
    | some r =>
      simp only [wc, wa, ku, stt_eq]
      by_cases h : wholeB n r = true
      · simp [h]
      · simp [h]
def dLIndex : D → List D → Option D
  | .lst xs, [y] => if (cok (.lst xs) && cok y) = true then (xs.findIdx? fun z => same z y).map fun i => .int (i : Nat) else none
  | _, _ => none
theorem p_lindex {T : Tab} : PrimM T (rIndexD T.K) dLIndex := by
  intro x xs z v vs B H Q e hx hy hz k
  unfold dLIndex at hz
  split at hz
  · rename_i ds y
    split at hz
    · rename_i hc
      have hc := (Bool.and_eq_true _ _).mp hc
      cases hf : ds.findIdx? (fun z => same z y) with
      | none => rw [hf] at hz; cases hz
      | some i =>
        rw [hf] at hz; cases hz
        obtain ⟨hi, h1, h2⟩ := List.findIdx?_eq_some_iff_getElem.mp hf
        obtain ⟨u, rfl, ru⟩ := reps1 hy
        have hx0 := hx
        unfold Rep at hx
        obtain ⟨a, us, rfl, _, _⟩ := hx
        refine ⟨a, u, py y, pys ds, i, py ds[i], rfl, rfl, dp_of e (.lst ds) (cok_plain hc.1) hx0, dp_of e y (cok_plain hc.2) ru, cok_shaped hc.1 hx0, cok_shaped hc.2 ru, ?_, h1, fun m z2 hm hz2 => ?_, k _ B H (.refl e) rfl⟩
        · rw [pys_map]; simp [hi]
        · rw [pys_map] at hz2
          have hml : m < ds.length := by omega
          simp [hml] at hz2
          subst hz2
          have := h2 m hm
          simpa [same] using this
    · cases hz
  · cases hz
theorem xe_lindex {ι : Type} {T : Tab} {E : L2.St → XK} {X : ι → Cx} {pos apos : Pos} {e o : Expr} {fa : M D} {fs : M (List D)} (hu : Rm X) (ho : XE T E X o fa) (ha : XA T E X [e] fs) (hK : ∀ j, (X j).K = T.K := by intro j; rfl) (k : MtOk X o e [] "index" apos pos := by exact ⟨fun j => rfl, fun j => rfl, rfl, fun j => rfl, fun j => rfl⟩) : XE T E X (.Call (.Attribute o "index" apos) [e] [] pos) (eMt "list" dLIndex fa fs) :=
  xe_mt PySem.F.plainAttrs_list PySem.F.slot_list_index PySem.F.type_list_index p_lindex (fun j => by rw [← hK j]; exact mt_indexD (hu j)) ho ha hK k
theorem e_tyl {xs : List D} : tyOk "list" (.lst xs) = true := rfl
theorem wd_krn {b : Bool} {Q : Oc D → Sl → Prop} {s : Sl} : wd b (krn Q s) = Q (.v (.bl !b)) s := rfl
def dMaxD (xs : List D) (y : D) : Option D := match xs, y with
  | [.lst xs], .int i => (dInts xs).map fun ns => .int (maxOf i ns)
  | _, _ => none
theorem dMaxD_i {xs : List D} {i : Int} : dMaxD [.lst xs] (.int i) = (dInts xs).map fun ns => .int (maxOf i ns) := rfl
def kMx2 (xs : List D) (Q : Oc D → Sl → Prop) : Oc D → Sl → Prop := vx Q fun y s => wo (dMaxD xs y) (kr Q s)
theorem kMx2_v (xs : List D) (Q : Oc D → Sl → Prop) (y : D) (s : Sl) : kMx2 xs Q (.v y) s = wo (dMaxD xs y) (kr Q s) := rfl
def kMx1 (fb : M D) (Q : Oc D → Sl → Prop) : Oc (List D) → Sl → Prop := vx Q fun xs s => wp fb s (kMx2 xs Q)
theorem kMx1_v (fb : M D) (Q : Oc D → Sl → Prop) (xs : List D) (s : Sl) : kMx1 fb Q (.v xs) s = wp fb s (kMx2 xs Q) := rfl
theorem n_eMaxD {st : Sl} {fa : M (List D)} {fb : M D} {Q : Oc D → Sl → Prop} : wp (eMaxD fa fb) st Q = wp fa st (kMx1 fb Q) := by
  unfold eMaxD
  rw [wp_bnd]
  refine congrArg _ ?_
  funext o s
  cases o with
  | x c => rfl
  | v xs =>
    show wp (bnd fb _) s Q = wp fb s (kMx2 xs Q)
    rw [wp_bnd]
    refine congrArg _ ?_
    funext o s
    cases o with
    | x c => rfl
    | v y => exact wp_opt
theorem dSum_i {xs : List D} : dSum [.lst xs] = (dInts xs).map fun ns => .int ns.sum := rfl
theorem dInts_nil : dInts [] = some [] := rfl
theorem dInts_cons {i : Int} {xs : List D} : dInts (.int i :: xs) = (dInts xs).map (i :: ·) := rfl
theorem maxOf_nil {i : Int} : maxOf i [] = i := rfl
theorem maxOf_one {i a : Int} : maxOf i [a] = a := rfl
theorem maxOf_two {i a b : Int} : maxOf i [a, b] = max a b := rfl
theorem dMax2_i {i j : Int} : dMax2 [.int i, .int j] = some (.int (max i j)) := rfl
theorem isc_o {tab : Nat → Option Bool} {c : Nat} {fs : List D} : dIsc tab (.obj c fs) = (tab c).map .bl := rfl
theorem e_slt1 {x : D} {xs : List D} : dSl (.tup (x :: xs)) (some 1) none = some (.tup xs) := by
  show some (D.tup (cutD (x :: xs) (some 1) none)) = _
  unfold cutD
  have h : HT.sIx (x :: xs).length 0 (some (1 : Int)) = 1 := by
    have := HT.sIx_nat (x :: xs).length 0 1
    simpa using this
  rw [h, HT.sIx_none]
  simp
theorem cast0 : ((0 : Nat) : Int) = 0 := rfl
theorem cast1 : ((1 : Nat) : Int) = 1 := rfl
theorem cast2 : ((2 : Nat) : Int) = 2 := rfl
theorem cast3 : ((3 : Nat) : Int) = 3 := rfl
theorem isT {b : Bool} : dIs (.bl b) (.bl true) = some (.bl b) := by cases b <;> rfl
end Fz
set_option Elab.async false
set_option linter.all false
set_option maxRecDepth 100000
set_option maxHeartbeats 2000000
namespace Fz
open PySem L2
theorem wn_now : ((("now" : Str) = "yes") = False) ∧ ((("now" : Str) = "no") = False) ∧ ((("now" : Str) = "not") = False) ∧ ((("now" : Str) = "next") = False) ∧ ((("now" : Str) = "before") = False) ∧ ((("now" : Str) = "early") = False) ∧ ((("now" : Str) = "soon") = False) ∧ ((("now" : Str) = "ever") = False) ∧ ((("now" : Str) = "once") = False) ∧ ((("now" : Str) = "sofar") = False) ∧ ((("now" : Str) = "again") = False) ∧ ((("now" : Str) = "settles") = False) ∧ ((("now" : Str) = "and") = False) ∧ ((("now" : Str) = "or") = False) ∧ ((("now" : Str) = "then") = False) ∧ ((("now" : Str) = "until") = False) ∧ ((("now" : Str) = "since") = False) ∧ ((("now" : Str) = "frees") = False) ∧ ((("now" : Str) = "held") = False) := by
  have h : ((("now" : Str) = "yes") → False) ∧ ((("now" : Str) = "no") → False) ∧ ((("now" : Str) = "not") → False) ∧ ((("now" : Str) = "next") → False) ∧ ((("now" : Str) = "before") → False) ∧ ((("now" : Str) = "early") → False) ∧ ((("now" : Str) = "soon") → False) ∧ ((("now" : Str) = "ever") → False) ∧ ((("now" : Str) = "once") → False) ∧ ((("now" : Str) = "sofar") → False) ∧ ((("now" : Str) = "again") → False) ∧ ((("now" : Str) = "settles") → False) ∧ ((("now" : Str) = "and") → False) ∧ ((("now" : Str) = "or") → False) ∧ ((("now" : Str) = "then") → False) ∧ ((("now" : Str) = "until") → False) ∧ ((("now" : Str) = "since") → False) ∧ ((("now" : Str) = "frees") → False) ∧ ((("now" : Str) = "held") → False) := by decide +kernel
  simpa using h
theorem wn_yes : ((("yes" : Str) = "now") = False) ∧ ((("yes" : Str) = "no") = False) ∧ ((("yes" : Str) = "not") = False) ∧ ((("yes" : Str) = "next") = False) ∧ ((("yes" : Str) = "before") = False) ∧ ((("yes" : Str) = "early") = False) ∧ ((("yes" : Str) = "soon") = False) ∧ ((("yes" : Str) = "ever") = False) ∧ ((("yes" : Str) = "once") = False) ∧ ((("yes" : Str) = "sofar") = False) ∧ ((("yes" : Str) = "again") = False) ∧ ((("yes" : Str) = "settles") = False) ∧ ((("yes" : Str) = "and") = False) ∧ ((("yes" : Str) = "or") = False) ∧ ((("yes" : Str) = "then") = False) ∧ ((("yes" : Str) = "until") = False) ∧ ((("yes" : Str) = "since") = False) ∧ ((("yes" : Str) = "frees") = False) ∧ ((("yes" : Str) = "held") = False) := by
  have h : ((("yes" : Str) = "now") → False) ∧ ((("yes" : Str) = "no") → False) ∧ ((("yes" : Str) = "not") → False) ∧ ((("yes" : Str) = "next") → False) ∧ ((("yes" : Str) = "before") → False) ∧ ((("yes" : Str) = "early") → False) ∧ ((("yes" : Str) = "soon") → False) ∧ ((("yes" : Str) = "ever") → False) ∧ ((("yes" : Str) = "once") → False) ∧ ((("yes" : Str) = "sofar") → False) ∧ ((("yes" : Str) = "again") → False) ∧ ((("yes" : Str) = "settles") → False) ∧ ((("yes" : Str) = "and") → False) ∧ ((("yes" : Str) = "or") → False) ∧ ((("yes" : Str) = "then") → False) ∧ ((("yes" : Str) = "until") → False) ∧ ((("yes" : Str) = "since") → False) ∧ ((("yes" : Str) = "frees") → False) ∧ ((("yes" : Str) = "held") → False) := by decide +kernel
  simpa using h
theorem wn_no : ((("no" : Str) = "now") = False) ∧ ((("no" : Str) = "yes") = False) ∧ ((("no" : Str) = "not") = False) ∧ ((("no" : Str) = "next") = False) ∧ ((("no" : Str) = "before") = False) ∧ ((("no" : Str) = "early") = False) ∧ ((("no" : Str) = "soon") = False) ∧ ((("no" : Str) = "ever") = False) ∧ ((("no" : Str) = "once") = False) ∧ ((("no" : Str) = "sofar") = False) ∧ ((("no" : Str) = "again") = False) ∧ ((("no" : Str) = "settles") = False) ∧ ((("no" : Str) = "and") = False) ∧ ((("no" : Str) = "or") = False) ∧ ((("no" : Str) = "then") = False) ∧ ((("no" : Str) = "until") = False) ∧ ((("no" : Str) = "since") = False) ∧ ((("no" : Str) = "frees") = False) ∧ ((("no" : Str) = "held") = False) := by
  have h : ((("no" : Str) = "now") → False) ∧ ((("no" : Str) = "yes") → False) ∧ ((("no" : Str) = "not") → False) ∧ ((("no" : Str) = "next") → False) ∧ ((("no" : Str) = "before") → False) ∧ ((("no" : Str) = "early") → False) ∧ ((("no" : Str) = "soon") → False) ∧ ((("no" : Str) = "ever") → False) ∧ ((("no" : Str) = "once") → False) ∧ ((("no" : Str) = "sofar") → False) ∧ ((("no" : Str) = "again") → False) ∧ ((("no" : Str) = "settles") → False) ∧ ((("no" : Str) = "and") → False) ∧ ((("no" : Str) = "or") → False) ∧ ((("no" : Str) = "then") → False) ∧ ((("no" : Str) = "until") → False) ∧ ((("no" : Str) = "since") → False) ∧ ((("no" : Str) = "frees") → False) ∧ ((("no" : Str) = "held") → False) := by decide +kernel
  simpa using h
theorem wn_not : ((("not" : Str) = "now") = False) ∧ ((("not" : Str) = "yes") = False) ∧ ((("not" : Str) = "no") = False) ∧ ((("not" : Str) = "next") = False) ∧ ((("not" : Str) = "before") = False) ∧ ((("not" : Str) = "early") = False) ∧ ((("not" : Str) = "soon") = False) ∧ ((("not" : Str) = "ever") = False) ∧ ((("not" : Str) = "once") = False) ∧ ((("not" : Str) = "sofar") = False) ∧ ((("not" : Str) = "again") = False) ∧ ((("not" : Str) = "settles") = False) ∧ ((("not" : Str) = "and") = False) ∧ ((("not" : Str) = "or") = False) ∧ ((("not" : Str) = "then") = False) ∧ ((("not" : Str) = "until") = False) ∧ ((("not" : Str) = "since") = False) ∧ ((("not" : Str) = "frees") = False) ∧ ((("not" : Str) = "held") = False) := by
  have h : ((("not" : Str) = "now") → False) ∧ ((("not" : Str) = "yes") → False) ∧ ((("not" : Str) = "no") → False) ∧ ((("not" : Str) = "next") → False) ∧ ((("not" : Str) = "before") → False) ∧ ((("not" : Str) = "early") → False) ∧ ((("not" : Str) = "soon") → False) ∧ ((("not" : Str) = "ever") → False) ∧ ((("not" : Str) = "once") → False) ∧ ((("not" : Str) = "sofar") → False) ∧ ((("not" : Str) = "again") → False) ∧ ((("not" : Str) = "settles") → False) ∧ ((("not" : Str) = "and") → False) ∧ ((("not" : Str) = "or") → False) ∧ ((("not" : Str) = "then") → False) ∧ ((("not" : Str) = "until") → False) ∧ ((("not" : Str) = "since") → False) ∧ ((("not" : Str) = "frees") → False) ∧ ((("not" : Str) = "held") → False) := by decide +kernel
  simpa using h
theorem wn_next : ((("next" : Str) = "now") = False) ∧ ((("next" : Str) = "yes") = False) ∧ ((("next" : Str) = "no") = False) ∧ ((("next" : Str) = "not") = False) ∧ ((("next" : Str) = "before") = False) ∧ ((("next" : Str) = "early") = False) ∧ ((("next" : Str) = "soon") = False) ∧ ((("next" : Str) = "ever") = False) ∧ ((("next" : Str) = "once") = False) ∧ ((("next" : Str) = "sofar") = False) ∧ ((("next" : Str) = "again") = False) ∧ ((("next" : Str) = "settles") = False) ∧ ((("next" : Str) = "and") = False) ∧ ((("next" : Str) = "or") = False) ∧ ((("next" : Str) = "then") = False) ∧ ((("next" : Str) = "until") = False) ∧ ((("next" : Str) = "since") = False) ∧ ((("next" : Str) = "frees") = False) ∧ ((("next" : Str) = "held") = False) := by
  have h : ((("next" : Str) = "now") → False) ∧ ((("next" : Str) = "yes") → False) ∧ ((("next" : Str) = "no") → False) ∧ ((("next" : Str) = "not") → False) ∧ ((("next" : Str) = "before") → False) ∧ ((("next" : Str) = "early") → False) ∧ ((("next" : Str) = "soon") → False) ∧ ((("next" : Str) = "ever") → False) ∧ ((("next" : Str) = "once") → False) ∧ ((("next" : Str) = "sofar") → False) ∧ ((("next" : Str) = "again") → False) ∧ ((("next" : Str) = "settles") → False) ∧ ((("next" : Str) = "and") → False) ∧ ((("next" : Str) = "or") → False) ∧ ((("next" : Str) = "then") → False) ∧ ((("next" : Str) = "until") → False) ∧ ((("next" : Str) = "since") → False) ∧ ((("next" : Str) = "frees") → False) ∧ ((("next" : Str) = "held") → False) := by decide +kernel
  simpa using h
theorem wn_before : ((("before" : Str) = "now") = False) ∧ ((("before" : Str) = "yes") = False) ∧ ((("before" : Str) = "no") = False) ∧ ((("before" : Str) = "not") = False) ∧ ((("before" : Str) = "next") = False) ∧ ((("before" : Str) = "early") = False) ∧ ((("before" : Str) = "soon") = False) ∧ ((("before" : Str) = "ever") = False) ∧ ((("before" : Str) = "once") = False) ∧ ((("before" : Str) = "sofar") = False) ∧ ((("before" : Str) = "again") = False) ∧ ((("before" : Str) = "settles") = False) ∧ ((("before" : Str) = "and") = False) ∧ ((("before" : Str) = "or") = False) ∧ ((("before" : Str) = "then") = False) ∧ ((("before" : Str) = "until") = False) ∧ ((("before" : Str) = "since") = False) ∧ ((("before" : Str) = "frees") = False) ∧ ((("before" : Str) = "held") = False) := by
  have h : ((("before" : Str) = "now") → False) ∧ ((("before" : Str) = "yes") → False) ∧ ((("before" : Str) = "no") → False) ∧ ((("before" : Str) = "not") → False) ∧ ((("before" : Str) = "next") → False) ∧ ((("before" : Str) = "early") → False) ∧ ((("before" : Str) = "soon") → False) ∧ ((("before" : Str) = "ever") → False) ∧ ((("before" : Str) = "once") → False) ∧ ((("before" : Str) = "sofar") → False) ∧ ((("before" : Str) = "again") → False) ∧ ((("before" : Str) = "settles") → False) ∧ ((("before" : Str) = "and") → False) ∧ ((("before" : Str) = "or") → False) ∧ ((("before" : Str) = "then") → False) ∧ ((("before" : Str) = "until") → False) ∧ ((("before" : Str) = "since") → False) ∧ ((("before" : Str) = "frees") → False) ∧ ((("before" : Str) = "held") → False) := by decide +kernel
  simpa using h
theorem wn_early : ((("early" : Str) = "now") = False) ∧ ((("early" : Str) = "yes") = False) ∧ ((("early" : Str) = "no") = False) ∧ ((("early" : Str) = "not") = False) ∧ ((("early" : Str) = "next") = False) ∧ ((("early" : Str) = "before") = False) ∧ ((("early" : Str) = "soon") = False) ∧ ((("early" : Str) = "ever") = False) ∧ ((("early" : Str) = "once") = False) ∧ ((("early" : Str) = "sofar") = False) ∧ ((("early" : Str) = "again") = False) ∧ ((("early" : Str) = "settles") = False) ∧ ((("early" : Str) = "and") = False) ∧ ((("early" : Str) = "or") = False) ∧ ((("early" : Str) = "then") = False) ∧ ((("early" : Str) = "until") = False) ∧ ((("early" : Str) = "since") = False) ∧ ((("early" : Str) = "frees") = False) ∧ ((("early" : Str) = "held") = False) := by
  have h : ((("early" : Str) = "now") → False) ∧ ((("early" : Str) = "yes") → False) ∧ ((("early" : Str) = "no") → False) ∧ ((("early" : Str) = "not") → False) ∧ ((("early" : Str) = "next") → False) ∧ ((("early" : Str) = "before") → False) ∧ ((("early" : Str) = "soon") → False) ∧ ((("early" : Str) = "ever") → False) ∧ ((("early" : Str) = "once") → False) ∧ ((("early" : Str) = "sofar") → False) ∧ ((("early" : Str) = "again") → False) ∧ ((("early" : Str) = "settles") → False) ∧ ((("early" : Str) = "and") → False) ∧ ((("early" : Str) = "or") → False) ∧ ((("early" : Str) = "then") → False) ∧ ((("early" : Str) = "until") → False) ∧ ((("early" : Str) = "since") → False) ∧ ((("early" : Str) = "frees") → False) ∧ ((("early" : Str) = "held") → False) := by decide +kernel
  simpa using h
theorem wn_soon : ((("soon" : Str) = "now") = False) ∧ ((("soon" : Str) = "yes") = False) ∧ ((("soon" : Str) = "no") = False) ∧ ((("soon" : Str) = "not") = False) ∧ ((("soon" : Str) = "next") = False) ∧ ((("soon" : Str) = "before") = False) ∧ ((("soon" : Str) = "early") = False) ∧ ((("soon" : Str) = "ever") = False) ∧ ((("soon" : Str) = "once") = False) ∧ ((("soon" : Str) = "sofar") = False) ∧ ((("soon" : Str) = "again") = False) ∧ ((("soon" : Str) = "settles") = False) ∧ ((("soon" : Str) = "and") = False) ∧ ((("soon" : Str) = "or") = False) ∧ ((("soon" : Str) = "then") = False) ∧ ((("soon" : Str) = "until") = False) ∧ ((("soon" : Str) = "since") = False) ∧ ((("soon" : Str) = "frees") = False) ∧ ((("soon" : Str) = "held") = False) := by
  have h : ((("soon" : Str) = "now") → False) ∧ ((("soon" : Str) = "yes") → False) ∧ ((("soon" : Str) = "no") → False) ∧ ((("soon" : Str) = "not") → False) ∧ ((("soon" : Str) = "next") → False) ∧ ((("soon" : Str) = "before") → False) ∧ ((("soon" : Str) = "early") → False) ∧ ((("soon" : Str) = "ever") → False) ∧ ((("soon" : Str) = "once") → False) ∧ ((("soon" : Str) = "sofar") → False) ∧ ((("soon" : Str) = "again") → False) ∧ ((("soon" : Str) = "settles") → False) ∧ ((("soon" : Str) = "and") → False) ∧ ((("soon" : Str) = "or") → False) ∧ ((("soon" : Str) = "then") → False) ∧ ((("soon" : Str) = "until") → False) ∧ ((("soon" : Str) = "since") → False) ∧ ((("soon" : Str) = "frees") → False) ∧ ((("soon" : Str) = "held") → False) := by decide +kernel
  simpa using h
theorem wn_ever : ((("ever" : Str) = "now") = False) ∧ ((("ever" : Str) = "yes") = False) ∧ ((("ever" : Str) = "no") = False) ∧ ((("ever" : Str) = "not") = False) ∧ ((("ever" : Str) = "next") = False) ∧ ((("ever" : Str) = "before") = False) ∧ ((("ever" : Str) = "early") = False) ∧ ((("ever" : Str) = "soon") = False) ∧ ((("ever" : Str) = "once") = False) ∧ ((("ever" : Str) = "sofar") = False) ∧ ((("ever" : Str) = "again") = False) ∧ ((("ever" : Str) = "settles") = False) ∧ ((("ever" : Str) = "and") = False) ∧ ((("ever" : Str) = "or") = False) ∧ ((("ever" : Str) = "then") = False) ∧ ((("ever" : Str) = "until") = False) ∧ ((("ever" : Str) = "since") = False) ∧ ((("ever" : Str) = "frees") = False) ∧ ((("ever" : Str) = "held") = False) := by
  have h : ((("ever" : Str) = "now") → False) ∧ ((("ever" : Str) = "yes") → False) ∧ ((("ever" : Str) = "no") → False) ∧ ((("ever" : Str) = "not") → False) ∧ ((("ever" : Str) = "next") → False) ∧ ((("ever" : Str) = "before") → False) ∧ ((("ever" : Str) = "early") → False) ∧ ((("ever" : Str) = "soon") → False) ∧ ((("ever" : Str) = "once") → False) ∧ ((("ever" : Str) = "sofar") → False) ∧ ((("ever" : Str) = "again") → False) ∧ ((("ever" : Str) = "settles") → False) ∧ ((("ever" : Str) = "and") → False) ∧ ((("ever" : Str) = "or") → False) ∧ ((("ever" : Str) = "then") → False) ∧ ((("ever" : Str) = "until") → False) ∧ ((("ever" : Str) = "since") → False) ∧ ((("ever" : Str) = "frees") → False) ∧ ((("ever" : Str) = "held") → False) := by decide +kernel
  simpa using h
theorem wn_once : ((("once" : Str) = "now") = False) ∧ ((("once" : Str) = "yes") = False) ∧ ((("once" : Str) = "no") = False) ∧ ((("once" : Str) = "not") = False) ∧ ((("once" : Str) = "next") = False) ∧ ((("once" : Str) = "before") = False) ∧ ((("once" : Str) = "early") = False) ∧ ((("once" : Str) = "soon") = False) ∧ ((("once" : Str) = "ever") = False) ∧ ((("once" : Str) = "sofar") = False) ∧ ((("once" : Str) = "again") = False) ∧ ((("once" : Str) = "settles") = False) ∧ ((("once" : Str) = "and") = False) ∧ ((("once" : Str) = "or") = False) ∧ ((("once" : Str) = "then") = False) ∧ ((("once" : Str) = "until") = False) ∧ ((("once" : Str) = "since") = False) ∧ ((("once" : Str) = "frees") = False) ∧ ((("once" : Str) = "held") = False) := by
  have h : ((("once" : Str) = "now") → False) ∧ ((("once" : Str) = "yes") → False) ∧ ((("once" : Str) = "no") → False) ∧ ((("once" : Str) = "not") → False) ∧ ((("once" : Str) = "next") → False) ∧ ((("once" : Str) = "before") → False) ∧ ((("once" : Str) = "early") → False) ∧ ((("once" : Str) = "soon") → False) ∧ ((("once" : Str) = "ever") → False) ∧ ((("once" : Str) = "sofar") → False) ∧ ((("once" : Str) = "again") → False) ∧ ((("once" : Str) = "settles") → False) ∧ ((("once" : Str) = "and") → False) ∧ ((("once" : Str) = "or") → False) ∧ ((("once" : Str) = "then") → False) ∧ ((("once" : Str) = "until") → False) ∧ ((("once" : Str) = "since") → False) ∧ ((("once" : Str) = "frees") → False) ∧ ((("once" : Str) = "held") → False) := by decide +kernel
  simpa using h
theorem wn_sofar : ((("sofar" : Str) = "now") = False) ∧ ((("sofar" : Str) = "yes") = False) ∧ ((("sofar" : Str) = "no") = False) ∧ ((("sofar" : Str) = "not") = False) ∧ ((("sofar" : Str) = "next") = False) ∧ ((("sofar" : Str) = "before") = False) ∧ ((("sofar" : Str) = "early") = False) ∧ ((("sofar" : Str) = "soon") = False) ∧ ((("sofar" : Str) = "ever") = False) ∧ ((("sofar" : Str) = "once") = False) ∧ ((("sofar" : Str) = "again") = False) ∧ ((("sofar" : Str) = "settles") = False) ∧ ((("sofar" : Str) = "and") = False) ∧ ((("sofar" : Str) = "or") = False) ∧ ((("sofar" : Str) = "then") = False) ∧ ((("sofar" : Str) = "until") = False) ∧ ((("sofar" : Str) = "since") = False) ∧ ((("sofar" : Str) = "frees") = False) ∧ ((("sofar" : Str) = "held") = False) := by
  have h : ((("sofar" : Str) = "now") → False) ∧ ((("sofar" : Str) = "yes") → False) ∧ ((("sofar" : Str) = "no") → False) ∧ ((("sofar" : Str) = "not") → False) ∧ ((("sofar" : Str) = "next") → False) ∧ ((("sofar" : Str) = "before") → False) ∧ ((("sofar" : Str) = "early") → False) ∧ ((("sofar" : Str) = "soon") → False) ∧ ((("sofar" : Str) = "ever") → False) ∧ ((("sofar" : Str) = "once") → False) ∧ ((("sofar" : Str) = "again") → False) ∧ ((("sofar" : Str) = "settles") → False) ∧ ((("sofar" : Str) = "and") → False) ∧ ((("sofar" : Str) = "or") → False) ∧ ((("sofar" : Str) = "then") → False) ∧ ((("sofar" : Str) = "until") → False) ∧ ((("sofar" : Str) = "since") → False) ∧ ((("sofar" : Str) = "frees") → False) ∧ ((("sofar" : Str) = "held") → False) := by decide +kernel
  simpa using h
theorem wn_again : ((("again" : Str) = "now") = False) ∧ ((("again" : Str) = "yes") = False) ∧ ((("again" : Str) = "no") = False) ∧ ((("again" : Str) = "not") = False) ∧ ((("again" : Str) = "next") = False) ∧ ((("again" : Str) = "before") = False) ∧ ((("again" : Str) = "early") = False) ∧ ((("again" : Str) = "soon") = False) ∧ ((("again" : Str) = "ever") = False) ∧ ((("again" : Str) = "once") = False) ∧ ((("again" : Str) = "sofar") = False) ∧ ((("again" : Str) = "settles") = False) ∧ ((("again" : Str) = "and") = False) ∧ ((("again" : Str) = "or") = False) ∧ ((("again" : Str) = "then") = False) ∧ ((("again" : Str) = "until") = False) ∧ ((("again" : Str) = "since") = False) ∧ ((("again" : Str) = "frees") = False) ∧ ((("again" : Str) = "held") = False) := by
  have h : ((("again" : Str) = "now") → False) ∧ ((("again" : Str) = "yes") → False) ∧ ((("again" : Str) = "no") → False) ∧ ((("again" : Str) = "not") → False) ∧ ((("again" : Str) = "next") → False) ∧ ((("again" : Str) = "before") → False) ∧ ((("again" : Str) = "early") → False) ∧ ((("again" : Str) = "soon") → False) ∧ ((("again" : Str) = "ever") → False) ∧ ((("again" : Str) = "once") → False) ∧ ((("again" : Str) = "sofar") → False) ∧ ((("again" : Str) = "settles") → False) ∧ ((("again" : Str) = "and") → False) ∧ ((("again" : Str) = "or") → False) ∧ ((("again" : Str) = "then") → False) ∧ ((("again" : Str) = "until") → False) ∧ ((("again" : Str) = "since") → False) ∧ ((("again" : Str) = "frees") → False) ∧ ((("again" : Str) = "held") → False) := by decide +kernel
  simpa using h
theorem wn_settles : ((("settles" : Str) = "now") = False) ∧ ((("settles" : Str) = "yes") = False) ∧ ((("settles" : Str) = "no") = False) ∧ ((("settles" : Str) = "not") = False) ∧ ((("settles" : Str) = "next") = False) ∧ ((("settles" : Str) = "before") = False) ∧ ((("settles" : Str) = "early") = False) ∧ ((("settles" : Str) = "soon") = False) ∧ ((("settles" : Str) = "ever") = False) ∧ ((("settles" : Str) = "once") = False) ∧ ((("settles" : Str) = "sofar") = False) ∧ ((("settles" : Str) = "again") = False) ∧ ((("settles" : Str) = "and") = False) ∧ ((("settles" : Str) = "or") = False) ∧ ((("settles" : Str) = "then") = False) ∧ ((("settles" : Str) = "until") = False) ∧ ((("settles" : Str) = "since") = False) ∧ ((("settles" : Str) = "frees") = False) ∧ ((("settles" : Str) = "held") = False) := by
  have h : ((("settles" : Str) = "now") → False) ∧ ((("settles" : Str) = "yes") → False) ∧ ((("settles" : Str) = "no") → False) ∧ ((("settles" : Str) = "not") → False) ∧ ((("settles" : Str) = "next") → False) ∧ ((("settles" : Str) = "before") → False) ∧ ((("settles" : Str) = "early") → False) ∧ ((("settles" : Str) = "soon") → False) ∧ ((("settles" : Str) = "ever") → False) ∧ ((("settles" : Str) = "once") → False) ∧ ((("settles" : Str) = "sofar") → False) ∧ ((("settles" : Str) = "again") → False) ∧ ((("settles" : Str) = "and") → False) ∧ ((("settles" : Str) = "or") → False) ∧ ((("settles" : Str) = "then") → False) ∧ ((("settles" : Str) = "until") → False) ∧ ((("settles" : Str) = "since") → False) ∧ ((("settles" : Str) = "frees") → False) ∧ ((("settles" : Str) = "held") → False) := by decide +kernel
  simpa using h
theorem wn_and : ((("and" : Str) = "now") = False) ∧ ((("and" : Str) = "yes") = False) ∧ ((("and" : Str) = "no") = False) ∧ ((("and" : Str) = "not") = False) ∧ ((("and" : Str) = "next") = False) ∧ ((("and" : Str) = "before") = False) ∧ ((("and" : Str) = "early") = False) ∧ ((("and" : Str) = "soon") = False) ∧ ((("and" : Str) = "ever") = False) ∧ ((("and" : Str) = "once") = False) ∧ ((("and" : Str) = "sofar") = False) ∧ ((("and" : Str) = "again") = False) ∧ ((("and" : Str) = "settles") = False) ∧ ((("and" : Str) = "or") = False) ∧ ((("and" : Str) = "then") = False) ∧ ((("and" : Str) = "until") = False) ∧ ((("and" : Str) = "since") = False) ∧ ((("and" : Str) = "frees") = False) ∧ ((("and" : Str) = "held") = False) := by
  have h : ((("and" : Str) = "now") → False) ∧ ((("and" : Str) = "yes") → False) ∧ ((("and" : Str) = "no") → False) ∧ ((("and" : Str) = "not") → False) ∧ ((("and" : Str) = "next") → False) ∧ ((("and" : Str) = "before") → False) ∧ ((("and" : Str) = "early") → False) ∧ ((("and" : Str) = "soon") → False) ∧ ((("and" : Str) = "ever") → False) ∧ ((("and" : Str) = "once") → False) ∧ ((("and" : Str) = "sofar") → False) ∧ ((("and" : Str) = "again") → False) ∧ ((("and" : Str) = "settles") → False) ∧ ((("and" : Str) = "or") → False) ∧ ((("and" : Str) = "then") → False) ∧ ((("and" : Str) = "until") → False) ∧ ((("and" : Str) = "since") → False) ∧ ((("and" : Str) = "frees") → False) ∧ ((("and" : Str) = "held") → False) := by decide +kernel
  simpa using h
theorem wn_or : ((("or" : Str) = "now") = False) ∧ ((("or" : Str) = "yes") = False) ∧ ((("or" : Str) = "no") = False) ∧ ((("or" : Str) = "not") = False) ∧ ((("or" : Str) = "next") = False) ∧ ((("or" : Str) = "before") = False) ∧ ((("or" : Str) = "early") = False) ∧ ((("or" : Str) = "soon") = False) ∧ ((("or" : Str) = "ever") = False) ∧ ((("or" : Str) = "once") = False) ∧ ((("or" : Str) = "sofar") = False) ∧ ((("or" : Str) = "again") = False) ∧ ((("or" : Str) = "settles") = False) ∧ ((("or" : Str) = "and") = False) ∧ ((("or" : Str) = "then") = False) ∧ ((("or" : Str) = "until") = False) ∧ ((("or" : Str) = "since") = False) ∧ ((("or" : Str) = "frees") = False) ∧ ((("or" : Str) = "held") = False) := by
  have h : ((("or" : Str) = "now") → False) ∧ ((("or" : Str) = "yes") → False) ∧ ((("or" : Str) = "no") → False) ∧ ((("or" : Str) = "not") → False) ∧ ((("or" : Str) = "next") → False) ∧ ((("or" : Str) = "before") → False) ∧ ((("or" : Str) = "early") → False) ∧ ((("or" : Str) = "soon") → False) ∧ ((("or" : Str) = "ever") → False) ∧ ((("or" : Str) = "once") → False) ∧ ((("or" : Str) = "sofar") → False) ∧ ((("or" : Str) = "again") → False) ∧ ((("or" : Str) = "settles") → False) ∧ ((("or" : Str) = "and") → False) ∧ ((("or" : Str) = "then") → False) ∧ ((("or" : Str) = "until") → False) ∧ ((("or" : Str) = "since") → False) ∧ ((("or" : Str) = "frees") → False) ∧ ((("or" : Str) = "held") → False) := by decide +kernel
  simpa using h
theorem wn_then : ((("then" : Str) = "now") = False) ∧ ((("then" : Str) = "yes") = False) ∧ ((("then" : Str) = "no") = False) ∧ ((("then" : Str) = "not") = False) ∧ ((("then" : Str) = "next") = False) ∧ ((("then" : Str) = "before") = False) ∧ ((("then" : Str) = "early") = False) ∧ ((("then" : Str) = "soon") = False) ∧ ((("then" : Str) = "ever") = False) ∧ ((("then" : Str) = "once") = False) ∧ ((("then" : Str) = "sofar") = False) ∧ ((("then" : Str) = "again") = False) ∧ ((("then" : Str) = "settles") = False) ∧ ((("then" : Str) = "and") = False) ∧ ((("then" : Str) = "or") = False) ∧ ((("then" : Str) = "until") = False) ∧ ((("then" : Str) = "since") = False) ∧ ((("then" : Str) = "frees") = False) ∧ ((("then" : Str) = "held") = False) := by
  have h : ((("then" : Str) = "now") → False) ∧ ((("then" : Str) = "yes") → False) ∧ ((("then" : Str) = "no") → False) ∧ ((("then" : Str) = "not") → False) ∧ ((("then" : Str) = "next") → False) ∧ ((("then" : Str) = "before") → False) ∧ ((("then" : Str) = "early") → False) ∧ ((("then" : Str) = "soon") → False) ∧ ((("then" : Str) = "ever") → False) ∧ ((("then" : Str) = "once") → False) ∧ ((("then" : Str) = "sofar") → False) ∧ ((("then" : Str) = "again") → False) ∧ ((("then" : Str) = "settles") → False) ∧ ((("then" : Str) = "and") → False) ∧ ((("then" : Str) = "or") → False) ∧ ((("then" : Str) = "until") → False) ∧ ((("then" : Str) = "since") → False) ∧ ((("then" : Str) = "frees") → False) ∧ ((("then" : Str) = "held") → False) := by decide +kernel
  simpa using h
theorem wn_until : ((("until" : Str) = "now") = False) ∧ ((("until" : Str) = "yes") = False) ∧ ((("until" : Str) = "no") = False) ∧ ((("until" : Str) = "not") = False) ∧ ((("until" : Str) = "next") = False) ∧ ((("until" : Str) = "before") = False) ∧ ((("until" : Str) = "early") = False) ∧ ((("until" : Str) = "soon") = False) ∧ ((("until" : Str) = "ever") = False) ∧ ((("until" : Str) = "once") = False) ∧ ((("until" : Str) = "sofar") = False) ∧ ((("until" : Str) = "again") = False) ∧ ((("until" : Str) = "settles") = False) ∧ ((("until" : Str) = "and") = False) ∧ ((("until" : Str) = "or") = False) ∧ ((("until" : Str) = "then") = False) ∧ ((("until" : Str) = "since") = False) ∧ ((("until" : Str) = "frees") = False) ∧ ((("until" : Str) = "held") = False) := by
  have h : ((("until" : Str) = "now") → False) ∧ ((("until" : Str) = "yes") → False) ∧ ((("until" : Str) = "no") → False) ∧ ((("until" : Str) = "not") → False) ∧ ((("until" : Str) = "next") → False) ∧ ((("until" : Str) = "before") → False) ∧ ((("until" : Str) = "early") → False) ∧ ((("until" : Str) = "soon") → False) ∧ ((("until" : Str) = "ever") → False) ∧ ((("until" : Str) = "once") → False) ∧ ((("until" : Str) = "sofar") → False) ∧ ((("until" : Str) = "again") → False) ∧ ((("until" : Str) = "settles") → False) ∧ ((("until" : Str) = "and") → False) ∧ ((("until" : Str) = "or") → False) ∧ ((("until" : Str) = "then") → False) ∧ ((("until" : Str) = "since") → False) ∧ ((("until" : Str) = "frees") → False) ∧ ((("until" : Str) = "held") → False) := by decide +kernel
  simpa using h
theorem wn_since : ((("since" : Str) = "now") = False) ∧ ((("since" : Str) = "yes") = False) ∧ ((("since" : Str) = "no") = False) ∧ ((("since" : Str) = "not") = False) ∧ ((("since" : Str) = "next") = False) ∧ ((("since" : Str) = "before") = False) ∧ ((("since" : Str) = "early") = False) ∧ ((("since" : Str) = "soon") = False) ∧ ((("since" : Str) = "ever") = False) ∧ ((("since" : Str) = "once") = False) ∧ ((("since" : Str) = "sofar") = False) ∧ ((("since" : Str) = "again") = False) ∧ ((("since" : Str) = "settles") = False) ∧ ((("since" : Str) = "and") = False) ∧ ((("since" : Str) = "or") = False) ∧ ((("since" : Str) = "then") = False) ∧ ((("since" : Str) = "until") = False) ∧ ((("since" : Str) = "frees") = False) ∧ ((("since" : Str) = "held") = False) := by
  have h : ((("since" : Str) = "now") → False) ∧ ((("since" : Str) = "yes") → False) ∧ ((("since" : Str) = "no") → False) ∧ ((("since" : Str) = "not") → False) ∧ ((("since" : Str) = "next") → False) ∧ ((("since" : Str) = "before") → False) ∧ ((("since" : Str) = "early") → False) ∧ ((("since" : Str) = "soon") → False) ∧ ((("since" : Str) = "ever") → False) ∧ ((("since" : Str) = "once") → False) ∧ ((("since" : Str) = "sofar") → False) ∧ ((("since" : Str) = "again") → False) ∧ ((("since" : Str) = "settles") → False) ∧ ((("since" : Str) = "and") → False) ∧ ((("since" : Str) = "or") → False) ∧ ((("since" : Str) = "then") → False) ∧ ((("since" : Str) = "until") → False) ∧ ((("since" : Str) = "frees") → False) ∧ ((("since" : Str) = "held") → False) := by decide +kernel
  simpa using h
theorem wn_frees : ((("frees" : Str) = "now") = False) ∧ ((("frees" : Str) = "yes") = False) ∧ ((("frees" : Str) = "no") = False) ∧ ((("frees" : Str) = "not") = False) ∧ ((("frees" : Str) = "next") = False) ∧ ((("frees" : Str) = "before") = False) ∧ ((("frees" : Str) = "early") = False) ∧ ((("frees" : Str) = "soon") = False) ∧ ((("frees" : Str) = "ever") = False) ∧ ((("frees" : Str) = "once") = False) ∧ ((("frees" : Str) = "sofar") = False) ∧ ((("frees" : Str) = "again") = False) ∧ ((("frees" : Str) = "settles") = False) ∧ ((("frees" : Str) = "and") = False) ∧ ((("frees" : Str) = "or") = False) ∧ ((("frees" : Str) = "then") = False) ∧ ((("frees" : Str) = "until") = False) ∧ ((("frees" : Str) = "since") = False) ∧ ((("frees" : Str) = "held") = False) := by
  have h : ((("frees" : Str) = "now") → False) ∧ ((("frees" : Str) = "yes") → False) ∧ ((("frees" : Str) = "no") → False) ∧ ((("frees" : Str) = "not") → False) ∧ ((("frees" : Str) = "next") → False) ∧ ((("frees" : Str) = "before") → False) ∧ ((("frees" : Str) = "early") → False) ∧ ((("frees" : Str) = "soon") → False) ∧ ((("frees" : Str) = "ever") → False) ∧ ((("frees" : Str) = "once") → False) ∧ ((("frees" : Str) = "sofar") → False) ∧ ((("frees" : Str) = "again") → False) ∧ ((("frees" : Str) = "settles") → False) ∧ ((("frees" : Str) = "and") → False) ∧ ((("frees" : Str) = "or") → False) ∧ ((("frees" : Str) = "then") → False) ∧ ((("frees" : Str) = "until") → False) ∧ ((("frees" : Str) = "since") → False) ∧ ((("frees" : Str) = "held") → False) := by decide +kernel
  simpa using h
theorem wn_held : ((("held" : Str) = "now") = False) ∧ ((("held" : Str) = "yes") = False) ∧ ((("held" : Str) = "no") = False) ∧ ((("held" : Str) = "not") = False) ∧ ((("held" : Str) = "next") = False) ∧ ((("held" : Str) = "before") = False) ∧ ((("held" : Str) = "early") = False) ∧ ((("held" : Str) = "soon") = False) ∧ ((("held" : Str) = "ever") = False) ∧ ((("held" : Str) = "once") = False) ∧ ((("held" : Str) = "sofar") = False) ∧ ((("held" : Str) = "again") = False) ∧ ((("held" : Str) = "settles") = False) ∧ ((("held" : Str) = "and") = False) ∧ ((("held" : Str) = "or") = False) ∧ ((("held" : Str) = "then") = False) ∧ ((("held" : Str) = "until") = False) ∧ ((("held" : Str) = "since") = False) ∧ ((("held" : Str) = "frees") = False) := by
  have h : ((("held" : Str) = "now") → False) ∧ ((("held" : Str) = "yes") → False) ∧ ((("held" : Str) = "no") → False) ∧ ((("held" : Str) = "not") → False) ∧ ((("held" : Str) = "next") → False) ∧ ((("held" : Str) = "before") → False) ∧ ((("held" : Str) = "early") → False) ∧ ((("held" : Str) = "soon") → False) ∧ ((("held" : Str) = "ever") → False) ∧ ((("held" : Str) = "once") → False) ∧ ((("held" : Str) = "sofar") → False) ∧ ((("held" : Str) = "again") → False) ∧ ((("held" : Str) = "settles") → False) ∧ ((("held" : Str) = "and") → False) ∧ ((("held" : Str) = "or") → False) ∧ ((("held" : Str) = "then") → False) ∧ ((("held" : Str) = "until") → False) ∧ ((("held" : Str) = "since") → False) ∧ ((("held" : Str) = "frees") → False) := by decide +kernel
  simpa using h
theorem e_in2 {s a b : Str} : dIn (.str s) (.tup [.str a, .str b]) = some (.bl (decide (s = a) || decide (s = b))) := by
  have h := e_inwt (ws := [a, b]) (s := s)
  refine h.trans ?_
  simp
theorem e_in2l {s a b : Str} : dIn (.str s) (.lst [.str a, .str b]) = some (.bl (decide (s = a) || decide (s = b))) := by
  have h := e_inw (ws := [a, b]) (s := s)
  refine h.trans ?_
  simp
end Fz
set_option Elab.async false
set_option linter.all false
set_option maxRecDepth 100000
set_option maxHeartbeats 2000000
namespace Fz
open PySem L2 PySem.Spec PyProof.Rows
def dStrs : List D → Option (List Str)
  | [] => some []
  | .str s :: ds => (dStrs ds).map (s :: ·)
  | _ => none
theorem dStrs_map : ∀ ss : List Str, dStrs (ss.map D.str) = some ss
  | [] => rfl
  | s :: r => by show (dStrs (r.map D.str)).map _ = _; rw [dStrs_map r]; rfl
theorem dStrs_v {T : Tab} {B : Hp} : ∀ {ds : List D} {ss : List Str} {vs : List V}, dStrs ds = some ss → Reps T B ds vs → vs = ss.map V.str ∧ ∀ s ∈ ss, PyData.strOk s = true
  | [], ss, vs, h, r => by cases h; unfold Reps at r; exact ⟨r, fun _ h => by cases h⟩
  | d :: ds, ss, vs, h, r => by
    cases d with
    | str s =>
      have h : (dStrs ds).map (s :: ·) = some ss := h
      unfold Reps at r
      obtain ⟨v, us, rfl, r1, r2⟩ := r
      cases e2 : dStrs ds with
      | none => rw [e2] at h; cases h
      | some ss2 =>
        rw [e2] at h; cases h
        obtain ⟨rfl, ok⟩ := rep_str r1
        obtain ⟨rfl, ok2⟩ := dStrs_v e2 r2
        exact ⟨rfl, fun x hx => by rcases List.mem_cons.mp hx with rfl | hx; exact ok; exact ok2 x hx⟩
    | _ => cases h
def sLe (a b : Str) : Bool := !ltCps b.cps.toList a.cps.toList
theorem sLe_iff {a b : Str} : sLe a b = true ↔ ¬ b.cps.toList < a.cps.toList := by
  unfold sLe
  rw [ltCps_eq]
  simp
theorem str_ext {a b : Str} (h : a.cps.toList = b.cps.toList) : a = b := by
  cases a; cases b; simp at h; rw [h]
theorem sLe_antisymm {a b : Str} (h : sLe a b = true) (g : sLe b a = true) : a = b := by
  rw [sLe_iff] at h g
  exact str_ext (Std.le_antisymm (List.not_lt.mp h) (List.not_lt.mp g))
theorem sLe_trans {a b c : Str} (h : sLe a b = true) (g : sLe b c = true) : sLe a c = true := by
  rw [sLe_iff] at h g ⊢
  exact List.not_lt.mpr (Std.le_trans (List.not_lt.mp h) (List.not_lt.mp g))
theorem sLe_total (a b : Str) : (sLe a b || sLe b a) = true := by
  rw [Bool.or_eq_true, sLe_iff, sLe_iff, List.not_lt, List.not_lt]
  exact Std.le_total
def ssort (l : List Str) : List Str := l.mergeSort sLe
theorem ssort_perm (l : List Str) : (ssort l).Perm l := List.mergeSort_perm l sLe
theorem ssort_sorted (l : List Str) : (ssort l).Pairwise (fun a b => sLe a b = true) := List.pairwise_mergeSort (le := sLe) (fun _ _ _ h g => sLe_trans h g) (fun a b => sLe_total a b) l
theorem rising_pw : ∀ (l : List Str) (p : Str), risingS p l = true → (p :: l).Pairwise (fun a b => sLe a b = true)
  | [], p, _ => by simp
  | x :: r, p, h => by
    have h : (sLe p x && risingS x r) = true := h
    obtain ⟨h1, h2⟩ := (Bool.and_eq_true _ _).mp h
    have ih := rising_pw r x h2
    refine List.pairwise_cons.mpr ⟨fun y hy => ?_, ih⟩
    rcases List.mem_cons.mp hy with rfl | hy
    · exact h1
    · exact sLe_trans h1 ((List.pairwise_cons.mp ih).1 y hy)
theorem sortedS_pw {l : List Str} (h : sortedS l = true) : l.Pairwise (fun a b => sLe a b = true) := by
  cases l with
  | nil => exact .nil
  | cons x r => exact rising_pw r x h
theorem pw_unique : ∀ {a b : List Str}, a.Perm b → a.Pairwise (fun a b => sLe a b = true) → b.Pairwise (fun a b => sLe a b = true) → a = b
  | [], b, p, _, _ => (List.nil_perm.mp p).symm
  | x :: r, b, p, ha, hb => by
    cases b with
    | nil => exact absurd p.length_eq (by simp)
    | cons y s =>
      have hx : x ∈ y :: s := p.mem_iff.mp (.head _)
      have hy : y ∈ x :: r := p.mem_iff.mpr (.head _)
      have e : x = y := by
        rcases List.mem_cons.mp hx with h | h
        · exact h
        · rcases List.mem_cons.mp hy with g | g
          · exact g.symm
          · exact sLe_antisymm ((List.pairwise_cons.mp ha).1 y g) ((List.pairwise_cons.mp hb).1 x h)
      subst e
      rw [pw_unique (List.Perm.cons_inv p) (List.pairwise_cons.mp ha).2 (List.pairwise_cons.mp hb).2]
theorem ssort_of {a b : List Str} (p : a.Perm b) (h : a.Pairwise (fun a b => sLe a b = true)) : a = ssort b := pw_unique (p.trans (ssort_perm b).symm) h (ssort_sorted b)
def gSorted : List D → Option (List D)
  | [.lst xs] => (dStrs xs).bind fun ss => if ss.length < 64 then some ((ssort ss).map D.str) else none
  | _ => none
theorem p_sorted {T : Tab} : PrimL T (rSortedS T.K) gSorted := by
  intro xs zs vs B H Q e hx hz k
  unfold gSorted at hz
  split at hz
  · rename_i ys
    cases hb : dStrs ys with
    | none => rw [hb] at hz; cases hz
    | some ss =>
      rw [hb] at hz
      have hz : (if ss.length < 64 then some ((ssort ss).map D.str) else none) = some zs := hz
      split at hz
      · rename_i hl
        cases hz
        obtain ⟨v, rfl, r⟩ := reps1 hx
        unfold Rep at r
        obtain ⟨a, us, rfl, t1, r1⟩ := r
        obtain ⟨rfl, ok⟩ := dStrs_v hb r1
        refine ⟨a, ss, rfl, e.sqL t1, hl, fun out p hp hs hn => ?_⟩
        have ho := ssort_of hp (sortedS_pw hs)
        subst ho
        exact k p _ B H (.refl e) hn (reps_strs fun s hs => ok s ((ssort_perm ss).mem_iff.mp hs))
      · cases hz
  · cases hz
def dJoin : D → List D → Option D
  | .str a, [.lst xs] => (dStrs xs).bind fun ss => if (ss.map (·.length)).sum + ss.length * a.length ≤ 16777216 then some (.str (Txt.join a ss)) else none
  | .str a, [.tup xs] => (dStrs xs).bind fun ss => if (ss.map (·.length)).sum + ss.length * a.length ≤ 16777216 then some (.str (Txt.join a ss)) else none
  | _, _ => none
theorem txt_join (a : Str) (ss : List Str) : Txt.join a ss = Str.join a ss := PySem.StrLaws.glued_eq_join a ss
theorem join_ok0 (a : Str) (ha : PyData.strOk a = true) : ∀ ss : List Str, (∀ s ∈ ss, PyData.strOk s = true) → PyData.strOk (Str.join a ss) = true
  | [], _ => by show PyData.strOk Str.empty = true; decide +kernel
  | [s], h => h s (.head _)
  | s :: t :: r, h => by
    show PyData.strOk (s ++ a ++ Str.join a (t :: r)) = true
    exact strOk_app (strOk_app (h s (.head _)) ha) (join_ok0 a ha (t :: r) fun x hx => h x (.tail _ hx))
theorem join_ok (a : Str) (ha : PyData.strOk a = true) (ss : List Str) (h : ∀ s ∈ ss, PyData.strOk s = true) : PyData.strOk (Txt.join a ss) = true := by
  rw [txt_join]; exact join_ok0 a ha ss h
theorem p_join {T : Tab} : PrimM T (fun x xs H Q => ∃ a p, ∃ ys : List Str, x = V.str a ∧ xs = [.ref p] ∧ (SqL T.K H p (ys.map V.str) ∨ SqT T.K H p (ys.map V.str)) ∧
    (ys.map (·.length)).sum + ys.length * a.length ≤ 16777216 ∧ Q (.str (Txt.join a ys)) H) dJoin := by
  intro x xs z v vs B H Q e hx hy hz k
  unfold dJoin at hz
  split at hz
  · rename_i a ys
    cases hb : dStrs ys with
    | none => rw [hb] at hz; cases hz
    | some ss =>
      rw [hb] at hz
      have hz : (if (ss.map (·.length)).sum + ss.length * a.length ≤ 16777216 then some (D.str (Txt.join a ss)) else none) = some z := hz
      split at hz
      · rename_i hl
        cases hz
        obtain ⟨rfl, oka⟩ := rep_str hx
        obtain ⟨u, rfl, r⟩ := reps1 hy
        unfold Rep at r
        obtain ⟨p, us, rfl, t1, r1⟩ := r
        obtain ⟨rfl, ok⟩ := dStrs_v hb r1
        exact ⟨a, p, ss, rfl, rfl, .inl (e.sqL t1), hl, k _ B H (.refl e) ⟨rfl, join_ok a oka ss ok⟩⟩
      · cases hz
  · rename_i a ys
    cases hb : dStrs ys with
    | none => rw [hb] at hz; cases hz
    | some ss =>
      rw [hb] at hz
      have hz : (if (ss.map (·.length)).sum + ss.length * a.length ≤ 16777216 then some (D.str (Txt.join a ss)) else none) = some z := hz
      split at hz
      · rename_i hl
        cases hz
        obtain ⟨rfl, oka⟩ := rep_str hx
        obtain ⟨u, rfl, r⟩ := reps1 hy
        unfold Rep at r
        obtain ⟨p, us, rfl, t1, r1⟩ := r
        obtain ⟨rfl, ok⟩ := dStrs_v hb r1
        exact ⟨a, p, ss, rfl, rfl, .inr (e.tu t1).sq, hl, k _ B H (.refl e) ⟨rfl, join_ok a oka ss ok⟩⟩
      · cases hz
  · cases hz
def dStr : List D → Option D
  | [.int i] => if 0 ≤ i ∧ i < 2 ^ 62 then some (.str (Str.ofString (toString i))) else none
  | _ => none
theorem num_cps (n : Nat) : (Str.ofString (toString ((n : Nat) : Int))).cps.toList = TL.numL n := TL.tl_num n
theorem p_str {T : Tab} : PrimN T (fun xs H Q => ∃ i, xs = [V.int i] ∧ i.natAbs.log2 < 1920 ∧ Q (.str (toString i)) H) dStr := by
  intro xs z vs B H Q e hx hz k
  unfold dStr at hz
  split at hz
  · rename_i i
    split at hz
    · rename_i hi
      cases hz
      obtain ⟨v, rfl, r⟩ := reps1 hx
      cases rep_int r
      obtain ⟨n, rfl⟩ : ∃ n : Nat, i = n := ⟨i.toNat, by omega⟩
      refine ⟨(n : Int), rfl, ?_, k _ B H (.refl e) ⟨rfl, ?_⟩⟩
      · by_cases h0 : n = 0
        · subst h0; decide
        · have : n < 2 ^ 62 := by omega
          have := (Nat.log2_lt h0).mpr this
          show Nat.log2 n < 1920
          omega
      · rw [strOk_mem, num_cps]
        intro c hc
        have := TL.numL_digits n c hc
        omega
    · cases hz
  · cases hz
section
variable {ι : Type} {T : Tab} {E : L2.St → XK} {X : ι → Cx} {kp : Nat → Bool} {pos apos : Pos} {e a b c o : Expr} {es : List Expr} {fa fb fc : M D} {fs : M (List D)}
theorem xr_sorted {p : Pos} (hm : ∀ j, (X j).mg "sorted" = none) (ha : XA T E X [e] fs) (hK : ∀ j, (X j).K = T.K := by intro j; rfl) (hg : ∀ j, Gl (X j) "sorted" := by intro j; rfl) (he : ∀ j, starEach [e] (X j).env = (false, eval e (X j).env) :: starEach [] (X j).env := by intro j; rfl) (hpl : ∀ j, (backTo pos (starEach [] (X j).env)).any (·.1) = false := by intro j; rfl) : XR T E X (.Call (.Name "sorted" p) [e] [] pos) (rOp gSorted fs) :=
  xr_callB (fun j => by rw [← hK j]; exact cr_sortedS) p_sorted hm (by decide +kernel) ha hg (by decide +kernel) (by decide +kernel) he hpl
theorem xe_join (ho : XE T E X o fa) (ha : XA T E X [e] fs) (hK : ∀ j, (X j).K = T.K := by intro j; rfl) (k : MtOk X o e [] "join" apos pos := by exact ⟨fun j => rfl, fun j => rfl, rfl, fun j => rfl, fun j => rfl⟩) : XE T E X (.Call (.Attribute o "join" apos) [e] [] pos) (eMt "str" dJoin fa fs) :=
  xe_mt PySem.F.plainAttrs_str PySem.F.slot_str_join PySem.F.type_str_join p_join (fun j => by rw [← hK j]; exact mt_join) ho ha hK k
theorem xe_strc {p : Pos} (hm : ∀ j, (X j).mg "str" = none) (ha : XA T E X [e] fs) (hg : ∀ j, Gl (X j) "str" := by intro j; rfl) (he : ∀ j, starEach [e] (X j).env = (false, eval e (X j).env) :: starEach [] (X j).env := by intro j; rfl) (hpl : ∀ j, (backTo pos (starEach [] (X j).env)).any (·.1) = false := by intro j; rfl) : XE T E X (.Call (.Name "str" p) [e] [] pos) (eOp dStr fs) :=
  xe_callTy (fun j => call_str_int) p_str hm (by decide +kernel) ha hg (by decide +kernel) (by decide +kernel) he hpl
end
end Fz
set_option Elab.async false
set_option linter.all false
set_option maxRecDepth 100000
set_option maxHeartbeats 2000000
namespace Fz
open PySem L2
def mkE (c nf : Nat) (Q : Oc R → Sl → Prop) : Oc R → Sl → Prop
  | .v (.d .non), some (.oi c2 fs) :: s => wc (c2 = c ∧ fs.length = nf) (ku Q (.oi c fs) s)
  | .x k, _ :: s => Q (.x k) s
  | _, _ => False
theorem mkE_v {c nf c2 : Nat} {Q : Oc R → Sl → Prop} {fs : List D} {s : Sl} : mkE c nf Q (.v (.d .non)) (some (.oi c2 fs) :: s) = wc (c2 = c ∧ fs.length = nf) (ku Q (.oi c fs) s) := rfl
def kMkU (c nf : Nat) (F : Fn) (as : List Arg) (Q : Oc R → Sl → Prop) (s : Sl) : Unit → Prop := fun _ => wp (callF F (.o 0 :: as.map upA)) (some (.oi c []) :: s) (mkE c nf Q)
theorem kMkU_a {c nf : Nat} {F : Fn} {as : List Arg} {Q : Oc R → Sl → Prop} {s : Sl} : kMkU c nf F as Q s () = wp (callF F (.o 0 :: as.map upA)) (some (.oi c []) :: s) (mkE c nf Q) := rfl
def kMk (c nf n : Nat) (F : Fn) (Q : Oc R → Sl → Prop) : Oc (List Arg) → Sl → Prop := vx Q fun as s => wc (as.length + 1 = n) (kMkU c nf F as Q s)
theorem kMk_v {c nf n : Nat} {F : Fn} {Q : Oc R → Sl → Prop} {as : List Arg} {s : Sl} : kMk c nf n F Q (.v as) s = wc (as.length + 1 = n) (kMkU c nf F as Q s) := rfl
theorem n_rMake {c nf n : Nat} {F : Fn} {fl : M (List Arg)} {st : Sl} {Q : Oc R → Sl → Prop} : wp (rMake c nf n F fl) st Q = wp fl st (kMk c nf n F Q) := by
  unfold rMake
  rw [wp_bnd]
  refine congrArg _ ?_
  funext o s
  cases o with
  | x k => rfl
  | v as =>
    show wp (fun st => if as.length + 1 = n then _ else none) s Q = wc (as.length + 1 = n) (kMkU c nf F as Q s)
    unfold wc wa kMkU wp
    by_cases h : as.length + 1 = n
    · simp only [h, if_true, true_and]
      cases callF F (.o 0 :: as.map upA) (some (.oi c []) :: s) with
      | none => rfl
      | some p =>
        obtain ⟨o, s2⟩ := p
        cases o with
        | x k =>
          cases s2 with
          | nil => rfl
          | cons a s2 => rfl
        | v r =>
          cases r with
          | d x =>
            cases x <;> try rfl
            cases s2 with
            | nil => rfl
            | cons a s2 =>
              cases a with
              | none => rfl
              | some r2 =>
                cases r2 <;> try rfl
                rename_i c2 fs
                simp only [mkE, wc, wa, ku]
                by_cases h2 : c2 = c ∧ fs.length = nf
                · simp [h2]
                · simp [h2]
          | _ => rfl
    · simp only [h, if_false, false_and]
theorem upA_o {i : Nat} : upA (.o i) = .o (i + 1) := rfl
theorem upA_v {x : D} : upA (.v x) = .v x := rfl
end Fz
set_option Elab.async false
set_option linter.all false
set_option maxRecDepth 100000
set_option maxHeartbeats 2000000
namespace Fz
open PySem PySem.Spec PyProof.Rows L2
section
variable {P : Program} {w : World} {K : Type} [DecidableEq K] {knd : KeyKind P w K}
def Apart (knd : KeyKind P w K) (l : List (Int × Value)) : Prop := l.Pairwise fun e f => ∀ k, knd.is k e.2 = true → knd.is k f.2 = false
theorem Apart.perm {l l' : List (Int × Value)} (h : Apart knd l) (p : l.Perm l') : Apart knd l' :=
  (p.pairwise_iff (fun {e f} h k q => by
    cases c : knd.is k e.2 with
    | false => rfl
    | true => exact absurd (h k c) (by rw [q]; exact Bool.noConfusion))).mp h
def SetG (knd : KeyKind P w K) (h : Heap) (a : Addr) (S : K → Bool) (n : Nat) : Prop :=
  ∃ o es ep t, h.get? a = some o ∧ o.ExactSet ∧ o.data = .set es ep t ∧ ElemsOf knd es.toList ∧ (∀ k, S k = true ↔ ∃ e ∈ es.toList, knd.is k e.2 = true) ∧ es.size < scanBound ∧ t.fits es.size = true ∧ es.size = n ∧
    Apart knd es.toList ∧ Ris t.place.toList ∧ (w.params.followText "set-order" = true ∨ t.led = true)
theorem SetG.at {h h' : Heap} {a : Addr} {S : K → Bool} {n : Nat} (R : SetG knd h a S n) (k : ∀ o, h.get? a = some o → h'.get? a = some o) : SetG knd h' a S n := by
  obtain ⟨o, es, ep, t, ho, r⟩ := R
  exact ⟨o, es, ep, t, k o ho, r⟩
theorem SetG.congr {h : Heap} {a : Addr} {S S' : K → Bool} {n : Nat} (R : SetG knd h a S n) (e : ∀ k, S' k = S k) : SetG knd h a S' n := by
  rw [show S' = S from funext e]; exact R
variable {A : Around} {E : Value → Shared → Prop} {s : Shared} {a : Addr} {S : K → Bool} {n : Nat}
theorem setG_tail {g : Bool → Sem Unit} (hg : ∀ (b : Bool) (s₁ : Shared) (Q' : Unit → Shared → Prop), Q' () s₁ → wpAny (model P w) A (g b) Q' E s₁)
    {o : Obj} {es : Array (Int × Value)} {ep : Nat} {t : SetTable} (ho : s.heap.get? a = some o) (hex : o.ExactSet) (hd : o.data = .set es ep t)
    {es1 : Array (Int × Value)} {t2 : SetTable} {S' : K → Bool} (g1 : ElemsOf knd es1.toList) (ap : Apart knd es1.toList) (m1 : ∀ k, S' k = true ↔ ∃ e ∈ es1.toList, knd.is k e.2 = true)
    (hb1 : es1.size < scanBound) (hf2 : t2.fits es1.size = true) (hr : Ris t2.place.toList) (hl : w.params.followText "set-order" = true ∨ t2.led = true) {wasDummy : Bool} {R : Option Bool → Shared → Prop}
    (hR : ∀ h', Heap.SameBut a s.heap h' → SetG knd h' a S' es1.size → R (some true) { s with heap := h' }) :
    wpAny (model P w) A (do
        storeSet a es1 t2
        if (!wasDummy && t2.tooFull) = true then do
            g (relayAll t2 es1 (SetTable.grown es1.size)).2.2
            storeSet a (relayAll t2 es1 (SetTable.grown es1.size)).1 (relayAll t2 es1 (SetTable.grown es1.size)).2.1
            pure (some true)
          else pure (some true)) R E s := by
  have ho1 := store_at (es' := es1) (t' := t2) ho hd
  have sb1 := Heap.SameBut.update s.heap a (Obj.putSet es1 t2)
  refine wpAny_bind (wpAny_storeSet_of ho hd ?_ (fits_of_scanBound hb1))
  split
  · have pm := relayAll_perm t2 es1 (SetTable.grown es1.size)
    have hf3 := relayAll_fits t2 es1 (SetTable.grown es1.size)
    have hr3 := relayAll_ris t2 es1 (SetTable.grown es1.size)
    have hl3 := relayAll_led t2 es1 (SetTable.grown es1.size)
    generalize relayAll t2 es1 (SetTable.grown es1.size) = Z at pm hf3 hr3 hl3 ⊢
    obtain ⟨es2, t3, gave⟩ := Z
    dsimp only at pm hf3 hr3 hl3 ⊢
    have hsz : es2.size = es1.size := by rw [← Array.length_toList, pm.length_eq, Array.length_toList]
    have hb2 : es2.size < scanBound := by rw [hsz]; exact hb1
    refine wpAny_bind (hg _ _ _ ?_)
    refine wpAny_bind (wpAny_storeSet_of ho1 rfl ?_ (fits_of_scanBound hb2))
    have ho2 := store_at (es' := es2) (t' := t3) ho1 rfl
    refine wpAny_pure (hR _ (sb1.trans (Heap.SameBut.update _ a _)) ?_)
    refine ⟨_, es2, _, t3, ho2, hex, rfl, fun e he => g1 e (pm.mem_iff.mp he), fun k => (m1 k).trans ⟨?_, ?_⟩, hb2, hf3, hsz, ap.perm pm.symm, hr3, hl.imp id fun z => by rw [hl3]; exact z⟩
    · rintro ⟨e, he, q⟩; exact ⟨e, pm.mem_iff.mpr he, q⟩
    · rintro ⟨e, he, q⟩; exact ⟨e, pm.mem_iff.mp he, q⟩
  · exact wpAny_pure (hR _ sb1 ⟨_, es1, _, t2, ho1, hex, rfl, g1, m1, hb1, hf2, rfl, ap, hr, hl⟩)
theorem setG_add {k : K} {v : Value} {Q : Bool → Shared → Prop} (hk : knd.is k v = true) (hsc : v.scannable = true) (R : SetG knd s.heap a S n) (room : n + 1 < scanBound)
    (hQ : ∀ h', Heap.SameBut a s.heap h' → SetG knd h' a (fun j => S j || decide (j = k)) (if S k = true then n else n + 1) → Q (!S k) { s with heap := h' }) :
    wpAny (model P w) A (setAddHashed a v (knd.hash k)) Q E s := by
  obtain ⟨o, es, ep, t, ho, hex, hd, hel, hm, hb, hf, hn, ap, hr, hl⟩ := R
  have kv : ∀ j, knd.is j v = true ↔ j = k := fun j => ⟨fun h => knd.inj _ _ _ h hk, fun h => h ▸ hk⟩
  unfold setAddHashed setAddHashedIn
  refine wpAny_holding (wpAny_bind (wpAny_setState_of ho hd hf ?_))
  dsimp only
  rw [byScan_of hsc hb hel]
  simp only [↓reduceIte]
  unfold setAddByScan
  refine wpAny_bind ?_
  refine wpAny_bind (wpAny_rule ?_)
  refine wpAny_bind (wpAny_setScan_of hk ho hd hf hel ?_)
  cases hfi : List.findIdx? (fun e => knd.is k e.2) es.toList with
  | some j =>
    dsimp only
    obtain ⟨hj, pj, _⟩ := List.findIdx?_eq_some_iff_getElem.mp hfi
    have hSk : S k = true := (hm k).2 ⟨es.toList[j], List.getElem_mem hj, pj⟩
    refine wpAny_pure (wpAny_pure ?_)
    have q := hQ s.heap (Heap.SameBut.refl a s.heap) ⟨o, es, ep, t, ho, hex, hd, hel, fun i => by
      rw [Bool.or_eq_true, decide_eq_true_eq, ← hm i]
      exact ⟨fun z => z.elim id (fun e => e ▸ hSk), .inl⟩, hb, hf, by rw [if_pos hSk]; exact hn, ap, hr, hl⟩
    rw [hSk] at q
    exact q
  | none =>
    dsimp only
    have hno : ∀ e ∈ es.toList, knd.is k e.2 = false := fun e he => by
      have c := List.findIdx?_eq_none_iff.mp hfi e he
      simpa using c
    have hSk : S k = false := by
      cases q : S k with
      | false => rfl
      | true =>
        obtain ⟨e, he, z⟩ := (hm k).1 q
        rw [hno e he] at z
        cases z
    have hgw : ∀ (b : Bool) {s₁ : Shared} {Q' : Unit → Shared → Prop}, Q' () s₁ → wpAny (model P w) A (match b with | true => rule "set.scan.the-table-gave-way" | false => pure ()) Q' E s₁ :=
      fun b s₁ Q' q => by cases b <;> first | exact wpAny_pure q | exact wpAny_rule q
    have pm := layNew_perm t es (knd.hash k) v
    have hf1 := layNew_fits t es (knd.hash k) v
    have hr1 := layNew_ris t es (knd.hash k) v hr
    have hl1 := layNew_led t es (knd.hash k) v
    generalize layNew t es (knd.hash k) v = Z at pm hf1 hr1 hl1 ⊢
    obtain ⟨es1, t1, wasDummy, gave⟩ := Z
    dsimp only at pm hf1 hr1 hl1 ⊢
    rw [Array.toList_push] at pm
    have pc : es1.toList.Perm ((knd.hash k, v) :: es.toList) := pm.trans (List.perm_append_singleton _ _)
    have g1 : ElemsOf knd es1.toList := fun e he => by
      rcases List.mem_cons.mp (pc.mem_iff.mp he) with z | z
      · rw [z]; exact ⟨⟨k, hk, rfl⟩, hsc⟩
      · exact hel e z
    have ap1 : Apart knd es1.toList := Apart.perm (List.Pairwise.cons (fun f hf j hj => by
      have := (kv j).1 hj
      rw [this]; exact hno f hf) ap) pc.symm
    have m1 : ∀ i, (S i || decide (i = k)) = true ↔ ∃ e ∈ es1.toList, knd.is i e.2 = true := fun i => by
      rw [Bool.or_eq_true, decide_eq_true_eq, hm i]
      constructor
      · rintro (⟨e, he, q⟩ | rfl)
        · exact ⟨e, pc.mem_iff.mpr (List.mem_cons_of_mem _ he), q⟩
        · exact ⟨_, pc.mem_iff.mpr List.mem_cons_self, hk⟩
      · rintro ⟨e, he, q⟩
        rcases List.mem_cons.mp (pc.mem_iff.mp he) with z | z
        · subst z; exact .inr ((kv i).1 q)
        · exact .inl ⟨e, z, q⟩
    have hsz : es1.size = n + 1 := by rw [← Array.length_toList, pc.length_eq, List.length_cons, Array.length_toList, hn]
    have hb1 : es1.size < scanBound := by rw [hsz]; exact room
    have hled : w.params.followText "set-order" = true ∨ t1.led = true := hl.imp id fun z => by rw [hl1]; exact z
    have fin : ∀ h', Heap.SameBut a s.heap h' → SetG knd h' a (fun j => S j || decide (j = k)) es1.size → Q true { s with heap := h' } := fun h' sb r => by
      have q := hQ h' sb
      rw [hSk] at q
      rw [hsz] at r
      exact q r
    refine wpAny_bind (hgw _ ?_)
    split
    · refine wpAny_bind ?_
      rw [hashByValue_scannable 8 hsc]
      refine wpAny_pure ?_
      refine setG_tail (knd := knd) ?_ ho hex hd g1 ap1 m1 hb1 ?_ ?_ ?_ ?_
      · intro b s₁ Q' q; cases b <;> first | exact wpAny_pure q | exact wpAny_rule q
      · first | (split <;> first | exact hf1 | exact SetTable.fits_plain_off hf1) | exact hf1
      · first | (split <;> exact hr1) | exact hr1
      · first | (split <;> exact hled) | exact hled
      · intro h' sb r; dsimp only; exact wpAny_pure (fin h' sb r)
    · refine wpAny_bind (wpAny_pure ?_)
      simp only [↓reduceIte]
      refine setG_tail (knd := knd) ?_ ho hex hd g1 ap1 m1 hb1 hf1 hr1 hled ?_
      · intro b s₁ Q' q; cases b <;> first | exact wpAny_pure q | exact wpAny_rule q
      · intro h' sb r; dsimp only; exact wpAny_pure (fin h' sb r)
end
section
variable {prog : Program} {w : World} {K : Type} [DecidableEq K] {knd : PySem.KeyKind prog w K}
def Some (ks : List K) (i : Nat) : K → Bool := fun k => (ks.take i).any fun x => decide (x = k)
theorem Some.succ {ks : List K} {i : Nat} {k : K} (h : ks[i]? = some k) (j : K) : Some ks (i + 1) j = (Some ks i j || decide (j = k)) := by
  unfold Some
  have hl : i < ks.length := by
    by_cases c : i < ks.length
    · exact c
    · rw [List.getElem?_eq_none (by omega)] at h; cases h
  rw [List.take_add_one, h]
  simp only [Option.toList_some, List.any_append, List.any_cons, List.any_nil, Bool.or_false]
  congr 1
  exact decide_eq_decide.mpr eq_comm
theorem setG_loop {A : Around} {R : Result → Shared → Prop} {I : Addr} {fp wr : List Addr} {G : Array GenState → Array GenState → Prop} {n : Nat} {P : Nat → Value → Prop} {St : Nat → Shared → Prop}
    (W : WalksS prog w A.in1 I fp wr G n P St) (S : Addr) (hSf : S ∉ fp) (ks : List K) (hb : n + 1 < scanBound)
    (hval : ∀ i v, P i v → ∃ k, ks[i]? = some k ∧ knd.is k v = true ∧ v.scannable = true) :
    ∀ (m i c : Nat) (s : Shared), n - i = m → i ≤ n → c ≤ i → St i s → SetG knd s.heap S (Some ks i) c →
      (∀ s' c, Moved (S :: wr) G s s' → c ≤ n → SetG knd s'.heap S (Some ks n) c → R (.ok (.ret .none)) s') →
      codeAny (model prog w) A (.builtin "set.update.loop" ⟨[.ref S, .ref I], []⟩) R s := by
  have hSw : S ∉ wr := fun h => hSf (W.sub _ h)
  have hsub : ∀ b ∈ wr, b ∈ S :: wr := fun b hb => List.mem_cons_of_mem _ hb
  intro m
  induction m with
  | zero =>
    intro i c s hk hi hc hst hS hR
    have hin : i = n := by omega
    subst hin
    refine codeAny_builtin PyProof.Rows.F.entry_set_update_loop ?_
    rw [Around.under_plainId PyProof.Rows.F.plain_set_update_loop _]
    show wpAny _ A.in1 (pyNext (.ref I) >>= _) _ _ s
    refine wpAny_bind (W.done s _ _ hst fun s' hm => ?_)
    show wpAny _ A.in1 (PySem.ret Value.none) _ _ s'
    exact wpAny_pure (hR s' c (hm.mono hsub) hc (hS.at fun o ho => hm.heap S _ hSw ho))
  | succ m ih =>
    intro i c s hk hi hc hst hS hR
    have hlt : i < n := by omega
    refine codeAny_builtin PyProof.Rows.F.entry_set_update_loop ?_
    rw [Around.under_plainId PyProof.Rows.F.plain_set_update_loop _]
    show wpAny _ A.in1 (pyNext (.ref I) >>= _) _ _ s
    refine wpAny_bind (W.item i s _ _ hlt hst fun v s' hP hst' hm => ?_)
    obtain ⟨k, hk1, hk2, hk3⟩ := hval i v hP
    have hS' : SetG knd s'.heap S (Some ks i) c := hS.at fun o ho => hm.heap S _ hSw ho
    show wpAny _ A.in1 (holding [v] (setAdd S v) >>= _) _ _ s'
    refine wpAny_bind (wpAny_holding ?_)
    unfold setAdd
    refine wpAny_holding ?_
    refine wpAny_bind (knd.pyHash hk2 ?_)
    refine setG_add (knd := knd) (s := { s' with toks := s'.toks + 1 }) hk2 hk3 hS' (by omega) fun h' hsb hS2 => ?_
    have hSi : SetG knd h' S (Some ks (i + 1)) (if Some ks i k = true then c else c + 1) := hS2.congr fun j => Some.succ hk1 j
    refine wpAny_pure ⟨plainId_quiet PyProof.Rows.F.plain_set_update_loop _, ih (i + 1) _ _ (by omega) hlt (by split <;> omega) (W.frame _ s' _ _ hst' (Nat.le_succ _) fun b hb o e => ?_) hSi fun s'' c'' hm'' hc'' hS'' => ?_⟩
    · rw [hsb.2 b (fun h : b = S => hSf (by rw [← h]; exact hb))]; exact e
    · refine hR s'' c'' (Moved.trans W.gtrans ((hm.mono hsub).then_heap (Nat.le_succ _) fun b o hb e => ?_) hm'') hc'' hS''
      rw [hsb.2 b (fun h : b = S => hb (by rw [h]; exact List.mem_cons_self))]; exact e
end
section
variable {prog : Program} {w : World} {A : Around} {E : Value → Shared → Prop} {s : Shared}
abbrev newSetO (w : World) : Obj := { cls := .type "set", dict := none, data := .set #[] 0 (.fresh 0 0 (!w.params.followText "set-order")) }
theorem code_set_led1 (a : Value) {Q₁ : Value → Shared → Prop} (h : Q₁ (.ref s.heap.objs.size) { s with heap := s.heap.push (newSetO w) }) :
    codeAny (model prog w) A (.call (.builtin "set.__new__") ⟨[.type "set", a], []⟩) (wants Q₁ E) s := by
  refine codeAny_of_tree ?_
  show wpAny _ A.in1 (do checkBuiltinCall "set.__new__" ⟨[.type "set", a], []⟩; again (.builtin "set.__new__" ⟨[.type "set", a], []⟩)) _ _ s
  refine wpAny_bind (wpAny_of_eq (PySem.F.newCall_set_1 a) (wpAny_pure ⟨plainId_quiet PySem.F.plain_set_new _, codeAny_builtin PySem.F.entry_set_new ?_⟩))
  rw [Around.under_plainId PySem.F.plain_set_new _]
  unfold Builtin.«set.__new__» Builtin.Frozenset.newClass
  have hsub := sub_set_self
  obtain ⟨hp, g, d, tk, os⟩ := s
  dsimp only
  wp_walk
  refine wpAny_askSetting (wpAny_pure ?_)
  dsimp only
  simp only [newObj]
  refine wpAny_bind (wpAny_alloc (wpAny_pure ?_))
  exact wpAny_pure h
theorem newSet_G {K : Type} [DecidableEq K] {knd : PySem.KeyKind prog w K} {h : Heap} : SetG knd (h.push (newSetO w)) h.objs.size (fun _ => false) 0 :=
  ⟨_, #[], 0, _, Heap.get?_push_size _ rfl, ⟨rfl, rfl, rfl⟩, rfl, (fun e he => by simp at he), (fun k => by simp), (by decide), (by rfl), rfl, List.Pairwise.nil, List.Pairwise.nil, by
    show _ ∨ (!w.params.followText "set-order") = true
    cases w.params.followText "set-order"
    · exact .inr rfl
    · exact .inl rfl⟩
set_option maxHeartbeats 3200000 in
theorem call_setG {K : Type} [DecidableEq K] {knd : PySem.KeyKind prog w K} {l : Addr} {items : Array Value} {ks : List K} {Q : Value → Shared → Prop}
    (hh : A.handled = none) (hl : s.heap.IsList l items) (hb : items.size + 1 < scanBound) (hval : ∀ (i : Nat) (v : Value), items[i]? = some v → ∃ k, ks[i]? = some k ∧ knd.is k v = true ∧ v.scannable = true)
    (h : ∀ (h' : Heap) (tk c : Nat), c ≤ items.size → SetG knd h' s.heap.objs.size (Some ks items.size) c →
      (∀ b o, b < s.heap.objs.size → s.heap.get? b = some o → h'.get? b = some o) → Q (.ref s.heap.objs.size) { s with heap := h', toks := tk }) :
    wpAny (model prog w) A (call (.type "set") [.ref l]) Q E s := by
  obtain ⟨c, tl, hmro⟩ := PySem.F.called_set.mro
  have hmade := PySem.F.called_set.made
  have hsub := PySem.F.called_set.sub
  refine wpAny_call (codeAny_of_tree ?_)
  show wpAny _ _ (callAny (.type "set") _) _ _ _
  refine wpAny_pure ⟨Code.quiet_builtin _ (by decide +kernel), codeAny_builtin PySem.F.entry_type_call ?_⟩
  rw [Around.under_plain (weight_type_call_type "set" [.ref l] []) rfl]
  have h1 := PySem.F.called_set.notType
  have h2 := PySem.F.called_set.canCreate
  have hct := PySem.F.typeCall_set_1 (.ref l)
  repeat (any_goals (first | assumption | wp_step))
  refine codeAny_mono (code_set_led1 (.ref l) (E := E) (Q₁ := fun obj s₁ => obj = .ref s.heap.objs.size ∧ s₁ = { s with heap := s.heap.push (newSetO w) }) ⟨rfl, rfl⟩) fun r s₁ hr => ?_
  cases r with
  | error e => exact hr
  | ok fl =>
    cases fl with
    | ret obj =>
      obtain ⟨rfl, rfl⟩ := hr
      have hS : (s.heap.push (newSetO w)).get? s.heap.objs.size = some (newSetO w) := Heap.get?_push_size _ rfl
      have hT : Shared.TypeIs { s with heap := s.heap.push (newSetO w) } (.ref s.heap.objs.size) "set" := ⟨_, hS, rfl⟩
      have hli := PySem.F.called_set.init.lookup
      have hbi := PySem.F.called_set.init.bind (.ref s.heap.objs.size)
      repeat (any_goals (first | assumption | wp_step))
      refine codeAny_mono (codeAny_call_builtin (R := wants (fun r s₂ => r = .none ∧ ∃ h' tk c, s₂ = { s with heap := h', toks := tk } ∧ c ≤ items.size ∧ SetG knd h' s.heap.objs.size (Some ks items.size) c ∧
          (∀ b o, b < s.heap.objs.size → s.heap.get? b = some o → h'.get? b = some o)) E) PySem.F.called_set.init.plain PySem.F.entry_set_init (check_set_init_1 hT ?_)) fun r₂ s₂ hr₂ => ?_
      · obtain ⟨ol, hol, hcl, nl, hdl⟩ := hl
        obtain ⟨ocls, odict, odata, oslots⟩ := ol
        simp only at hcl hdl
        subst hcl; subst hdl
        have hol' : (s.heap.push (newSetO w)).get? l = some { cls := .type "list", dict := odict, data := .seq items nl, slots := oslots } := Heap.get?_push_of_some _ hol
        have hsls := PySem.F.sub_list_set
        have hslf := PySem.F.sub_list_frozenset
        have hne : (Value.type "list" == Value.type "dict") = false := by decide
        have hl1 : (s.heap.push (newSetO w)).IsList l items := ⟨_, hol', rfl, nl, rfl⟩
        unfold Builtin.«set.__init__» noKeywords Builtin.Frozenset.updateFrom
        generalize hPI : pyIter = PI
        wp_walk
        subst hPI
        refine wpAny_pyIter_list hl1 ?_
        refine wpAny_bind (wpAny_runValue ?_)
        have hlS : l < s.heap.objs.size := Heap.lt_size hol
        have hh3 : A.in1.in1.in1.handled = none := by simp [hh]
        have hneI : l ≠ (s.heap.push (newSetO w)).objs.size := by
          rw [Heap.size_push]; exact Nat.ne_of_lt (Nat.lt_succ_of_lt hlS)
        have hSf : s.heap.objs.size ∉ [(s.heap.push (newSetO w)).objs.size, l] := by
          rw [Heap.size_push]; simp only [List.mem_cons, List.mem_singleton, List.not_mem_nil, or_false, not_or]
          exact ⟨Nat.ne_of_lt (Nat.lt_succ_self _), Nat.ne_of_gt hlS⟩
        refine setG_loop (knd := knd) ((Walks.list hh3 _ l hneI items).toS) s.heap.objs.size hSf ks hb hval (items.size - 0) 0 0 _ (by omega) (Nat.zero_le _) (Nat.le_refl _)
          ⟨⟨_, Heap.get?_push_size _ rfl, rfl, rfl⟩, (hl1.push _)⟩ ?hS0 ?hR
        case hS0 =>
          exact ((newSet_G (knd := knd) (h := s.heap)).at fun o e => Heap.get?_push_of_some _ e).congr fun _ => rfl
        case hR =>
          intro s' c' hm hc' hS'
          obtain ⟨h', g', d', tk', os'⟩ := s'
          have eg : g' = s.gens := hm.gens
          have ed : d' = s.drawn := hm.drawn
          have eo : os' = s.os := hm.os
          subst eg; subst ed; subst eo
          show wpAny _ _ _ _ _ _
          refine wpAny_pure ?_
          show wpAny _ _ (PySem.ret Value.none) _ _ _
          refine wpAny_pure ⟨rfl, h', tk', c', rfl, hc', hS', fun b o hb e => ?_⟩
          have hb1 : b ≠ s.heap.objs.size := Nat.ne_of_lt hb
          have hb2 : b ≠ (s.heap.push (newSetO w)).objs.size := by
            rw [Heap.size_push]; exact Nat.ne_of_lt (Nat.lt_succ_of_lt hb)
          exact hm.heap b o (by simp only [List.mem_cons, List.mem_singleton, List.not_mem_nil, or_false, not_or]; exact ⟨hb1, hb2⟩) (Heap.get?_push_of_some _ (Heap.get?_push_of_some _ e))
      · cases r₂ with
        | error e => exact hr₂
        | ok fl₂ =>
          cases fl₂ with
          | ret r =>
            obtain ⟨rfl, h', tk, c', rfl, hc', hS', hk'⟩ := hr₂
            repeat (any_goals (first | assumption | wp_step))
            exact h _ _ _ hc' hS' hk'
          | _ => exact hr₂.elim
    | _ => exact hr.elim
end
end Fz
set_option Elab.async false
set_option linter.all false
set_option maxRecDepth 100000
set_option maxHeartbeats 2000000
namespace Fz
open PySem PySem.Spec PyProof.Rows L2
section
variable {P : Program} {w : World} {A : Around} {E : Value → Shared → Prop} {s : Shared} {a : Addr}
theorem strs_ex : ∀ (l : List (Int × Value)), ElemsOf (PySem.strKind P w) l → ∃ ss : List Str, StrsAre (l.map (·.2)) ss ∧ (∀ k, k ∈ ss ↔ ∃ e ∈ l, (PySem.strKind P w).is k e.2 = true)
  | [], _ => ⟨[], .nil, fun k => by simp⟩
  | e :: l, h => by
    obtain ⟨ss, h1, h2⟩ := strs_ex l fun x hx => h x (List.mem_cons_of_mem _ hx)
    obtain ⟨⟨k, hk, _⟩, _⟩ := h e List.mem_cons_self
    obtain ⟨t, ht⟩ := Value.isStrOf_shape hk
    refine ⟨k :: ss, ?_, fun j => ?_⟩
    · show StrsAre (e.2 :: _) _
      rw [ht]
      exact .cons k t h1
    · rw [List.mem_cons, h2 j]
      constructor
      · rintro (rfl | ⟨x, hx, q⟩)
        · exact ⟨e, List.mem_cons_self, hk⟩
        · exact ⟨x, List.mem_cons_of_mem _ hx, q⟩
      · rintro ⟨x, hx, q⟩
        rcases List.mem_cons.mp hx with rfl | hx
        · exact .inl ((PySem.strKind P w).inj _ _ _ q hk)
        · exact .inr ⟨x, hx, q⟩
theorem strs_nodup : ∀ (l : List (Int × Value)), Apart (PySem.strKind P w) l → ∀ ss, StrsAre (l.map (·.2)) ss → ss.Nodup
  | [], _, _, .nil => .nil
  | e :: l, h, ss, hs => by
    obtain ⟨h1, h2⟩ := List.pairwise_cons.mp h
    generalize hv : (e :: l).map (·.2) = vs at hs
    cases hs with
    | nil => simp at hv
    | cons k t hr =>
      rename_i us ss
      simp only [List.map_cons, List.cons.injEq] at hv
      obtain ⟨hv1, hv2⟩ := hv
      subst hv2
      refine List.nodup_cons.mpr ⟨fun hm => ?_, strs_nodup l h2 _ hr⟩
      have : ∀ (l : List (Int × Value)) (ss : List Str), StrsAre (l.map (·.2)) ss → ∀ k ∈ ss, ∃ e ∈ l, (PySem.strKind P w).is k e.2 = true := by
        intro l
        induction l with
        | nil => intro ss hs k hk; cases hs; cases hk
        | cons x l ih =>
          intro ss hs k hk
          generalize hv : (x :: l).map (·.2) = vs at hs
          cases hs with
          | nil => simp at hv
          | cons k2 t2 hr2 =>
            simp only [List.map_cons, List.cons.injEq] at hv
            obtain ⟨hv1, hv2⟩ := hv
            subst hv2
            rcases List.mem_cons.mp hk with rfl | hk
            · exact ⟨x, List.mem_cons_self, by rw [hv1]; exact strKind_is _ _ _ _⟩
            · obtain ⟨y, hy, q⟩ := ih _ hr2 k hk
              exact ⟨y, List.mem_cons_of_mem _ hy, q⟩
      obtain ⟨f, hf, q⟩ := this l _ hr k hm
      have := h1 f hf k (by rw [hv1]; exact strKind_is _ _ _ _)
      rw [this] at q
      cases q
theorem strs_perm {us vs : List Value} (p : us.Perm vs) : ∀ {ss : List Str}, StrsAre vs ss → ∃ ss', StrsAre us ss' ∧ ss'.Perm ss := by
  induction p with
  | nil => intro ss h; exact ⟨ss, h, .refl _⟩
  | cons x p ih =>
    intro ss h
    cases h with
    | cons k t hr =>
      obtain ⟨ss', h1, h2⟩ := ih hr
      exact ⟨_, .cons k t h1, h2.cons _⟩
  | swap x y l =>
    intro ss h
    cases h with
    | cons k t hr =>
      cases hr with
      | cons k2 t2 hr2 => exact ⟨_, .cons k2 t2 (.cons k t hr2), .swap _ _ _⟩
  | trans p q ih1 ih2 =>
    intro ss h
    obtain ⟨s1, h1, h2⟩ := ih2 h
    obtain ⟨s2, h3, h4⟩ := ih1 h1
    exact ⟨s2, h3, h4.trans h2⟩
theorem sorted_setG {S : Str → Bool} {n : Nat} {Q : Value → Shared → Prop} (R : SetG (PySem.strKind P w) s.heap a S n) (hh : A.handled = none)
    (hQ : ∀ s' p (out : Array Value) (c : Nat) (ss : List Str), (∀ b o, s.heap.get? b = some o → s'.heap.get? b = some o) → s'.gens = s.gens → s'.os = s.os → s.heap.objs.size ≤ p →
      s'.heap.get? p = some (seqObj "list" out c) → StrsAre out.toList ss → sortedS ss = true → ss.Nodup → (∀ k, k ∈ ss ↔ S k = true) → ss.length = n → Q (.ref p) s') :
    wpAny (model P w) A (call (.builtin "sorted") [.ref a]) Q E s := by
  obtain ⟨o, es, ep, t, ho, hex, hd, hel, hm, hb, hf, hn, ap, hr, hl⟩ := R
  refine Calls.call_function_entry kind_sorted plain_sorted entry_sorted (args_sorted1 _) ?_
  unfold Builtin.«sorted»
  refine wpAny_bind (m := checkCount "sorted" 1 1 _) (wpAny_pure ?_)
  refine wpAny_bind (collect_set (A := A.in1) hh ⟨o, ho, hex.1, hd⟩ hf hb hr hl fun s1 vs k1 hz g1 o1 pm => ?_)
  have hvl : vs.length = n := by rw [pm.length_eq, List.length_map, Array.length_toList]; exact hn
  obtain ⟨ss0, q1, q2⟩ := strs_ex es.toList hel
  obtain ⟨ss1, q3, q4⟩ := strs_perm pm q1
  have nd0 := strs_nodup es.toList ap ss0 q1
  have hL : vs.length ≤ sizeLine := by rw [hvl, ← hn]; exact fits_of_scanBound hb
  refine wpAny_bind (wpAny_newList ?_ hL)
  have hoL : (s1.heap.push (seqObj "list" vs.toArray 0)).get? s1.heap.objs.size = some (seqObj "list" vs.toArray 0) := Heap.get?_push_size _ rfl
  refine wpAny_bind (wpAny_holding (wpAny_call_entry slot_list_sort ⟨_, hoL, rfl⟩ entry_list_sort (list_sort_treeKAny strKind_oneLt hoL q3.keysOf (fun v₁ v₂ rest e => keyKind_strs (by rw [← e]; exact q3)) hL fun st' hp hs => ⟨_, rfl, ?_⟩) (args_list_sort _)))
  obtain ⟨ss', a1, a2, a3⟩ := sorted_out_str q3 hp hs
  obtain ⟨c, hc⟩ := sortedHeap_at (vs := vs) (out := (arrOf st').map (·.2)) hoL
  have pn : ss'.Perm ss0 := a2.trans q4
  refine wpAny_pure ⟨_, rfl, hQ _ s1.heap.objs.size _ c ss' (fun b u e => ?_) g1 o1 hz hc a1 a3 (pn.nodup_iff.mpr nd0) (fun k => by rw [pn.mem_iff, q2 k, ← hm k]) ?_⟩
  · have q := k1 b u e
    have hlt := Heap.lt_size q
    show (sortedHeap (s1.heap.push (seqObj "list" vs.toArray 0)) s1.heap.objs.size vs _).get? b = some u
    rw [sortedHeap_old (Nat.ne_of_lt hlt) (by rw [size_push']; exact Nat.lt_succ_of_lt hlt)]
    exact Heap.get?_push_of_some _ q
  · rw [a2.length_eq, ← hvl]
    have := StrsAre.length q3
    omega
end
end Fz
set_option Elab.async false
set_option linter.all false
set_option maxRecDepth 100000
set_option maxHeartbeats 2000000
namespace Fz
open PySem PySem.Spec PyProof.Rows L2
def nub : List Str → List Str
  | [] => []
  | x :: r => if x ∈ r then nub r else x :: nub r
theorem mem_nub {x : Str} : ∀ {l : List Str}, x ∈ nub l ↔ x ∈ l
  | [] => Iff.rfl
  | y :: r => by
    unfold nub
    split
    · rename_i h
      rw [mem_nub, List.mem_cons]
      exact ⟨.inr, fun z => z.elim (fun e => e ▸ h) id⟩
    · rw [List.mem_cons, List.mem_cons, mem_nub]
theorem nodup_nub : ∀ l : List Str, (nub l).Nodup
  | [] => .nil
  | y :: r => by
    unfold nub
    split
    · exact nodup_nub r
    · rename_i h
      exact List.nodup_cons.mpr ⟨fun z => h (mem_nub.mp z), nodup_nub r⟩
theorem perm_of_mem : ∀ {a b : List Str}, a.Nodup → b.Nodup → (∀ x, x ∈ a ↔ x ∈ b) → a.Perm b
  | [], b, _, _, h => by
    cases b with
    | nil => exact .refl _
    | cons y r => exact absurd ((h y).mpr List.mem_cons_self) (List.not_mem_nil)
  | x :: r, b, ha, hb, h => by
    have hx : x ∈ b := (h x).mp List.mem_cons_self
    have p := List.perm_cons_erase hx
    obtain ⟨h1, h2⟩ := List.nodup_cons.mp ha
    have hb2 := p.nodup_iff.mp hb
    obtain ⟨h3, h4⟩ := List.nodup_cons.mp hb2
    refine ((perm_of_mem h2 h4 fun y => ?_).cons x).trans p.symm
    constructor
    · intro hy
      have : y ∈ b := (h y).mp (List.mem_cons_of_mem _ hy)
      rcases List.mem_cons.mp (p.mem_iff.mp this) with e | e
      · subst e; exact absurd hy h1
      · exact e
    · intro hy
      have : y ∈ x :: r := (h y).mpr (p.mem_iff.mpr (List.mem_cons_of_mem _ hy))
      rcases List.mem_cons.mp this with e | e
      · subst e; exact absurd hy h3
      · exact e
def rSortSet (K : PySem.W.Frag) : List V → Hp → VK → Prop := fun vs H Q => ∃ (a : Addr) (xs : List Str), vs = [V.ref a] ∧ SqL K H a (xs.map V.str) ∧ xs.length + 1 < scanBound ∧
  ∀ (ys : List Str) (p : Addr), ys.Nodup → (∀ x, x ∈ ys ↔ x ∈ xs) → sortedS ys = true → H p = none → Q (.ref p) (upd H p (.lst (ys.map V.str)))
def gSortSet : List D → Option (List D)
  | [.lst xs] => (dStrs xs).bind fun ss => if ss.length + 1 < scanBound then some ((ssort (nub ss)).map D.str) else none
  | _ => none
theorem p_sortSet {T : Tab} : PrimL T (rSortSet T.K) gSortSet := by
  intro xs zs vs B H Q e hx hz k
  unfold gSortSet at hz
  split at hz
  · rename_i ys
    cases hb : dStrs ys with
    | none => rw [hb] at hz; cases hz
    | some ss =>
      rw [hb] at hz
      have hz : (if ss.length + 1 < scanBound then some ((ssort (nub ss)).map D.str) else none) = some zs := hz
      split at hz
      · rename_i hl
        cases hz
        obtain ⟨v, rfl, r⟩ := reps1 hx
        unfold Rep at r
        obtain ⟨a, us, rfl, t1, r1⟩ := r
        obtain ⟨rfl, ok⟩ := dStrs_v hb r1
        refine ⟨a, ss, rfl, e.sqL t1, hl, fun out p hd hm hs hn => ?_⟩
        have hp : out.Perm (nub ss) := perm_of_mem hd (nodup_nub ss) fun x => (hm x).trans mem_nub.symm
        have ho := ssort_of hp (sortedS_pw hs)
        subst ho
        exact k p _ B H (.refl e) hn (reps_strs fun s hs => ok s (mem_nub.mp ((ssort_perm _).mem_iff.mp hs)))
      · cases hz
  · cases hz
theorem vals_strs_at {xs : List Str} {its : List Value} (r : Vals (xs.map V.str) its) (P : Program) (w : World) : ∀ (i : Nat) (v : Value), its.toArray[i]? = some v → ∃ k, xs[i]? = some k ∧ (PySem.strKind P w).is k v = true ∧ v.scannable = true := by
  intro i v h
  have hs := L2.strsAre_of r
  have h : its[i]? = some v := by simpa using h
  obtain ⟨y, t, rfl, hy⟩ := StrsAre.item hs i v h
  exact ⟨y, hy, strKind_is _ _ _ _, rfl⟩
section
variable {X : Cx} {e : Expr} {es : List Expr} {t : TA}
theorem sortG_fin {pins : List (Addr × Obj)} {σ : L2.St} {H : Hp} {s : Shared} {a : Addr} {S : Str → Bool} {n : Nat} {Q : VK} {xs : List Str} (hc : X.calm = true) (I : Inv X pins σ H s) (R : SetG (PySem.strKind X.prog X.w) s.heap a S n)
    (hS : ∀ x, S x = true ↔ x ∈ xs) (hn : n ≤ sizeLine) (q : ∀ (ys : List Str) (p : Addr), ys.Nodup → (∀ x, x ∈ ys ↔ x ∈ xs) → sortedS ys = true → H p = none → Q (.ref p) (upd H p (.lst (ys.map V.str)))) :
    wpAny (model X.prog X.w) X.A (call (.builtin "sorted") [.ref a]) (EP X pins σ Q) X.xe s := by
  refine sorted_setG R (I.ok.hd hc) fun s' p out c ss k g o hp hg' hi hs hd hm' hln => ?_
  have hlen : (ss.map V.str).length ≤ sizeLine := by rw [List.length_map, hln]; exact hn
  have hn : H p = none := I.hok.fresh hp
  have J : Inv X pins σ (upd H p (.lst (ss.map V.str))) { s with heap := s'.heap, gens := s'.gens, drawn := s'.drawn, toks := s'.toks } :=
    I.call (ch := []) (Un.laid k hp hn) (I.hok.laid k hp ⟨hlen, out.toList, c, vals_of_strs hi, hg'⟩) (by rw [g]; exact I.bare) (fun _ z => nomatch z)
  have e : s' = { s with heap := s'.heap, gens := s'.gens, drawn := s'.drawn, toks := s'.toks } := by
    cases s'
    cases s
    cases o
    rfl
  rw [e]
  exact ⟨.ref p, _, J, rfl, q ss p hd (fun x => (hm' x).trans (hS x)) hs hn⟩
theorem pe_sortSet {p p2 q pos : Pos} (hc : X.calm = true) (hg : Gl X "sorted") (hm : X.mg "sorted" = none) (hg2 : Gl X "set") (hm2 : X.mg "set" = none) (ha : PA X (e :: es) t)
    (he : starEach (e :: es) X.env = (false, eval e X.env) :: starEach es X.env := by rfl) (hpl : (backTo q (starEach es X.env)).any (·.1) = false := by rfl) :
    PE X (.Call (.Name "sorted" p) [.Call (.Name "set" p2) (e :: es) [] q] [] pos) (tCB (rSortSet X.K) t) := by
  refine ⟨fun pins s σ H Q I h => ?_⟩
  refine wpAny_Call_Name_kw (ld_blt I hg hm (by decide +kernel : bootBuiltins "sorted" = some (.builtin "sorted")) ?_ (by decide +kernel) (by decide +kernel))
  refine PyProof.Rows.callWith_builtin1 (PyProof.Rows.args_cons ?_ rfl) rfl rfl
  refine wpAny_Call_Name_kw (ld_blt I hg2 hm2 boot_set ?_)
  refine PyProof.Rows.callWith_type1 (thn (ha.run q pins s σ H _ I h) fun us s1 ⟨vs, H1, I1, r1, q1⟩ => ?_) he hpl
  obtain ⟨a, xs, rfl, hq, h1, q1⟩ := q1
  rw [Vals.ref1 r1]
  obtain ⟨its, r, pl, hz⟩ := I1.list hq
  have hl : its.length = xs.length := by rw [← r.length, List.length_map]
  refine call_setG (knd := PySem.strKind X.prog X.w) (ks := xs) (I1.ok.hd hc) pl.isList (by simpa [hl] using h1) (vals_strs_at r _ _) fun h' tk c hcl hS hk => ?_
  refine PyProof.Rows.args_nil ?_
  have I2 : Inv X pins σ H1 { s1 with heap := h', toks := tk } := I1.kept fun b o e => hk b o (Heap.lt_size e) e
  refine sortG_fin (xs := xs) hc I2 hS (fun x => ?_) ?_ q1
  · unfold Some
    have : xs.take its.toArray.size = xs := by rw [List.size_toArray, hl, List.take_length]
    rw [this, List.any_eq_true]
    constructor
    · rintro ⟨y, hy, z⟩; rw [← of_decide_eq_true z]; exact hy
    · intro hx; exact ⟨x, hx, by simp⟩
  · have := hcl
    rw [List.size_toArray, hl] at this
    have h3 : scanBound ≤ sizeLine := by decide
    omega
end
section
variable {ι : Type} {T : Tab} {E : L2.St → XK} {X : ι → Cx} {pos : Pos} {e : Expr} {fs : M (List D)}
theorem xr_sortSet {p p2 q : Pos} (hm : ∀ j, (X j).mg "sorted" = none) (hm2 : ∀ j, (X j).mg "set" = none) (ha : XA T E X [e] fs) (hc : ∀ j, (X j).calm = true := by intro j; rfl) (hK : ∀ j, (X j).K = T.K := by intro j; rfl) (hg : ∀ j, Gl (X j) "sorted" := by intro j; rfl) (hg2 : ∀ j, Gl (X j) "set" := by intro j; rfl) (he : ∀ j, starEach [e] (X j).env = (false, eval e (X j).env) :: starEach [] (X j).env := by intro j; rfl) (hpl : ∀ j, (backTo q (starEach [] (X j).env)).any (·.1) = false := by intro j; rfl) : XR T E X (.Call (.Name "sorted" p) [.Call (.Name "set" p2) [e] [] q] [] pos) (rOp gSortSet fs) :=
  let ⟨_, a1, a2⟩ := ha; ⟨_, fun j => by rw [← hK j]; exact pe_sortSet (hc j) (hg j) (hm j) (hg2 j) (hm2 j) (a1 j) (he j) (hpl j), semR_callL p_sortSet a2⟩
end
end Fz
set_option Elab.async false
set_option linter.all false
set_option maxRecDepth 100000
set_option maxHeartbeats 2000000
namespace Fz
open PySem L2 PySem.Spec PyProof.Rows
def rDct0 : M R := fun st => some (.v (.od [] []), st)
theorem n_rDct0 {st : Sl} {Q : Oc R → Sl → Prop} : wp rDct0 st Q = Q (.v (.od [] [])) st := rfl
end Fz
set_option Elab.async false
set_option linter.all false
set_option maxRecDepth 100000
set_option maxHeartbeats 2000000
namespace Fz
open PySem L2 PySem.Spec PyProof.Rows
def gRev : D → Option (List D)
  | .lst xs => some xs.reverse
  | _ => none
def rRev (fa : M D) : M R := bnd fa fun x => opt ((gRev x).map .ol)
def kRev (Q : Oc R → Sl → Prop) : Oc D → Sl → Prop := vx Q fun x s => wo (gRev x) (krl Q s)
theorem kRev_v (Q : Oc R → Sl → Prop) (x : D) (s : Sl) : kRev Q (.v x) s = wo (gRev x) (krl Q s) := rfl
theorem kRev_x (Q : Oc R → Sl → Prop) (c : Nat) (s : Sl) : kRev Q (.x c) s = Q (.x c) s := rfl
theorem n_rRev {fa : M D} {st : Sl} {QR : Oc R → Sl → Prop} : wp (rRev fa) st QR = wp fa st (kRev QR) := by
  unfold rRev; rw [wp_bnd]; simp only [wp_opt]; unfold kRev
  congr 1; congr 1; funext x s
  cases gRev x with
  | none => (simp only [Option.map_none]; rw [wo_none, wo_none])
  | some z => (simp only [Option.map_some]; rw [wo_some, wo_some, krl_a])
theorem gRev_l {xs : List D} : gRev (.lst xs) = some xs.reverse := rfl
end Fz
set_option Elab.async false
set_option linter.all false
set_option maxRecDepth 100000
set_option maxHeartbeats 2000000
namespace Fz
open PySem L2 PySem.Spec PyProof.Rows
def ExQ (cls : Value) (a : Addr) : HO := .ext fun h => ∃ (oe : Obj) (vs : Array Value), h.get? a = some oe ∧ Zc cls none oe ∧ oe.data = .fields vs
def xoT (K : PySem.W.Frag) (cls : Nat → Str) : Nat → Addr → List V → HO := fun k a xs => match xs with
  | [] => ExQ (.ref (He.ga K (cls k))) a
  | _ => .ext fun _ => False
section
variable {X : Cx} {x n : Str} {c : Value} {i : Nat} {body suite orelse : List Stmt} {b₀ : Stmt} {np pos pos' : Pos} {tb : WX → TS} {ts u : TS} {Wout : WX}
end
end Fz
set_option Elab.async false
set_option linter.all false
set_option maxRecDepth 100000
set_option maxHeartbeats 2000000
namespace Fz
open PySem L2 PySem.Spec PyProof.Rows
structure RoomQ (k : Nat) (A : Around) : Prop where
  dp : A.depth + 3 * k + 5 < recursionLimit
  un : A.units + 16 * k + 200 < cLine
theorem RoomQ.mono {j k : Nat} {A : Around} (r : RoomQ k A) (h : j ≤ k) : RoomQ j A := ⟨by have := r.dp; omega, by have := r.un; omega⟩
theorem RoomQ.deeper {k : Nat} {A : Around} (r : RoomQ (k + 1) A) (env : Env) : RoomQ k (A.deeper env) :=
  ⟨by have := r.dp; show A.depth + 1 + 3 * k + 5 < _; omega, by have := r.un; show A.units + 3 + 16 * k + 200 < _; omega⟩
theorem roomQ_of {k : Nat} {A : Around} (r : Room k A) : RoomQ k A := ⟨r.dp, r.un⟩
structure FnQ (P : Program) (w : World) (K : PySem.W.Frag) (mg : Str → Option Value) (base : Heap) (k : Nat) (f : Addr) (fd : FuncData) (ps : List Str) (sp : Sp) : Prop where
  len : ∀ vs H Q E, sp vs H Q E → vs.length = ps.length
  run : ∀ (A : Around) (outer : List Env) (s : Shared) (H : Hp) (args : Args) (us : List Value) (vs : List V) (Q : VK) (E : XK), RoomQ k A → Env0 P w K mg base A outer s H → BindsTo s fd args (ps.zip us) → Vals vs us → sp vs H Q E →
    codeAny (model P w) A (.call (.ref f) args) (CR (L2.CX P w) outer P w H s Q E) s
theorem FnQ.ok {P : Program} {w : World} {K : PySem.W.Frag} {mg : Str → Option Value} {base : Heap} {k : Nat} {f : Addr} {fd : FuncData} {ps : List Str} {sp : Sp} (F : FnQ P w K mg base k f fd ps sp) : FnOk P w K mg base (L2.CX P w) k f fd ps sp :=
  ⟨F.len, fun A outer s H args us vs Q E hr => F.run A outer s H args us vs Q E (roomQ_of hr)⟩
theorem FnQ.mono {P : Program} {w : World} {K : PySem.W.Frag} {mg : Str → Option Value} {base : Heap} {j k : Nat} {f : Addr} {fd : FuncData} {ps : List Str} {sp : Sp} (F : FnQ P w K mg base j f fd ps sp) (h : j ≤ k) : FnQ P w K mg base k f fd ps sp :=
  ⟨F.len, fun A outer s H args us vs Q E hr => F.run A outer s H args us vs Q E (hr.mono h)⟩
def TkX {ι : Type} (X : ι → Cx) (E : L2.St → XK) : Prop := ∀ j, Takes (X j) (fun cls d σ H => E σ cls d H)
abbrev TrI {ι : Type} (X : ι → Cx) (W : WX) : Type := { q : ι × List (Addr × Obj) × (Value → Shared → Prop) // Takes ((X q.1).tr q.2.1 q.2.2) W ∧ PassesOwn (model (X q.1).prog (X q.1).w) (X q.1).A (X q.1).env q.2.2 }
abbrev TrX {ι : Type} (X : ι → Cx) (W : WX) : TrI X W → Cx := fun q => (X q.1.1).tr q.1.2.1 q.1.2.2
theorem tk_tr {ι : Type} {X : ι → Cx} {W : WX} : TkX (TrX X W) (WE W) := fun q => q.2.1
section
variable {P : Program} {w : World} {T : Tab} {mg : Str → Option Value} {base : Heap} {x m : Str} {n c k j : Nat} {F : Fn} {ι : Type} {X : ι → Cx} {E : L2.St → XK}
structure Here (P : Program) (w : World) (T : Tab) (mg : Str → Option Value) (base : Heap) (Y : Cx) : Prop where
  p : Y.prog = P
  w : Y.w = w
  k : Y.K = T.K
  m : Y.mg = mg
  b : Y.base = base
theorem pass_tk (tk : TkX X E) (hc : ∀ i, Here P w T mg base (X i)) (i : ι) (σ : L2.St) : PassesAt (L2.CX P w) (X i) σ (E σ) := by
  have h := passAt (tk i) σ
  rw [(hc i).p, (hc i).w] at h
  exact h
theorem FnG.at (G : FnG P w T mg base x n F j) (hc : ∀ i, Here P w T mg base (X i)) (hr : ∀ i, Room k (X i).A) (tk : TkX X E) (h : j ≤ k) (i : ι) : FunAt (X i) T E x n F [] := by
  obtain ⟨f, fd, ps, a, b, c, d⟩ := G.ex
  refine ⟨f, fd, ps, _, j, ?_, ?_, ?_, ?_, (hr i).mono h, pass_tk tk hc i⟩
  · rw [(hc i).m]; exact a
  · rw [(hc i).k]; exact b
  · rw [(hc i).k]; exact c
  · rw [(hc i).p, (hc i).w, (hc i).k, (hc i).m, (hc i).b]; exact d
theorem MtG.at (G : MtG P w T mg base c m n F j) (hc : ∀ i, Here P w T mg base (X i)) (hr : ∀ i, Room k (X i).A) (tk : TkX X E) (h : j ≤ k) (i : ι) : MethAt (X i) T E c m n F := by
  obtain ⟨f, fd, ps, a, b, d⟩ := G.ex
  refine ⟨f, fd, ps, _, j, ?_, ?_, ?_, ?_, (hr i).mono h, pass_tk tk hc i, G.nf⟩
  · rw [(hc i).k]; exact G.cl.cls
  · rw [(hc i).k]; exact a
  · rw [(hc i).k]; exact b
  · rw [(hc i).p, (hc i).w, (hc i).k, (hc i).m, (hc i).b]; exact d
theorem MtT.at {tab : Nat → Option Fn} (G : MtT P w T mg base m n j tab) (hc : ∀ i, Here P w T mg base (X i)) (hr : ∀ i, Room k (X i).A) (tk : TkX X E) (h : j ≤ k) : ∀ (i : ι) c F, tab c = some F → MethAt (X i) T E c m n F := fun i c F hc' => (G c F hc').at hc hr tk h i
theorem MkG.at (G : MkG P w T mg base x c n F j) (hc : ∀ i, Here P w T mg base (X i)) (hr : ∀ i, Room k (X i).A) (tk : TkX X E) (h : j + 1 ≤ k) (i : ι) : MakeAt (X i) T E x c n F := by
  obtain ⟨f, fd, ps, a, b, b', d⟩ := G.ex
  refine ⟨f, fd, ps, _, j, ?_, ?_, ?_, ?_, (hr i).mono h, pass_tk tk hc i⟩
  · rw [(hc i).m]; exact a
  · rw [(hc i).k]; exact b
  · rw [(hc i).k]; exact b'
  · rw [(hc i).p, (hc i).w, (hc i).k, (hc i).m, (hc i).b]; exact d
theorem here_def {N : List Str} {qual : Str} {st : Stmt} {f : Addr} {cdv : Value} {A : Around} {outer : List Env} {s : Shared} {H : Hp} {E : XK} (i : Unit) : Here P w T mg base (CxD P w T mg base N qual st f cdv A outer s H E i) := ⟨rfl, rfl, rfl, rfl, rfl⟩
theorem here_tr {W : WX} (h : ∀ i, Here P w T mg base (X i)) (q : TrI X W) : Here P w T mg base (TrX X W q) := let ⟨a, b, c, d, e⟩ := h q.1.1; ⟨a, b, c, d, e⟩
theorem room_tr {W : WX} (h : ∀ i, Room k (X i).A) (q : TrI X W) : Room k (TrX X W q).A := h q.1.1
structure FnGQ (P : Program) (w : World) (T : Tab) (mg : Str → Option Value) (base : Heap) (x : Str) (n : Nat) (F : Fn) (k : Nat) : Prop where
  ex : ∃ f fd ps, mg x = some (.ref f) ∧ PySem.W.keepIn T.K (.ref f) = true ∧ Binds T.K fd ps [] ∧ FnQ P w T.K mg base k f fd ps (sp T n F)
theorem FnGQ.g (G : FnGQ P w T mg base x n F k) : FnG P w T mg base x n F k := let ⟨f, fd, ps, a, b, c, d⟩ := G.ex; ⟨f, fd, ps, a, b, c, d.ok⟩
theorem FnGQ.mono (G : FnGQ P w T mg base x n F j) (h : j ≤ k) : FnGQ P w T mg base x n F k := let ⟨f, fd, ps, a, b, c, d⟩ := G.ex; ⟨f, fd, ps, a, b, c, d.mono h⟩
end
structure FunAtQ (Y : Cx) (T : Tab) (E : L2.St → XK) (x : Str) (n : Nat) (F : Fn) : Prop where
  ex : ∃ f fd ps k, Y.mg x = some (.ref f) ∧ PySem.W.keepIn Y.K (.ref f) = true ∧ Binds Y.K fd ps [] ∧ FnQ Y.prog Y.w Y.K Y.mg Y.base k f fd ps (sp T n F) ∧ RoomQ k Y.A ∧ (∀ σ, PassesAt (L2.CX Y.prog Y.w) Y σ (E σ))
section
variable {X : Cx} {k : Nat} {f : Addr} {fd : FuncData} {ps : List Str} {sp : Sp} {E : L2.St → XK} {x : Str} {p pos : Pos} {e : Expr} {es : List Expr} {t : TA}
end
section
variable {ι : Type} {T : Tab} {E : L2.St → XK} {X : ι → Cx} {kp : Nat → Bool} {pos apos : Pos} {e a b c o : Expr} {es : List Expr} {fa fb fc : M D} {fs : M (List D)} {fl : M (List Arg)} {r : M R} {x m : Str} {st : Sl} {σ : L2.St} {B F H B' H' : Hp}
theorem FnGQ.q {P : Program} {w : World} {mg : Str → Option Value} {base : Heap} {n k j : Nat} {F : Fn} (G : FnGQ P w T mg base x n F j) (hc : ∀ i, Here P w T mg base (X i)) (hr : ∀ i, RoomQ k (X i).A) (ps : ∀ i σ, PassesAt (L2.CX P w) (X i) σ (E σ)) (h : j ≤ k) (i : ι) : FunAtQ (X i) T E x n F := by
  obtain ⟨f, fd, ps', a, b, c, d⟩ := G.ex
  refine ⟨f, fd, ps', j, ?_, ?_, ?_, ?_, (hr i).mono h, fun σ => ?_⟩
  · rw [(hc i).m]; exact a
  · rw [(hc i).k]; exact b
  · rw [(hc i).k]; exact c
  · rw [(hc i).p, (hc i).w, (hc i).k, (hc i).m, (hc i).b]; exact d
  · rw [(hc i).p, (hc i).w]; exact ps i σ
def sRaise (c : Nat) : MS := fun st => some (.x c, st)
structure GExc (T : Tab) (mg : Str → Option Value) (x : Str) (c : Nat) : Prop where
  g : mg x = some (.ref (T.cls c))
  kp : PySem.W.keepIn T.K (.ref (T.cls c)) = true
  ex : ∃ bmB newId initId, ExcBaseFacts "ValueError" newId initId bmB ∧ PySem.W.excIn T.K (T.cls c) bmB newId = true
  sb : PySem.W.subIn T.K (.ref (T.cls c)) (.type "BaseException") = some true
  ty : PySem.W.typeIn T.K (.ref (T.cls c)) = some (.type "type")
def sTry (i : Option Nat) (body : MS) (mt : Nat → Option Bool) (suite orelse : MS) : MS := fun st => match body st with
  | some (.x c, s) => (match mt c with
    | some true => (match i with
      | some i => (match suite (s.set i (some (.d (.ext c [])))) with
        | some (.x _, _) => none
        | some (.rt r, s2) => some (.rt r, s2)
        | some (f, s2) => some (f, s2.set i none)
        | none => none)
      | none => (match suite s with
        | some (.x _, _) => none
        | r => r))
    | some false => some (.x c, s)
    | none => none)
  | some (.nx, s) => orelse s
  | r => r
def dIsq (tab : Nat → Option Bool) : D → Option D
  | .ext c [] => (tab c).map .bl
  | _ => none
end
end Fz
set_option Elab.async false
set_option linter.all false
set_option maxRecDepth 100000
set_option maxHeartbeats 2000000
namespace Fz
open PySem L2 PySem.Spec PyProof.Rows
section
variable {P : Program} {w : World} {T : Tab} {mg : Str → Option Value} {base : Heap} {N : List Str} {qual : Str} {st : Stmt} {f : Addr} {cdv : Value} {A : Around} {outer : List Env} {s : Shared} {H : Hp} {E : XK} {x m : Str} {n c k j : Nat} {F : Fn} {W : WX}
theorem FnG.t (G : FnG P w T mg base x n F j) (hr : Room k (A.deeper (envOfC qual (defScope st) s.heap.objs.size f cdv))) (h : j ≤ k) (i : TrI (CxD P w T mg base N qual st f cdv A outer s H E) W) : FunAt (TrX (CxD P w T mg base N qual st f cdv A outer s H E) W i) T (WE W) x n F [] :=
  G.at (here_tr here_def) (room_tr fun _ => hr) tk_tr h i
theorem MtT.t {tab : Nat → Option Fn} (G : MtT P w T mg base m n j tab) (hr : Room k (A.deeper (envOfC qual (defScope st) s.heap.objs.size f cdv))) (h : j ≤ k) (i : TrI (CxD P w T mg base N qual st f cdv A outer s H E) W) : ∀ c F, tab c = some F → MethAt (TrX (CxD P w T mg base N qual st f cdv A outer s H E) W i) T (WE W) c m n F :=
  G.at (here_tr here_def) (room_tr fun _ => hr) tk_tr h i
theorem MkG.t (G : MkG P w T mg base x c n F j) (hr : Room k (A.deeper (envOfC qual (defScope st) s.heap.objs.size f cdv))) (h : j + 1 ≤ k) (i : TrI (CxD P w T mg base N qual st f cdv A outer s H E) W) : MakeAt (TrX (CxD P w T mg base N qual st f cdv A outer s H E) W i) T (WE W) x c n F :=
  G.at (here_tr here_def) (room_tr fun _ => hr) tk_tr h i
end
section
variable {w : World} {K : PySem.W.Frag} {h : Heap} {mg : Str → Option Value}
end
section
variable {X : Cx}
end
def sAug (i : Nat) (g : D → D → Option D) (m : M D) : MS := fun st => match st[i]? with
  | some (some (.d x)) => (match m st with
    | some (.v y, s) => (match g x y with
      | some z => some (.nx, s.set i (some (.d z)))
      | none => none)
    | some (.x c, s) => some (.x c, s)
    | none => none)
  | _ => none
section
variable {ι : Type} {T : Tab} {E : L2.St → XK} {X : ι → Cx} {kp : Nat → Bool} {pos : Pos} {e : Expr} {fa : M D} {te : TE} {x : Str}
def dAddIS : D → D → Option D
  | .int i, .int j => some (.int (i + j))
  | .str a, .str b => if a.length + b.length ≤ sizeLine then some (.str (a ++ b)) else none
  | _, _ => none
end
def kTrS (i : Option Nat) (Q : Fl → Sl → Prop) : Fl → Sl → Prop
  | .x _, _ => False
  | .rt r, s => Q (.rt r) s
  | f, s => Q f (match i with | some i => stt s i none | none => s)
theorem kTrS_rt {i : Option Nat} {Q : Fl → Sl → Prop} {r : R} {s : Sl} : kTrS i Q (.rt r) s = Q (.rt r) s := rfl
theorem kTrS_nx {i : Nat} {Q : Fl → Sl → Prop} {s : Sl} : kTrS (some i) Q .nx s = Q .nx (stt s i none) := rfl
theorem kTrS_ct {i : Nat} {Q : Fl → Sl → Prop} {s : Sl} : kTrS (some i) Q .ct s = Q .ct (stt s i none) := rfl
theorem kTrS_nx0 {Q : Fl → Sl → Prop} {s : Sl} : kTrS none Q .nx s = Q .nx s := rfl
def uTr (i : Option Nat) (suite : MS) (Q : Fl → Sl → Prop) (c : Nat) (s : Sl) : Bool → Prop
  | true => ws suite (match i with | some i => stt s i (some (.d (.ext c []))) | none => s) (kTrS i Q)
  | false => Q (.x c) s
theorem uTr_f {i : Option Nat} {suite : MS} {Q : Fl → Sl → Prop} {c : Nat} {s : Sl} : uTr i suite Q c s false = Q (.x c) s := rfl
theorem uTr_t {i : Nat} {suite : MS} {Q : Fl → Sl → Prop} {c : Nat} {s : Sl} : uTr (some i) suite Q c s true = ws suite (stt s i (some (.d (.ext c [])))) (kTrS (some i) Q) := rfl
theorem uTr_t0 {suite : MS} {Q : Fl → Sl → Prop} {c : Nat} {s : Sl} : uTr none suite Q c s true = ws suite s (kTrS none Q) := rfl
def kTr (i : Option Nat) (mt : Nat → Option Bool) (suite orelse : MS) (Q : Fl → Sl → Prop) : Fl → Sl → Prop
  | .x c, s => wo (mt c) (uTr i suite Q c s)
  | .nx, s => ws orelse s Q
  | f, s => Q f s
theorem kTr_x {i : Option Nat} {mt : Nat → Option Bool} {suite orelse : MS} {Q : Fl → Sl → Prop} {c : Nat} {s : Sl} : kTr i mt suite orelse Q (.x c) s = wo (mt c) (uTr i suite Q c s) := rfl
theorem kTr_nx {i : Option Nat} {mt : Nat → Option Bool} {suite orelse : MS} {Q : Fl → Sl → Prop} {s : Sl} : kTr i mt suite orelse Q .nx s = ws orelse s Q := rfl
theorem kTr_rt {i : Option Nat} {mt : Nat → Option Bool} {suite orelse : MS} {Q : Fl → Sl → Prop} {r : R} {s : Sl} : kTr i mt suite orelse Q (.rt r) s = Q (.rt r) s := rfl
theorem n_sTry {i : Option Nat} {mt : Nat → Option Bool} {body suite orelse : MS} {st : Sl} {QS : Fl → Sl → Prop} : ws (sTry i body mt suite orelse) st QS = ws body st (kTr i mt suite orelse QS) := by
  unfold ws sTry
  cases body st with
  | none => rfl
  | some p =>
    obtain ⟨f, s⟩ := p
    cases f with
    | nx => rfl
    | rt r => rfl
    | bk => rfl
    | ct => rfl
    | x c =>
      show _ = wo (mt c) (uTr i suite QS c s)
      dsimp only
      cases mt c with
      | none => rw [wo_none]
      | some b =>
        rw [wo_some]
        cases b with
        | false => rfl
        | true =>
          cases i with
          | none =>
            rw [uTr_t0]; unfold ws
            cases e : suite s with
            | none => simp only [e]
            | some p => obtain ⟨f, s2⟩ := p; cases f <;> simp only [e] <;> rfl
          | some i =>
            rw [uTr_t, ← stt_eq]; unfold ws
            dsimp only
            cases e : suite (s.set i (some (.d (.ext c [])))) with
            | none => simp only [e]
            | some p => obtain ⟨f, s2⟩ := p; cases f <;> simp only [e, stt_eq] <;> rfl
theorem n_sRaise {c : Nat} {st : Sl} {QS : Fl → Sl → Prop} : ws (sRaise c) st QS = QS (.x c) st := rfl
def kAug2 (i : Nat) (g : D → D → Option D) (x : D) (Q : Fl → Sl → Prop) (s : Sl) : D → Prop := fun z => Q .nx (stt s i (some (.d z)))
theorem kAug2_a {i : Nat} {g : D → D → Option D} {x : D} {Q : Fl → Sl → Prop} {s : Sl} {z : D} : kAug2 i g x Q s z = Q .nx (stt s i (some (.d z))) := rfl
def kAug (i : Nat) (g : D → D → Option D) (x : D) (Q : Fl → Sl → Prop) : Oc D → Sl → Prop := vs Q fun y s => wo (g x y) (kAug2 i g x Q s)
theorem kAug_v {i : Nat} {g : D → D → Option D} {x y : D} {Q : Fl → Sl → Prop} {s : Sl} : kAug i g x Q (.v y) s = wo (g x y) (kAug2 i g x Q s) := rfl
theorem kAug_x {i c : Nat} {g : D → D → Option D} {x : D} {Q : Fl → Sl → Prop} {s : Sl} : kAug i g x Q (.x c) s = Q (.x c) s := rfl
def gD (o : Option (Option R)) (k : D → Prop) : Prop := match o with
  | some (some (.d x)) => k x
  | _ => False
theorem gD_d {x : D} {k : D → Prop} : gD (some (some (.d x))) k = k x := rfl
def kAug1 (i : Nat) (g : D → D → Option D) (m : M D) (st : Sl) (Q : Fl → Sl → Prop) : D → Prop := fun x => wp m st (kAug i g x Q)
theorem kAug1_a {i : Nat} {g : D → D → Option D} {m : M D} {st : Sl} {Q : Fl → Sl → Prop} {x : D} : kAug1 i g m st Q x = wp m st (kAug i g x Q) := rfl
theorem n_sAug {i : Nat} {g : D → D → Option D} {m : M D} {st : Sl} {QS : Fl → Sl → Prop} : ws (sAug i g m) st QS = gD (gt st i) (kAug1 i g m st QS) := by
  unfold ws sAug
  rw [gt_eq]
  cases e : gt st i with
  | none => rfl
  | some o =>
    cases o with
    | none => rfl
    | some r =>
      cases r with
      | d x =>
        rw [gD_d, kAug1_a]; unfold wp
        dsimp only
        cases m st with
        | none => rfl
        | some p =>
          obtain ⟨o, s⟩ := p
          cases o with
          | x c => rfl
          | v y =>
            show _ = wo (g x y) (kAug2 i g x QS s)
            dsimp only
            cases g x y with
            | none => rw [wo_none]
            | some z => rw [wo_some, kAug2_a, ← stt_eq]
      | _ => rfl
theorem dAddIS_i {i j : Int} : dAddIS (.int i) (.int j) = some (.int (i + j)) := rfl
theorem dIsq_e {tab : Nat → Option Bool} {c : Nat} : dIsq tab (.ext c []) = (tab c).map .bl := rfl
end Fz
namespace Fz
open PySem L2 PySem.Spec PyProof.Rows
end Fz
namespace Fz
open PySem L2
theorem smallI_n {n : Nat} (h : n ≤ 1000000000) : smallI (n : Int) = true := by
  unfold smallI
  rw [decide_eq_true_eq]
  omega
theorem dR1_n {n : Nat} (h : n ≤ 1000000000) : dR1 [.int (n : Int)] = some (rngD 0 n) := by
  rw [dR1_i, smallI_n h, Int.toNat_natCast]; rfl
end Fz
namespace Fz
open PySem L2 PySem.Spec PyProof.Rows
def rNeLen (K : PySem.W.Frag) : R2 := fun x y H Q => ∃ l b xs zs, x = .ref l ∧ y = .ref b ∧ SqL K H l xs ∧ SqL K H b zs ∧ xs.length ≠ zs.length ∧ Q (.bl true) H
theorem op_neLen {Y : Cx} (hu : Y.A.units < cLine) : OpR Y (compareOp .NotEq) (rNeLen Y.K) := by
  intro pins s σ H x y v u Q I rx ry h
  obtain ⟨l, b, xs, zs, rfl, rfl, hH, hB, hz, q⟩ := h
  cases rx
  cases ry
  obtain ⟨its, r, ⟨o, n, e, hc, hk, hd⟩, hl⟩ := I.list hH
  obtain ⟨its2, r2, ⟨o2, n2, e2, hc2, hk2, hd2⟩, hl2⟩ := I.list hB
  have l1 := r.length
  have l2 := r2.length
  exact SeqAt.RcNeAt.lists_lengths (items := its.toArray) (items2 := its2.toArray) ⟨o, e, hc, n, hd⟩ ⟨o2, e2, hc2, n2, hd2⟩ (by simp only [List.size_toArray, bne_iff_ne, ne_eq]; omega) hu _ _ _ _ ⟨.bl true, H, I, rfl, q⟩
def dNeL (x y : D) : Option D := match dNe x y with
  | some z => some z
  | none => (match x, y with
    | .lst a, .lst b => if a.length = b.length then none else some (.bl true)
    | _, _ => none)
section
variable {ι : Type} {T : Tab} {E : L2.St → XK} {X : ι → Cx} {pos : Pos} {a b : Expr} {fa fb : M D}
theorem p_neL : Prim2 T (fun x y H Q => rNeD T.K x y H Q ∨ rNeLen T.K x y H Q) dNeL := by
  intro x y z vx vy B H Q e hx hy hz k
  unfold dNeL at hz
  split at hz
  · rename_i z' h1
    cases hz
    exact .inl (p_ne x y z vx vy B H Q e hx hy h1 k)
  · split at hz
    · split at hz
      · cases hz
      · rename_i hn
        cases hz
        unfold Rep at hx hy
        obtain ⟨a, us, rfl, t1, r1⟩ := hx
        obtain ⟨b, ws, rfl, t2, r2⟩ := hy
        exact .inr ⟨a, b, us, ws, rfl, rfl, e.sqL t1, e.sqL t2, by rw [← r1.length, ← r2.length]; exact hn, k _ B H (.refl e) rfl⟩
    · cases hz
theorem xt_neL (hu : Rm X) (hK : ∀ j, (X j).K = T.K := by intro j; rfl) (ha : XE T E X a fa) (hb : XE T E X b fb) : XT T E X (.Compare a [.NotEq] [b] pos) (eTst (eBin dNeL fa fb)) := xt_cmp (fun j => by rw [← hK j]; exact (op_neD (by have := hu j; omega)).or (op_neLen (by have := hu j; omega))) p_neL (nomark _) ha hb
end
end Fz
namespace Fz
open PySem L2
end Fz
namespace Fz
theorem mkE_x {c nf k : Nat} {Q : Oc R → Sl → Prop} {o : Option R} {s : Sl} : mkE c nf Q (.x k) (o :: s) = Q (.x k) s := rfl
end Fz
set_option Elab.async false
set_option linter.all false
set_option maxRecDepth 100000
set_option maxHeartbeats 2000000
namespace Fz
open PySem L2 PySem.Spec PyProof.Rows
section
variable {prog : Program} {w : World} {h : Heap} {T : Tab} {H : Hp}
end
structure Nicp (p : PyData) (n k : Nat) : Prop where
  sh : p.leavesShort 24 = true
  wt : p.weight ≤ n
  dp : p.depth ≤ k
  ok : PyData.strOk p.shown = true
structure Nicps (ps : List PyData) (n k : Nat) : Prop where
  sh : PyData.leavesShortAll 24 ps = true
  wt : PyData.weightAll ps ≤ n
  dp : PyData.depthAll ps ≤ k
  ok : ∀ t ∈ PyData.shownAll ps, PyData.strOk t = true
theorem Nicp.len {p : PyData} {n k : Nat} (h : Nicp p n k) (hn : n ≤ 600000) : p.shown.length ≤ sizeLine := by
  have a := PyData.shown_le 24 (by decide) p h.sh
  have := h.wt
  have e : sizeLine = 16777216 := by decide
  omega
end Fz
set_option Elab.async false
set_option linter.all false
set_option maxRecDepth 100000
set_option maxHeartbeats 4000000
namespace PySem.AutoSeq1
open PySem
end PySem.AutoSeq1
namespace Fz
open PySem L2 PySem.Spec PyProof.Rows
section
variable {ι : Type} {T : Tab} {E : L2.St → XK} {X : ι → Cx} {pos : Pos} {a b : Expr} {fa fb : M D}
end
end Fz
set_option Elab.async false
set_option linter.all false
set_option maxRecDepth 100000
set_option maxHeartbeats 4000000
namespace PySem.AutoSeq1
open PySem
end PySem.AutoSeq1
namespace Fz
open PySem L2 PySem.Spec PyProof.Rows
end Fz
set_option Elab.async false
set_option linter.all false
set_option maxRecDepth 100000
set_option maxHeartbeats 1000000
namespace Fz
open PySem L2 PySem.Spec PyProof.Rows
section
variable {prog : Program} {w : World} {A : Around} {E : Value → Shared → Prop} {s : Shared}
end
end Fz
set_option Elab.async false
set_option linter.all false
set_option maxRecDepth 100000
set_option maxHeartbeats 2000000
namespace Fz
open PySem L2
def ixR : Option (Option R) → D → Option D
  | some (some (.ol xs)), y => dIx (.lst xs) y
  | some (some (.d x)), y => dIx x y
  | _, _ => none
def eIxO (i : Nat) (fb : M D) : M D := fun st => match st[i]? with
  | some (some _) => bnd fb (fun y s => opt (ixR s[i]? y) s) st
  | _ => none
section
variable {T : Tab} {E : L2.St → XK} {fb : M D} {tb : TE}
theorem semE_ixO {i : Nat} (hb : SemE T E tb fb) : SemE T E (tOp (rIx T.K) (tVar i) tb) (eIxO i fb) := by
  intro st σ B F H S o s h Q hQ
  unfold eIxO at h
  split at h
  · rename_i r0 hi0
    obtain ⟨v, hv, _⟩ := S.rel i _ hi0
    refine ⟨v, hv, ?_⟩
    refine okx_bnd h hQ (fun o1 s1 e1 q => hb st σ B F H S o1 s1 e1 _ q) fun y s1 B1 H1 _ h2 e1 S1 hQ1 u hu => ?_
    obtain ⟨z, hz, rfl, rfl⟩ := opt_some h2
    cases hs : s[i]? with
    | none => rw [hs] at hz; cases hz
    | some q =>
      rw [hs] at hz
      cases q with
      | none => cases hz
      | some r =>
        obtain ⟨v', hv', rel⟩ := S1.rel i r hs
        rw [hv] at hv'; cases hv'
        cases r with
        | ol xs =>
          have hz : dIx (.lst xs) y = some z := hz
          obtain ⟨a, ys, rfl, h3, h4⟩ := rel
          cases y with
          | int i =>
            have hz : atI xs i = some z := hz
            cases rep_int hu
            obtain ⟨w, g1, g2⟩ := atI_reps h4 hz
            exact .inl ⟨a, ys, _, w, rfl, rfl, .inl (.inl h3), g1, hQ1 B1 H1 (Ex.refl _) S1 w g2⟩
          | _ => cases hz
        | d x => exact p_ix x y z v u B1 H1 Q S1.exB rel hu hz fun u B3 H3 e3 hu => hQ1 B3 H3 e3.b (S1.ext e3) u hu
        | _ => cases hz
  · cases h
end
section
variable {ι : Type} {T : Tab} {E : L2.St → XK} {X : ι → Cx} {pos p2 : Pos} {b : Expr} {fb : M D} {x : Str}
theorem xe_ixO (i : Nat) (hb : XE T E X b fb) (hs : PlainIx b := by exact fun _ _ => rfl) (hK : ∀ j, (X j).K = T.K := by intro j; rfl) (hN : ∀ j, (X j).N[i]? = some x := by intro j; rfl) (hv : ∀ j, Vis (X j).env.scope x := by intro j; first | exact Or.inl rfl | exact Or.inr (Or.inl rfl) | exact Or.inr (Or.inr rfl))
    (hd : (x == ("__debug__" : Str)) = false := by decide +kernel) (hcd : (x == ("__classdict__" : Str)) = false := by decide +kernel) : XE T E X (.Subscript (.Name x p2) b pos) (eIxO i fb) :=
  let ⟨_, b1, b2⟩ := hb; ⟨_, fun j => pe_ix (by rw [← hK j]; exact ix_seq) (pe_var (hN j) (hv j) hd hcd) (b1 j) hs, semE_ixO b2⟩
end
def kIxO (i : Nat) (Q : Oc D → Sl → Prop) : Oc D → Sl → Prop := vx Q fun y s => wo (ixR (gt s i) y) (kr Q s)
theorem kIxO_v {i : Nat} {Q : Oc D → Sl → Prop} {y : D} {s : Sl} : kIxO i Q (.v y) s = wo (ixR (gt s i) y) (kr Q s) := rfl
theorem kIxO_x {i : Nat} {Q : Oc D → Sl → Prop} {c : Nat} {s : Sl} : kIxO i Q (.x c) s = Q (.x c) s := rfl
theorem n_eIxO {i : Nat} {fb : M D} {st : Sl} {Q : Oc D → Sl → Prop} : wp (eIxO i fb) st Q = isR (gt st i) (wp fb st (kIxO i Q)) := by
  rw [← gt_eq]
  unfold eIxO isR
  cases h : st[i]? with
  | none => simp only [wp, h]
  | some o => cases o with
    | none => simp only [wp, h]
    | some r =>
      have e : wp (bnd fb fun y s => opt (ixR s[i]? y) s) st Q = wp fb st (kIxO i Q) := by
        rw [wp_bnd]
        refine congrArg _ ?_
        funext o s
        cases o with
        | x c => rfl
        | v y =>
          show wp (opt (ixR s[i]? y)) s Q = wo (ixR (gt s i) y) (kr Q s)
          rw [gt_eq]
          exact wp_opt
      rw [← e]
      simp only [wp, h]
theorem ixR_ol {xs : List D} {y : D} : ixR (some (some (.ol xs))) y = dIx (.lst xs) y := rfl
theorem ixR_d {x y : D} : ixR (some (some (.d x))) y = dIx x y := rfl
end Fz
set_option Elab.async false
set_option linter.all false
set_option maxRecDepth 100000
set_option maxHeartbeats 1000000
namespace Fz
open PySem L2 PySem.Spec PyProof.Rows
section
variable {prog : Program} {w : World} {A : Around} {E : Value → Shared → Prop} {s : Shared}
end
end Fz
set_option Elab.async false
set_option linter.all false
set_option maxRecDepth 100000
set_option maxHeartbeats 2000000
namespace Fz
open PySem L2 PySem.Spec PyProof.Rows
theorem globD_lst {K : PySem.W.Frag} {h : Heap} {mg : Str → Option Value} {T : Tab} (hK : T.K = K) (X : K.In h) (G : h.Ns mainGlobals mg) {x : Str} {zs : List Str} (g : (He.Fa.glo x).ok K = true) (c : He.lstB K x (zs.map He.Dv.str) = true) (ok : zs.all PyData.strOk = true) : GlobD T mg x (.lst (zs.map D.str)) := by
  subst hK
  refine ⟨.ref (He.ga T.K x), .ref (He.ga T.K x), He.glo_ok X G g, rfl, fun B => ?_⟩
  unfold Rep
  have q := He.lstB_ok c B
  have e : (zs.map He.Dv.str).map (He.Dv.v T.K) = zs.map V.str := by rw [List.map_map]; rfl
  rw [e] at q
  exact ⟨_, zs.map V.str, rfl, q, reps_strs fun s hs => List.all_eq_true.mp ok s hs⟩
section
variable {ι : Type} {T : Tab} {E : L2.St → XK} {X : ι → Cx} {pos : Pos} {a b : Expr} {fa fb : M D}
end
end Fz
set_option Elab.async false
set_option linter.all false
set_option maxRecDepth 100000
set_option maxHeartbeats 2000000
namespace Fz
open PySem L2
def rngC (lo c : Int) (n : Nat) : List D := (List.range n).map fun (i : Nat) => D.int (lo + (i : Nat) * c)
section
variable {T : Tab} {E : L2.St → XK} {ta : TA} {fs : M (List D)}
def dR3 : List D → Option (List D)
  | [.int i, .int j, .int c] => if c ≠ 0 ∧ c.natAbs < 1073741824 ∧ Builtin.Range.small i j c = true ∧ Builtin.Range.rangeSize i j c = ((Builtin.Range.rangeSize i j c).toNat : Int) then some (rngC i c (Builtin.Range.rangeSize i j c).toNat) else none
  | _ => none
def iR3 (fa : M (List D)) : M (List D) := bnd fa fun xs => opt (dR3 xs)
end
def kR3 (Q : Oc (List D) → Sl → Prop) : Oc (List D) → Sl → Prop := vx Q fun xs s => wo (dR3 xs) (kr Q s)
theorem kR3_v {Q : Oc (List D) → Sl → Prop} {xs : List D} {s : Sl} : kR3 Q (.v xs) s = wo (dR3 xs) (kr Q s) := rfl
theorem n_iR3 {fa : M (List D)} {st : Sl} {Q : Oc (List D) → Sl → Prop} : wp (iR3 fa) st Q = wp fa st (kR3 Q) := by
  unfold iR3
  rw [wp_bnd]
  refine congrArg _ ?_
  funext o s
  cases o with
  | x c => rfl
  | v xs => exact wp_opt
end Fz
set_option Elab.async false
set_option linter.all false
set_option maxRecDepth 100000
set_option maxHeartbeats 2000000
namespace Fz
open PySem L2
def rMethX (c0 n : Nat) (tab : Nat → Option Fn) (fa : M D) (fl : M (List Arg)) : M R := fun st => match fa st with
  | some (.x c, s) => if (tab c0).isSome = true then some (.x c, s) else none
  | _ => rMeth n tab fa fl st
section
variable {ι : Type} {T : Tab} {E : L2.St → XK} {X : ι → Cx} {pos apos : Pos} {o : Expr} {fa : M D} {fl : M (List Arg)} {m : Str} {ta : TE} {t : TA}
end
def kMeX (c0 n : Nat) (tab : Nat → Option Fn) (fl : M (List Arg)) (Q : Oc R → Sl → Prop) : Oc D → Sl → Prop := fun o s => match o with
  | .v x => kMeth n tab fl Q (.v x) s
  | .x c => wc ((tab c0).isSome = true) (fun _ => Q (.x c) s)
theorem kMeX_v {c0 n : Nat} {tab : Nat → Option Fn} {fl : M (List Arg)} {Q : Oc R → Sl → Prop} {x : D} {s : Sl} : kMeX c0 n tab fl Q (.v x) s = kMeth n tab fl Q (.v x) s := rfl
theorem kMeX_x {c0 n : Nat} {tab : Nat → Option Fn} {fl : M (List Arg)} {Q : Oc R → Sl → Prop} {c : Nat} {s : Sl} : kMeX c0 n tab fl Q (.x c) s = ((tab c0).isSome = true ∧ Q (.x c) s) := rfl
theorem n_rMethX {c0 n : Nat} {tab : Nat → Option Fn} {fa : M D} {fl : M (List Arg)} {st : Sl} {Q : Oc R → Sl → Prop} : wp (rMethX c0 n tab fa fl) st Q = wp fa st (kMeX c0 n tab fl Q) := by
  have base := n_rMeth (n := n) (tab := tab) (fl := fl) (fa := fa) (st := st) (QR := Q)
  unfold wp at base ⊢
  unfold rMethX
  cases h : fa st with
  | none =>
    rw [h] at base
    exact base
  | some p =>
    obtain ⟨o, s⟩ := p
    cases o with
    | x c =>
      by_cases hs : (tab c0).isSome = true
      · simp only [hs, if_true]
        show Q (.x c) s = ((tab c0).isSome = true ∧ Q (.x c) s)
        simp [hs]
      · simp only [hs, if_false]
        show False = ((tab c0).isSome = true ∧ Q (.x c) s)
        simp [hs]
    | v x =>
      rw [h] at base
      exact base
end Fz
set_option Elab.async false
set_option linter.all false
set_option maxRecDepth 100000
set_option maxHeartbeats 2000000
namespace Fz
open PySem L2 PySem.Spec PyProof.Rows
section
variable {ι : Type} (T : Tab) (E : L2.St → XK) (X : ι → Cx)
end
section
variable {X : Cx} {o e : Expr} {es : List Expr} {to : TE} {t : TA} {name : Str} {apos cpos : Pos} {Ty id : String} {r : V → List V → Hp → VK → Prop}
structure FnOkT (P : Program) (w : World) (K : PySem.W.Frag) (mg : Str → Option Value) (base : Heap) (CX : CXT) (k : Nat) (f : Addr) (fd : FuncData) (ps : List Str) (sp : Sp) : Prop where
  len : ∀ vs H Q E, sp vs H Q E → vs.length = ps.length
  run : ∀ (A : Around) (outer : List Env) (s : Shared) (H : Hp) (args : Args) (us : List Value) (vs : List V) (Q : VK) (E : XK), 1 ≤ s.toks → Room k A → Env0 P w K mg base A outer s H → BindsTo s fd args (ps.zip us) → Vals vs us → sp vs H Q E →
    codeAny (model P w) A (.call (.ref f) args) (CR CX outer P w H s Q E) s
section
variable {P : Program} {w : World} {K : PySem.W.Frag} {mg : Str → Option Value} {base : Heap} {CX : CXT} {k : Nat} {f : Addr} {fd : FuncData} {ps : List Str} {sp sp' : Sp}
end
section
variable {X : Cx} {CX : CXT} {k : Nat} {f : Addr} {fd : FuncData} {ps : List Str} {sp : Sp} {dvs : List V} {ds : List Value} {E : L2.St → XK} {x : Str} {p pos : Pos} {e : Expr} {es : List Expr} {t : TA}
end
section
variable {X : Cx} {pos : Pos}
end
end
section
variable {ι : Type} {T : Tab} {E : L2.St → XK} {X : ι → Cx} {kp : Nat → Bool} {pos apos : Pos} {e a b c o tg : Expr} {es : List Expr} {fa fb fc : M D} {fs : M (List D)} {fl : M (List Arg)} {r : M R} {x m : Str} {te ta to : TE} {t : TA}
variable {st : Stmt} {rest : List Stmt} {f g : MS}
structure FunAtT (Y : Cx) (T : Tab) (E : L2.St → XK) (x : Str) (n : Nat) (F : Fn) : Prop where
  ex : ∃ f fd ps CX k, Y.mg x = some (.ref f) ∧ PySem.W.keepIn Y.K (.ref f) = true ∧ Binds Y.K fd ps [] ∧ FnOkT Y.prog Y.w Y.K Y.mg Y.base CX k f fd ps (sp T n F) ∧ Room k Y.A ∧ (∀ σ, PassesAt CX Y σ (E σ))
end
section
variable {P : Program} {w : World} {T : Tab} {mg : Str → Option Value} {base : Heap} {x m qual : Str} {st : Stmt} {N ps : List Str} {k n : Nat} {kp : Nat → Bool} {body : MS} {F : Fn}
structure FnGT (P : Program) (w : World) (T : Tab) (mg : Str → Option Value) (base : Heap) (x : Str) (n : Nat) (F : Fn) (k : Nat) : Prop where
  ex : ∃ f fd ps, mg x = some (.ref f) ∧ PySem.W.keepIn T.K (.ref f) = true ∧ Binds T.K fd ps [] ∧ FnOkT P w T.K mg base (L2.CX P w) k f fd ps (sp T n F)
theorem FnOkT.mono {CX : CXT} {f : Addr} {fd : FuncData} {sp : Sp} {j : Nat} {K : PySem.W.Frag} (F : FnOkT P w K mg base CX j f fd ps sp) (h : j ≤ k) : FnOkT P w K mg base CX k f fd ps sp :=
  ⟨F.len, fun A outer s H args us vs Q E h0 hr => F.run A outer s H args us vs Q E h0 (hr.mono h)⟩
variable {f : Addr} {cdv : Value} {A : Around} {outer : List Env} {s : Shared} {H : Hp} {E : XK}
theorem FnGT.d {j : Nat} (G : FnGT P w T mg base x n F j) (hr : Room k (A.deeper (envOfC qual (defScope st) s.heap.objs.size f cdv))) (h : j ≤ k) (i : Unit) : FunAtT (CxD P w T mg base N qual st f cdv A outer s H E i) T (fun _ => E) x n F :=
  let ⟨f, fd, ps, a, b, c, d⟩ := G.ex; ⟨f, fd, ps, _, j, a, b, c, d, hr.mono h, fun σ => pass_def σ⟩
end
end Fz
set_option Elab.async false
set_option linter.all false
set_option maxRecDepth 100000
set_option maxHeartbeats 2000000
namespace Fz
open PySem L2
def kids : R → List R
  | .nl cs => cs
  | .nt cs => cs
  | .ni _ cs => cs
  | .nd _ cs => cs
  | _ => []
def setKids : R → List R → R
  | .nl _, cs => .nl cs
  | .nt _, cs => .nt cs
  | .ni c _, cs => .ni c cs
  | .nd ks _, cs => .nd ks cs
  | r, _ => r
def rAt : R → List Nat → Option R
  | r, [] => some r
  | r, k :: p => (kids r)[k]?.bind fun c => rAt c p
def rSet : R → List Nat → R → R
  | _, [], q => q
  | r, k :: p, q => match (kids r)[k]? with
    | some c => setKids r ((kids r).set k (rSet c p q))
    | none => r
def VAt (H : Hp) : V → List Nat → V → Prop
  | v, [], u => u = v
  | v, k :: p, u => ∃ a xs w, v = .ref a ∧ HeldAt H a xs ∧ xs[k]? = some w ∧ VAt H w p u
section
variable {T : Tab} {B B' H H' : Hp}
theorem RelRs.length : ∀ {cs : List R} {xs : List V}, RelRs T B H cs xs → cs.length = xs.length
  | [], xs, h => by unfold RelRs at h; subst h; rfl
  | c :: cs, xs, h => by unfold RelRs at h; obtain ⟨y, t, rfl, _, h3, _⟩ := h; simp [RelRs.length h3]
theorem RelRs.get : ∀ {cs : List R} {xs : List V} {k : Nat} {c : R}, RelRs T B H cs xs → cs[k]? = some c → ∃ w, xs[k]? = some w ∧ RelR T B H c w ∧ ∀ b, Ow H c w b → OwL H cs xs b
  | [], xs, k, c, h, e => by simp at e
  | c0 :: cs, xs, k, c, h, e => by
    unfold RelRs at h
    obtain ⟨y, t, rfl, h2, h3, _⟩ := h
    cases k with
    | zero => simp at e; subst e; exact ⟨y, rfl, h2, fun b z => by unfold OwL; exact ⟨y, t, rfl, .inl z⟩⟩
    | succ k =>
      obtain ⟨w, g1, g2, g3⟩ := RelRs.get (k := k) h3 (by simpa using e)
      exact ⟨w, by simpa using g1, g2, fun b z => by unfold OwL; exact ⟨y, t, rfl, .inr (g3 b z)⟩⟩
theorem RelRs.set (e : Ex B B') (tk : Tk H H') {X : Addr → Prop} {c' : R} {w : V} : ∀ {cs : List R} {xs : List V} {k : Nat} {c : R}, RelRs T B H cs xs → cs[k]? = some c → xs[k]? = some w → RelR T B' H' c' w → (∀ b, Ow H' c' w b → Ow H c w b ∨ X b) → (∀ b, X b → ¬ OwL H cs xs b) →
    (∀ b o, ¬ Ow H c w b → H b = some o → H' b = some o) → RelRs T B' H' (cs.set k c') xs ∧ ∀ b, OwL H' (cs.set k c') xs b → OwL H cs xs b ∨ X b
  | [], xs, k, c, h, e1, e2, h1, h2, h3, h4 => by simp at e1
  | c0 :: cs, xs, k, c, h, e1, e2, h1, h2, h3, h4 => by
    unfold RelRs at h
    obtain ⟨y, t, rfl, g2, g3, g4⟩ := h
    cases k with
    | zero =>
      simp at e1 e2; subst e1; subst e2
      have kt : ∀ p o, OwL H cs t p → H p = some o → H' p = some o := fun p o z q => h4 p o (fun z' => g4 p z' z) q
      have bt : ∀ b, OwL H' cs t b → OwL H cs t b := fun b => OwL.back tk g3 kt
      refine ⟨?_, fun b z => ?_⟩
      · show RelRs T B' H' (c' :: cs) (y :: t)
        unfold RelRs
        refine ⟨y, t, rfl, h1, g3.keep e tk kt, fun b z1 z2 => ?_⟩
        have z2 := OwL.back tk g3 kt z2
        rcases h2 b z1 with z | z
        · exact g4 b z z2
        · exact h3 b z (by unfold OwL; exact ⟨y, t, rfl, .inr z2⟩)
      · have z : OwL H' (c' :: cs) (y :: t) b := z
        unfold OwL at z
        obtain ⟨y', t', e', z⟩ := z
        cases e'
        rcases z with z | z
        · rcases h2 b z with q | q
          · exact .inl (by unfold OwL; exact ⟨y, t, rfl, .inl q⟩)
          · exact .inr q
        · exact .inl (by unfold OwL; exact ⟨y, t, rfl, .inr (OwL.back tk g3 kt z)⟩)
    | succ k =>
      have e1 : cs[k]? = some c := by simpa using e1
      have e2 : t[k]? = some w := by simpa using e2
      obtain ⟨w', q1, _, q3⟩ := RelRs.get g3 e1
      rw [e2] at q1; cases q1
      have ky : ∀ p o, Ow H c0 y p → H p = some o → H' p = some o := fun p o z q => h4 p o (fun z' => g4 p z (q3 p z')) q
      obtain ⟨r1, r2⟩ := RelRs.set e tk g3 e1 e2 h1 h2 (fun b z z' => h3 b z (by unfold OwL; exact ⟨y, t, rfl, .inr z'⟩)) h4
      refine ⟨?_, fun b z => ?_⟩
      · show RelRs T B' H' (c0 :: cs.set k c') (y :: t)
        unfold RelRs
        refine ⟨y, t, rfl, g2.keep e tk ky, r1, fun b z1 z2 => ?_⟩
        have z1 := Ow.back tk g2 ky z1
        rcases r2 b z2 with z | z
        · exact g4 b z1 z
        · exact h3 b z (by unfold OwL; exact ⟨y, t, rfl, .inl z1⟩)
      · have z : OwL H' (c0 :: cs.set k c') (y :: t) b := z
        unfold OwL at z
        obtain ⟨y', t', e', z⟩ := z
        cases e'
        rcases z with z | z
        · exact .inl (by unfold OwL; exact ⟨y, t, rfl, .inl (Ow.back tk g2 ky z)⟩)
        · rcases r2 b z with q | q
          · exact .inl (by unfold OwL; exact ⟨y, t, rfl, .inr q⟩)
          · exact .inr q
theorem node {r : R} {v : V} {k : Nat} {c : R} (h : RelR T B H r v) (hc : (kids r)[k]? = some c) : ∃ a xs, v = .ref a ∧ HeldAt H a xs ∧ RelRs T B H (kids r) xs ∧ (∀ b, OwL H (kids r) xs b → Ow H r v b) ∧
    (∀ {B' H' : Hp} {X : Addr → Prop} {cs' : List R}, Ex B B' → Tk H H' → (∀ o, ¬ OwL H (kids r) xs a → H a = some o → H' a = some o) → (∀ b, X b → ¬ Ow H r v b) → cs'.length = (kids r).length → RelRs T B' H' cs' xs → (∀ b, OwL H' cs' xs b → OwL H (kids r) xs b ∨ X b) →
      RelR T B' H' (setKids r cs') v ∧ ∀ b, Ow H' (setKids r cs') v b → Ow H r v b ∨ X b) := by
  have nx : ∀ {cs : List R} {xs : List V} {H' : Hp} {X : Addr → Prop} {cs' : List R} {a : Addr}, ¬ OwL H cs xs a → (∀ b, OwL H' cs' xs b → OwL H cs xs b ∨ X b) → ¬ X a → ¬ OwL H' cs' xs a := fun n s x z => (s _ z).elim n x
  cases r with
  | d _ => simp [kids] at hc
  | ol _ => simp [kids] at hc
  | oi _ _ => simp [kids] at hc
  | od _ _ => simp [kids] at hc
  | nl cs =>
    unfold RelR at h
    obtain ⟨a, ys, rfl, h2, h3, h4⟩ := h
    have ho : ∀ b, OwL H cs ys b → Ow H (.nl cs) (.ref a) b := fun b z => by unfold Ow; exact .inr ⟨a, ys, rfl, .inl h2, z⟩
    refine ⟨a, ys, rfl, .inl h2, h3, ho, fun e tk k x l r s => ?_⟩
    have k' := k _ h4 h2
    have na := nx h4 s fun z => x a z (by unfold Ow; exact .inl rfl)
    refine ⟨by show RelR _ _ _ (.nl _) _; unfold RelR; exact ⟨a, ys, rfl, k', r, na⟩, fun b z => ?_⟩
    have z : Ow _ (.nl _) (.ref a) b := z
    unfold Ow at z
    rcases z with z | ⟨a', xs', e1, e2, e3⟩
    · exact .inl (by unfold Ow; exact .inl z)
    · cases e1; cases HeldAt.inj (.inl k') e2
      exact (s b e3).imp (ho b) id
  | nt cs =>
    unfold RelR at h
    obtain ⟨a, ys, rfl, h2, h3⟩ := h
    have ho : ∀ b, OwL H cs ys b → Ow H (.nt cs) (.ref a) b := fun b z => by unfold Ow; exact ⟨a, ys, rfl, .inr (.inl h2.2), z⟩
    refine ⟨a, ys, rfl, .inr (.inl h2.2), h3, ho, fun e tk k x l r s => ?_⟩
    have k' := tk _ _ h2.2
    refine ⟨by show RelR _ _ _ (.nt _) _; unfold RelR; exact ⟨a, ys, rfl, ⟨e a _ h2.1, k'⟩, r⟩, fun b z => ?_⟩
    have z : Ow _ (.nt _) (.ref a) b := z
    unfold Ow at z
    obtain ⟨a', xs', e1, e2, e3⟩ := z
    cases e1; cases HeldAt.inj (.inr (.inl k')) e2
    exact (s b e3).imp (ho b) id
  | ni c0 cs =>
    unfold RelR at h
    obtain ⟨a, dx, fvs, rfl, h2, h5, h3, h4⟩ := h
    have ho : ∀ b, OwL H cs (fvs.map (·.2)) b → Ow H (.ni c0 cs) (.ref a) b := fun b z => by unfold Ow; exact .inr ⟨a, _, rfl, .inr (.inr (.inl ⟨_, _, _, h2, rfl⟩)), z⟩
    refine ⟨a, _, rfl, .inr (.inr (.inl ⟨_, _, _, h2, rfl⟩)), h3, ho, fun e tk k x l r s => ?_⟩
    have k' := k _ h4 h2
    have na := nx h4 s fun z => x a z (by unfold Ow; exact .inl rfl)
    refine ⟨by show RelR _ _ _ (.ni _ _) _; unfold RelR; exact ⟨a, dx, fvs, rfl, k', by rw [h5]; exact congrArg (List.take · _) l.symm, r, na⟩, fun b z => ?_⟩
    have z : Ow _ (.ni _ _) (.ref a) b := z
    unfold Ow at z
    rcases z with z | ⟨a', xs', e1, e2, e3⟩
    · exact .inl (by unfold Ow; exact .inl z)
    · cases e1; cases HeldAt.inj (.inr (.inr (.inl ⟨_, _, _, k', rfl⟩))) e2
      exact (s b e3).imp (ho b) id
  | nd ks cs =>
    unfold RelR at h
    obtain ⟨a, ys, rfl, h2, h3, h4⟩ := h
    have ho : ∀ b, OwL H cs ys b → Ow H (.nd ks cs) (.ref a) b := fun b z => by unfold Ow; exact .inr ⟨a, ys, rfl, h2.held, z⟩
    refine ⟨a, ys, rfl, h2.held, h3, ho, fun e tk k x l r s => ?_⟩
    have k' := h2.keep e fun o z => k o h4 z
    have na := nx h4 s fun z => x a z (by unfold Ow; exact .inl rfl)
    refine ⟨by show RelR _ _ _ (.nd _ _) _; unfold RelR; exact ⟨a, ys, rfl, k', r, na⟩, fun b z => ?_⟩
    have z : Ow _ (.nd _ _) (.ref a) b := z
    unfold Ow at z
    rcases z with z | ⟨a', xs', e1, e2, e3⟩
    · exact .inl (by unfold Ow; exact .inl z)
    · cases e1; cases HeldAt.inj k'.held e2
      exact (s b e3).imp (ho b) id
end
end Fz
set_option Elab.async false
set_option linter.all false
set_option maxRecDepth 100000
set_option maxHeartbeats 2000000
namespace Fz
open PySem L2
section
variable {T : Tab} {E : L2.St → XK} {kp : Nat → Bool} {st s' : Sl} {σ σ' : L2.St} {B B' F H H' : Hp} {i : Nat} {r : R} {v : V}
theorem Sim.hid (S : Sim T st σ B F H) (h : st[i]? = some (some r)) (hv : σ[i]? = some (some v)) : Sim T (st.set i none) σ B (addS F H (Ow H r v)) H := by
  have Sf := S.forget i
  have ne : ∀ {j : Nat} {q : R}, (st.set i none)[j]? = some (some q) → i ≠ j ∧ st[j]? = some (some q) := fun {j q} e => by
    rw [List.getElem?_set] at e
    split at e
    · split at e <;> cases e
    · rename_i z; exact ⟨z, e⟩
  refine ⟨Sf.exB, fun b o q => ?_, fun b o q => ?_, Sf.tup, Sf.len, Sf.rel, fun j q u a h1 h2 h3 => ?_, Sf.sep, ⟨fun b o q => ?_, S.tbs.tab⟩⟩
  · by_cases z : Ow H r v b
    · rw [addS_in z] at q; exact q
    · rw [addS_out z] at q; exact S.exF b o q
  · by_cases z : Ow H r v b
    · exact (S.own i r v b h hv z).1
    · rw [addS_out z] at q; exact S.dis b o q
  · obtain ⟨n, g1⟩ := ne h1
    obtain ⟨z1, z2⟩ := S.own j q u a g1 h2 h3
    refine ⟨z1, ?_⟩
    rw [addS_out fun z => S.sep i j r q v u a n h hv g1 h2 z h3]
    exact z2
  · by_cases z : Ow H r v b
    · rw [addS_in z] at q; exact S.ntb h hv z o q
    · rw [addS_out z] at q; exact S.tbs.noF b o q
theorem VAt.keep : ∀ {p : List Nat} {r q : R} {v u : V}, RelR T B H r v → rAt r p = some q → Tk H H' → (∀ b o, Ow H r v b → H b = some o → H' b = some o) → VAt H v p u → VAt H' v p u
  | [], r, q, v, u, h, e, tk, k, z => z
  | j :: p, r, q, v, u, h, e, tk, k, z => by
    unfold rAt at e
    obtain ⟨c, hc, e⟩ := Option.bind_eq_some_iff.mp e
    obtain ⟨a, xs, rfl, h1, h2, h3, _⟩ := node h hc
    obtain ⟨w, g1, g2, g3⟩ := h2.get hc
    obtain ⟨a', xs', w', z1, z2, z3, z4⟩ := z
    cases z1; cases HeldAt.inj h1 z2
    rw [g1] at z3; cases z3
    refine ⟨a, xs, w, rfl, ?_, g1, VAt.keep g2 e tk (fun b o z q => k b o (h3 b (g3 b z)) q) z4⟩
    rcases h1 with h1 | h1 | ⟨C, dx, fs, h1, e'⟩ | ⟨w, ep, es, h1, e'⟩
    · exact .inl (k a _ (own_self h (kids_some hc) (by intro ys z; rw [h1] at z; cases z)) h1)
    · exact .inr (.inl (tk a _ h1))
    · exact .inr (.inr (.inl ⟨C, dx, fs, k a _ (own_self h (kids_some hc) (by intro ys z; rw [h1] at z; cases z)) h1, e'⟩))
    · exact .inr (.inr (.inr ⟨w, ep, es, k a _ (own_self h (kids_some hc) (by intro ys z; rw [h1] at z; unfold dG at z; cases z)) h1, e'⟩))
where
  kids_some {r : R} {k : Nat} {c : R} (h : (kids r)[k]? = some c) : kids r ≠ [] := by intro z; rw [z] at h; simp at h
  own_self {r : R} {a : Addr} (h : RelR T B H r (.ref a)) (hk : kids r ≠ []) (nt : ∀ ys, H a ≠ some (.tup ys)) : Ow H r (.ref a) a := by
    cases r with
    | nl cs => unfold Ow; exact .inl rfl
    | ni c cs => unfold Ow; exact .inl rfl
    | nd ks cs => unfold Ow; exact .inl rfl
    | nt cs => unfold RelR at h; obtain ⟨b, ys, e, h2, _⟩ := h; cases e; exact (nt ys h2.2).elim
    | _ => exact (hk rfl).elim
def aHid (i : Nat) (f : M (List D)) : M (List D) := fun st => match st[i]? with
  | some (some r) => (match f (st.set i none) with
    | some (.v xs, s) => some (.v xs, s.set i (some r))
    | _ => none)
  | _ => none
def aFull (n : Nat → Nat) (f : M (List D)) : M (List D) := fun st => match f (vwN n st) with
  | some (.v xs, _) => if imms xs = true then some (.v xs, st) else none
  | _ => none
def Ek (H H' : Hp) : Prop := ∀ a o, H a = some o → ¬ isTb o → H' a = some o
theorem Ek.refl (H : Hp) : Ek H H := fun _ _ h _ => h
theorem Ek.trans {H H1 H2 : Hp} (a : Ek H H1) (b : Ek H1 H2) : Ek H H2 := fun x o h n => b x o (a x o h n) n
theorem Ex.ek {H H' : Hp} (e : Ex H H') : Ek H H' := fun a o h _ => e a o h
def SemP (T : Tab) (i : Nat) (te : TE) (m : Sl → Option (List Nat)) : Prop := ∀ st σ B F H, Sim T st σ B F H → ∀ p, m st = some p → ∀ Q : VK,
  (∀ B' H' u v, Ex B B' → Ek H H' → Sim T st σ B' F H' → σ[i]? = some (some v) → VAt H' v p u → Q u H') → te σ H Q
def pName (i : Nat) : Sl → Option (List Nat) := fun st => match st[i]? with
  | some (some _) => some []
  | _ => none
def kidAt : R → D → Option Nat
  | .nl cs, .int k => ixN cs.length k
  | .nt cs, .int k => ixN cs.length k
  | .nd ks _, d => if dkOk ks d = true then kpos ks d else none
  | _, _ => none
def pIx (n : Nat → Nat) (i : Nat) (mp : Sl → Option (List Nat)) (fb : M D) : Sl → Option (List Nat) := fun st => match mp st, st[i]? with
  | some p, some (some r) => (match rAt r p, fb (vwN n st) with
    | some q, some (.v d, _) => (kidAt q d).bind fun k => (kids q)[k]?.map fun _ => p ++ [k]
    | _, _ => none)
  | _, _ => none
def TyAt (T : Tab) (ty : String) (x : V) (H : Hp) : Prop := tyV T.K ty x H ∨ (ty = "dict" ∧ ∃ a w ep es, x = .ref a ∧ H a = some (dG w a ep es))
structure MutOp (T : Tab) (ty : String) (rr : V → List V → Hp → VK → Prop) (op : R → List D → Option (R × D)) : Prop where
  ty : ∀ {q : R} {xs : List D} {q' : R × D} {u : V} {B H : Hp}, op q xs = some q' → RelR T B H q u → TyAt T ty u H
  run : ∀ {q : R} {xs : List D} {q' : R × D} {u : V} {vs : List V} {B H : Hp}, op q xs = some q' → Ex B H → RelR T B H q u → Reps T B xs vs →
    ∃ a, Ow H q u a ∧ ∀ Q : VK, (∀ o w, (∀ zs, o ≠ .tup zs) → RelR T B (upd H a o) q'.1 u → (∀ b, Ow (upd H a o) q'.1 u b → Ow H q u b) → Rep T B q'.2 w → Q w (upd H a o)) → rr u vs H Q
def eMut (i : Nat) (mp : Sl → Option (List Nat)) (fa : M (List D)) (op : R → List D → Option (R × D)) : M D := fun st => match mp st, st[i]? with
  | some p, some (some r) => (match rAt r p, fa st with
    | some q, some (.v xs, s) => (op q xs).map fun q' => (.v q'.2, s.set i (some (rSet r p q'.1)))
    | _, _ => none)
  | _, _ => none
end
end Fz
set_option Elab.async false
set_option linter.all false
set_option maxRecDepth 100000
set_option maxHeartbeats 2000000
namespace Fz
open PySem L2 PySem.Spec PyProof.Rows
section
variable {X : Cx} {T : Tab} {pins : List (Addr × Obj)} {σ : L2.St} {H : Hp} {s : Shared}
variable {o e : Expr} {es : List Expr} {to : TE} {t : TA} {name : Str} {apos cpos : Pos} {ty id : String} {r : V → List V → Hp → VK → Prop}
end
section
variable {T : Tab} {B H : Hp} {u : V}
def opApp : R → List D → Option (R × D)
  | .ol xs, [x] => if xs.length < sizeLine then some (.ol (xs ++ [x]), .non) else none
  | .nl cs, [x] => if cs.length < sizeLine then some (.nl (cs ++ [.d x]), .non) else none
  | _, _ => none
def opRev : R → List D → Option (R × D)
  | .ol xs, [] => some (.ol xs.reverse, .non)
  | _, _ => none
theorem Reps.reverse {ds : List D} {xs : List V} (h : Reps T B ds xs) : Reps T B ds.reverse xs.reverse := by
  induction ds generalizing xs with
  | nil => unfold Reps at h; subst h; exact reps_nil
  | cons d ds ih =>
    unfold Reps at h
    obtain ⟨v, r, rfl, h1, h2⟩ := h
    rw [List.reverse_cons, List.reverse_cons]
    exact (ih h2).append (reps_cons h1 reps_nil)
def opClr : R → List D → Option (R × D)
  | .ol _, [] => some (.ol [], .non)
  | .nl _, [] => some (.ol [], .non)
  | _, _ => none
theorem Reps.dropLast {ds : List D} {xs : List V} (h : Reps T B ds xs) : Reps T B ds.dropLast xs.dropLast := by
  induction ds generalizing xs with
  | nil => unfold Reps at h; subst h; exact reps_nil
  | cons d ds ih =>
    unfold Reps at h
    obtain ⟨v, r, rfl, h1, h2⟩ := h
    cases ds with
    | nil => unfold Reps at h2; subst h2; exact reps_nil
    | cons e ds =>
      have h2' := h2
      unfold Reps at h2
      obtain ⟨w, q, rfl, _, _⟩ := h2
      exact reps_cons h1 (ih h2')
end
end Fz
set_option Elab.async false
set_option linter.all false
set_option maxRecDepth 100000
set_option maxHeartbeats 2000000
namespace Fz
open PySem L2 PySem.Spec PyProof.Rows
section
variable {ι : Type} {T : Tab} {E : L2.St → XK} {X : ι → Cx} {kp : Nat → Bool} {pos apos cpos p p2 : Pos} {e o a : Expr} {es : List Expr} {fa fb : M D} {fs : M (List D)} {x name : Str} {i : Nat} {mp : Sl → Option (List Nat)}
def XP (T : Tab) (E : L2.St → XK) (X : ι → Cx) (i : Nat) (e : Expr) (m : Sl → Option (List Nat)) : Prop := ∃ te, (∀ j, PE (X j) e te) ∧ SemP T i te m
def aNo : M (List D) := ret []
def pFld (i : Nat) (ix : Nat → Option Nat) (mp : Sl → Option (List Nat)) : Sl → Option (List Nat) := fun st => match mp st, st[i]? with
  | some p, some (some r) => (match rAt r p with
    | some (.ni c cs) => (ix c).bind fun k => (cs[k]?).map fun _ => p ++ [k]
    | _ => none)
  | _, _ => none
end
end Fz
set_option Elab.async false
set_option linter.all false
set_option maxRecDepth 100000
set_option maxHeartbeats 2000000
namespace Fz
open PySem L2 PySem.Spec PyProof.Rows
def okKs (ks : List D) : Bool := ks.all fun d => match d with
  | .str s => PyData.strOk s
  | _ => true
def iDk (fa : M D) : M (List D) := bnd fa fun x => opt (match x with
  | .dct ks _ => if okKs ks = true then some ks else none
  | _ => none)
def iDv (fa : M D) : M (List D) := bnd fa fun x => opt (match x with
  | .dct _ vs => some vs
  | _ => none)
def iDi (fa : M D) : M (List D) := bnd fa fun x => opt (match x with
  | .dct ks vs => if okKs ks = true ∧ ks.length = vs.length then some (zipD ks vs) else none
  | _ => none)
section
variable {T : Tab} {E : L2.St → XK} {fa : M D} {te : TE}
end
section
variable {ι : Type} {T : Tab} {E : L2.St → XK} {X : ι → Cx} {pos apos cpos : Pos} {a b e tg : Expr} {fa fb : M D} {fs : M (List D)}
end
end Fz
set_option Elab.async false
set_option linter.all false
set_option maxRecDepth 100000
set_option maxHeartbeats 2000000
namespace Fz
open PySem L2 PySem.Spec PyProof.Rows
section
variable {T : Tab} {E : L2.St → XK} {kp : Nat → Bool} {B B' H H' : Hp} {u v : V} {q : R}
def opSet : R → D → R → Option R
  | .ol xs, .int k, .d x => (ixN xs.length k).map fun j => .ol (xs.set j x)
  | .nl cs, .int k, q => (ixN cs.length k).map fun j => .nl (cs.set j q)
  | .od ks vs, d, .d x => if dkOk ks d = true ∧ vs.length < sizeLine then some (.od (dputK ks d) (dputV ks vs d x)) else none
  | .od ks vs, d, q => if dkOk ks d = true ∧ vs.length < sizeLine then some (.nd (dputK ks d) (dputV ks (vs.map .d) d q)) else none
  | .nd ks cs, d, q => if dkOk ks d = true ∧ cs.length < sizeLine then some (.nd (dputK ks d) (dputV ks cs d q)) else none
  | _, _, _ => none
end
end Fz
set_option Elab.async false
set_option linter.all false
set_option maxRecDepth 100000
set_option maxHeartbeats 2000000
namespace Fz
open PySem L2 PySem.Spec PyProof.Rows
def sSetA (n : Nat → Nat) (i : Nat) (mp : Sl → Option (List Nat)) (mi : M D) (m : M R) : MS := fun st => match m st with
  | some (.v q, s1) => (match mp s1, s1[i]?, mi (vwN n s1) with
    | some p, some (some r), some (.v d, _) => ((rAt r p).bind fun nd => opSet nd d q).map fun n' => (.nx, s1.set i (some (rSet r p n')))
    | _, _, _ => none)
  | some (.x c, s) => some (.x c, s)
  | none => none
section
variable {T : Tab} {E : L2.St → XK} {kp : Nat → Bool} {i : Nat}
end
section
variable {ι : Type} {T : Tab} {E : L2.St → XK} {X : ι → Cx} {kp : Nat → Bool} {pos sp' : Pos} {e o k : Expr} {fi : M D} {fr : M R} {i : Nat} {mp : Sl → Option (List Nat)}
end
theorem Sim.shown {T : Tab} {st s' : Sl} {σ σ' : L2.St} {B B' F H H' : Hp} {r : R} {v : V} (S : Sim T (some r :: st) (some v :: σ) B F H) (e : Ex B B') (S' : Sim T s' σ' B' (addS F H (Ow H r v)) H') : Sim T (some r :: s') (some v :: σ') B' F H' := by
  have tk : Tk H H' := fun b xs z => S'.exB b _ (e b _ (S.tup b xs z))
  have k : ∀ b o, Ow H r v b → H b = some o → H' b = some o := fun b o z q => S'.exF b o (by rw [addS_in z]; exact q)
  have rel := S.top
  have bk : ∀ b, Ow H' r v b → Ow H r v b := fun b => Ow.back tk rel k
  have inF : ∀ b, Ow H r v b → ∃ o, addS F H (Ow H r v) b = some o := fun b z => by
    rw [addS_in z]; exact (rel.ow z).1
  have frF : ∀ b, addS F H (Ow H r v) b = none → F b = none := fun b z => by
    by_cases y : Ow H r v b
    · obtain ⟨o, w⟩ := inF b y; rw [w] at z; cases z
    · rwa [addS_out y] at z
  have outF : ∀ b o, F b = some o → addS F H (Ow H r v) b = some o := fun b o z => by
    rw [addS_out fun y => by rw [(S.own 0 r v b rfl rfl y).2] at z; cases z]; exact z
  have cross : ∀ {j : Nat} {q : R} {u : V} {b : Addr}, s'[j]? = some (some q) → σ'[j]? = some (some u) → Ow H' r v b → Ow H' q u b → False := fun {j q u b} g1 g2 g3 g4 => by
    obtain ⟨o, w⟩ := inF b (bk b g3)
    rw [(S'.own j q u b g1 g2 g4).2] at w; cases w
  refine ⟨S'.exB, fun b o z => S'.exF b o (outF b o z), fun b o z => S'.dis b o (outF b o z), S'.tup, by simp [S'.len], fun j q g => ?_, fun j q u b g1 g2 g3 => ?_, fun i j q p u w b n g1 g2 g3 g4 g5 g6 => ?_, ⟨S.tbs.noF, S'.tbs.tab⟩⟩
  · cases j with
    | zero => cases g; exact ⟨v, rfl, rel.keep e tk k⟩
    | succ j => exact S'.rel j q (by simpa using g)
  · cases j with
    | zero =>
      cases g1; cases g2
      have z := bk b g3
      obtain ⟨o, w⟩ := inF b z
      exact ⟨S'.dis b o w, (S.own 0 r v b rfl rfl z).2⟩
    | succ j =>
      obtain ⟨z1, z2⟩ := S'.own j q u b (by simpa using g1) (by simpa using g2) g3
      exact ⟨z1, frF b z2⟩
  · cases i with
    | zero =>
      cases g1; cases g2
      cases j with
      | zero => exact n rfl
      | succ j => exact cross (by simpa using g3) (by simpa using g4) g5 g6
    | succ i =>
      cases j with
      | zero => cases g3; cases g4; exact cross (by simpa using g1) (by simpa using g2) g6 g5
      | succ j => exact S'.sep i j q p u w b (by omega) (by simpa using g1) (by simpa using g2) (by simpa using g3) (by simpa using g4) g5 g6
def aRNil : M (List R) := ret []
def aRCons (fr : M R) (fs : M (List R)) : M (List R) := fun st => match fr st with
  | some (.v r, s) => (match fs s with
    | some (.v rs, s') => some (.v (r :: rs), s')
    | _ => none)
  | _ => none
def rLstR (f : M (List R)) : M R := fun st => match f st with
  | some (.v rs, s) => if rs.length ≤ sizeLine then some (.v (.nl rs), s) else none
  | _ => none
def rTupR (f : M (List R)) : M R := fun st => match f st with
  | some (.v rs, s) => if rs.length ≤ sizeLine then some (.v (.nt rs), s) else none
  | _ => none
section
variable {T : Tab} {E : L2.St → XK}
theorem Sim.row {st : Sl} {σ : L2.St} {B F H : Hp} : ∀ {rs : List R} {vs : List V}, Sim T (rs.map some ++ st) (vs.map some ++ σ) B F H → rs.length = vs.length → RelRs T B H rs vs ∧ (∀ b, OwL H rs vs b → ∃ (i : Nat) (r : R) (v : V), rs[i]? = some r ∧ vs[i]? = some v ∧ Ow H r v b) ∧ Sim T st σ B F H
  | [], vs, S, l => by
    cases vs with
    | nil => exact ⟨by unfold RelRs; rfl, fun b z => by unfold OwL at z; exact z.elim, S⟩
    | cons _ _ => cases l
  | r :: rs, vs, S, l => by
    cases vs with
    | nil => cases l
    | cons v vs =>
      have S : Sim T (some r :: (rs.map some ++ st)) (some v :: (vs.map some ++ σ)) B F H := S
      obtain ⟨g1, g2, g3⟩ := Sim.row S.pop (by simpa using l)
      refine ⟨?_, fun b z => ?_, g3⟩
      · unfold RelRs
        refine ⟨v, vs, rfl, S.top, g1, fun b z1 z2 => ?_⟩
        obtain ⟨i, q, u, h1, h2, h3⟩ := g2 b z2
        have i1 : i < rs.length := (List.getElem?_eq_some_iff.mp h1).1
        have i2 : i < vs.length := (List.getElem?_eq_some_iff.mp h2).1
        exact S.sep 0 (i + 1) r q v u b (by omega) rfl rfl (by rw [List.getElem?_cons_succ, List.getElem?_append_left (by simpa using i1), List.getElem?_map, h1]; rfl) (by rw [List.getElem?_cons_succ, List.getElem?_append_left (by simpa using i2), List.getElem?_map, h2]; rfl) z1 h3
      · unfold OwL at z
        obtain ⟨y, t, e, z⟩ := z
        cases e
        rcases z with z | z
        · exact ⟨0, r, v, rfl, rfl, z⟩
        · obtain ⟨i, q, u, h1, h2, h3⟩ := g2 b z
          exact ⟨i + 1, q, u, by simpa using h1, by simpa using h2, h3⟩
end
section
variable {ι : Type} {T : Tab} {E : L2.St → XK} {X : ι → Cx} {pos : Pos} {e : Expr} {es : List Expr} {fr : M R} {fs : M (List R)}
end
end Fz
set_option Elab.async false
set_option linter.all false
set_option maxRecDepth 100000
set_option maxHeartbeats 2000000
namespace Fz
open PySem L2 PySem.Spec PyProof.Rows
def catS (ss : List Str) : Str := ss.foldl (· ++ ·) Str.empty
def dCat (xs : List D) : Option D := (dStrs xs).bind fun ss => if (ss.map (·.length)).sum ≤ sizeLine then some (.str (catS ss)) else none
section
variable {T : Tab} {E : L2.St → XK}
def eFStr (fs : M (List D)) : M D := fun st => match fs st with
  | some (.v xs, s) => (dCat xs).map fun x => (.v x, s)
  | _ => none
end
section
variable {ι : Type} {T : Tab} {E : L2.St → XK} {X : ι → Cx} {pos apos : Pos} {e o : Expr} {es : List Expr} {fa : M D} {fs : M (List D)}
end
end Fz
set_option Elab.async false
set_option linter.all false
set_option maxRecDepth 100000
set_option maxHeartbeats 2000000
namespace Fz
open PySem L2
def rFullO (n : Nat → Nat) (f : M R) : M R := fun st => match f (vwN n st) with
  | some (.v (.oi c xs), _) => if imms xs = true then some (.v (.oi c xs), st) else none
  | some (.x c, _) => some (.x c, st)
  | _ => none
section
variable {T : Tab} {E : L2.St → XK}
end
section
variable {α : Type} {st s : Sl} {i : Nat} {n : Nat → Nat} {Q : Oc D → Sl → Prop} {QR : Oc R → Sl → Prop} {QL : Oc (List D) → Sl → Prop} {QA : Oc (List R) → Sl → Prop} {QS : Fl → Sl → Prop} {mp : Sl → Option (List Nat)} {fa fb mi : M D} {fs : M (List D)} {k : List Nat → Prop} {m fr : M R} {frs : M (List R)}
def wsl (o : Option (Option R)) (k : R → Prop) : Prop := match o with
  | some (some r) => k r
  | _ => False
theorem wsl_r {r : R} {k : R → Prop} : wsl (some (some r)) k = k r := rfl
theorem wsl_eq {o : Option (Option R)} {k : R → Prop} : wsl o k ↔ ∃ r, o = some (some r) ∧ k r := by
  unfold wsl
  split
  · rename_i r; exact ⟨fun h => ⟨r, rfl, h⟩, fun ⟨r', e, h⟩ => by cases e; exact h⟩
  · rename_i h; exact ⟨(fun h => h.elim), (fun ⟨r', e, _⟩ => (h r' e).elim)⟩
theorem wp_iff {m : M α} {Q : Oc α → Sl → Prop} : wp m st Q ↔ ∃ o s, m st = some (o, s) ∧ Q o s := by
  unfold wp
  cases m st with
  | none => exact ⟨(fun h => h.elim), (fun ⟨_, _, e, _⟩ => nomatch e)⟩
  | some p => obtain ⟨o, s⟩ := p; exact ⟨fun h => ⟨o, s, rfl, h⟩, fun ⟨o', s', e', h⟩ => by cases e'; exact h⟩
theorem ws_iff {m : MS} {Q : Fl → Sl → Prop} : ws m st Q ↔ ∃ o s, m st = some (o, s) ∧ Q o s := by
  unfold ws
  cases m st with
  | none => exact ⟨(fun h => h.elim), (fun ⟨_, _, e, _⟩ => nomatch e)⟩
  | some p => obtain ⟨o, s⟩ := p; exact ⟨fun h => ⟨o, s, rfl, h⟩, fun ⟨o', s', e', h⟩ => by cases e'; exact h⟩
def va {β : Type} (k : β → Sl → Prop) : Oc β → Sl → Prop
  | .v a, s => k a s
  | .x _, _ => False
def wpl (m : Sl → Option (List Nat)) (st : Sl) (k : List Nat → Prop) : Prop := wo (m st) k
theorem n_pName : wpl (pName i) st k = isR (gt st i) (k []) := by
  unfold wpl wo pName isR
  rw [gt_eq]
  cases gt st i with
  | none => exact propext ⟨(fun ⟨_, e, _⟩ => nomatch e), (fun h => h.elim)⟩
  | some o => cases o with
    | none => exact propext ⟨(fun ⟨_, e, _⟩ => nomatch e), (fun h => h.elim)⟩
    | some r => exact propext ⟨fun ⟨_, e, h⟩ => by cases e; exact h, fun h => ⟨_, rfl, h⟩⟩
def kPx5 (k : List Nat → Prop) (p : List Nat) (j : Nat) : R → Prop := fun _ => k (p ++ [j])
theorem kPx5_a {p : List Nat} {j : Nat} {r : R} : kPx5 k p j r = k (p ++ [j]) := rfl
def kPx4 (k : List Nat → Prop) (p : List Nat) (q : R) : Nat → Prop := fun j => wo (kids q)[j]? (kPx5 k p j)
theorem kPx4_a {p : List Nat} {j : Nat} {q : R} : kPx4 k p q j = wo (kids q)[j]? (kPx5 k p j) := rfl
def kPx3 (k : List Nat → Prop) (p : List Nat) (q : R) : Oc D → Sl → Prop := va fun d _ => wo (kidAt q d) (kPx4 k p q)
theorem kPx3_v {p : List Nat} {d : D} {q : R} : kPx3 k p q (.v d) s = wo (kidAt q d) (kPx4 k p q) := rfl
def kPx2 (n : Nat → Nat) (fb : M D) (st : Sl) (k : List Nat → Prop) (p : List Nat) : R → Prop := fun q => wpe fb (vwN n st) (kPx3 k p q)
theorem kPx2_a {p : List Nat} {q : R} : kPx2 n fb st k p q = wpe fb (vwN n st) (kPx3 k p q) := rfl
def kPx1 (n : Nat → Nat) (fb : M D) (st : Sl) (k : List Nat → Prop) (p : List Nat) : R → Prop := fun r => wo (rAt r p) (kPx2 n fb st k p)
theorem kPx1_a {p : List Nat} {r : R} : kPx1 n fb st k p r = wo (rAt r p) (kPx2 n fb st k p) := rfl
def kPx0 (n : Nat → Nat) (i : Nat) (fb : M D) (st : Sl) (k : List Nat → Prop) : List Nat → Prop := fun p => wsl (gt st i) (kPx1 n fb st k p)
theorem kPx0_a {p : List Nat} : kPx0 n i fb st k p = wsl (gt st i) (kPx1 n fb st k p) := rfl
theorem n_pIx : wpl (pIx n i mp fb) st k = wpl mp st (kPx0 n i fb st k) := by
  apply propext
  unfold wpl
  constructor
  · rintro ⟨p', e, h⟩
    unfold pIx at e
    split at e
    · rename_i p r e1 e2
      split at e
      · rename_i q d s0 e3 e4
        obtain ⟨j, hj, e⟩ := Option.bind_eq_some_iff.mp e
        obtain ⟨c, hc, rfl⟩ := Option.map_eq_some_iff.mp e
        exact ⟨p, e1, wsl_eq.mpr ⟨r, by rw [← gt_eq]; exact e2, q, e3, wp_iff.mpr ⟨.v d, s0, e4, j, hj, c, hc, h⟩⟩⟩
      · cases e
    · cases e
  · rintro ⟨p, e1, h⟩
    obtain ⟨r, e2, q, e3, h⟩ := wsl_eq.mp h
    obtain ⟨o, s0, e4, h⟩ := wp_iff.mp h
    cases o with
    | x c => exact h.elim
    | v d =>
      obtain ⟨j, hj, c, hc, h⟩ := h
      refine ⟨p ++ [j], ?_, h⟩
      unfold pIx
      rw [gt_eq, e1, e2]
      simp only [e3, e4, hj, hc, Option.bind_some, Option.map_some]
def kPf3 (k : List Nat → Prop) (p : List Nat) (cs : List R) : Nat → Prop := fun j => wo cs[j]? (kPx5 k p j)
theorem kPf3_a {p : List Nat} {cs : List R} {j : Nat} : kPf3 k p cs j = wo cs[j]? (kPx5 k p j) := rfl
def kPf2 (ix : Nat → Option Nat) (k : List Nat → Prop) (p : List Nat) : R → Prop
  | .ni c cs => wo (ix c) (kPf3 k p cs)
  | _ => False
theorem kPf2_a {ix : Nat → Option Nat} {p : List Nat} {c : Nat} {cs : List R} : kPf2 ix k p (.ni c cs) = wo (ix c) (kPf3 k p cs) := rfl
def kPf1 (ix : Nat → Option Nat) (k : List Nat → Prop) (p : List Nat) : R → Prop := fun r => wo (rAt r p) (kPf2 ix k p)
theorem kPf1_a {ix : Nat → Option Nat} {p : List Nat} {r : R} : kPf1 ix k p r = wo (rAt r p) (kPf2 ix k p) := rfl
def kPf0 (i : Nat) (ix : Nat → Option Nat) (st : Sl) (k : List Nat → Prop) : List Nat → Prop := fun p => wsl (gt st i) (kPf1 ix k p)
theorem kPf0_a {ix : Nat → Option Nat} {p : List Nat} : kPf0 i ix st k p = wsl (gt st i) (kPf1 ix k p) := rfl
theorem n_pFld {ix : Nat → Option Nat} : wpl (pFld i ix mp) st k = wpl mp st (kPf0 i ix st k) := by
  apply propext
  unfold wpl
  constructor
  · rintro ⟨p', e, h⟩
    unfold pFld at e
    split at e
    · rename_i p r e1 e2
      split at e
      · rename_i c cs e3
        obtain ⟨j, hj, e⟩ := Option.bind_eq_some_iff.mp e
        obtain ⟨c', hc, rfl⟩ := Option.map_eq_some_iff.mp e
        exact ⟨p, e1, wsl_eq.mpr ⟨r, by rw [← gt_eq]; exact e2, _, e3, j, hj, c', hc, h⟩⟩
      · cases e
    · cases e
  · rintro ⟨p, e1, h⟩
    obtain ⟨r, e2, q, e3, h⟩ := wsl_eq.mp h
    cases q with
    | ni c cs =>
      obtain ⟨j, hj, c', hc, h⟩ := h
      refine ⟨p ++ [j], ?_, h⟩
      unfold pFld
      rw [gt_eq, e1, e2]
      simp only [e3, hj, hc, Option.bind_some, Option.map_some]
    | _ => exact h.elim
-- arguments
def kH2 (i : Nat) (r : R) (QL : Oc (List D) → Sl → Prop) : Oc (List D) → Sl → Prop := va fun xs s => QL (.v xs) (stt s i (some r))
theorem kH2_v {r : R} {xs : List D} : kH2 i r QL (.v xs) s = QL (.v xs) (stt s i (some r)) := rfl
def kH1 (i : Nat) (f : M (List D)) (st : Sl) (QL : Oc (List D) → Sl → Prop) : R → Prop := fun r => wpe f (stt st i none) (kH2 i r QL)
theorem kH1_a {r : R} : kH1 i fs st QL r = wpe fs (stt st i none) (kH2 i r QL) := rfl
theorem n_aHid : wp (aHid i fs) st QL = wsl (gt st i) (kH1 i fs st QL) := by
  apply propext
  rw [wp_iff, wsl_eq, ← gt_eq]
  constructor
  · rintro ⟨o, s, e, h⟩
    unfold aHid at e
    split at e
    · rename_i r hr
      split at e
      · rename_i xs s' e'
        cases e
        refine ⟨r, hr, wp_iff.mpr ⟨.v xs, s', by rw [← stt_eq]; exact e', ?_⟩⟩
        show QL (.v xs) (stt s' i (some r))
        rw [← stt_eq]; exact h
      · cases e
    · cases e
  · rintro ⟨r, hr, h⟩
    obtain ⟨o, s, e, h⟩ := wp_iff.mp h
    cases o with
    | x c => exact h.elim
    | v xs =>
      have h : QL (.v xs) (stt s i (some r)) := h
      refine ⟨.v xs, s.set i (some r), ?_, by rw [stt_eq]; exact h⟩
      unfold aHid
      rw [hr]
      simp only
      rw [stt_eq, e]
def kAF (st : Sl) (QL : Oc (List D) → Sl → Prop) : Oc (List D) → Sl → Prop := va fun xs _ => wc (imms xs = true) (kU (fun xs => QL (.v xs) st) xs)
theorem kAF_v {xs : List D} : kAF st QL (.v xs) s = wc (imms xs = true) (kU (fun xs => QL (.v xs) st) xs) := rfl
theorem n_aFull : wp (aFull n fs) st QL = wpe fs (vwN n st) (kAF st QL) := by
  apply propext
  rw [wp_iff]
  show _ ↔ wp fs (vwN n st) (kAF st QL)
  rw [wp_iff]
  constructor
  · rintro ⟨o, s, e, h⟩
    unfold aFull at e
    split at e
    · rename_i xs s' e'
      split at e
      · rename_i hi; cases e; exact ⟨.v xs, s', e', hi, h⟩
      · cases e
    · cases e
  · rintro ⟨o, s, e, h⟩
    cases o with
    | x c => exact h.elim
    | v xs =>
      obtain ⟨h1, h2⟩ := h
      exact ⟨.v xs, st, by unfold aFull; rw [e]; simp only [h1, if_true], h2⟩
theorem n_aNo : wp aNo st QL = QL (.v []) st := rfl
-- eMut
def kM5 (i : Nat) (p : List Nat) (r : R) (s : Sl) (Q : Oc D → Sl → Prop) : R × D → Prop := fun q => Q (.v q.2) (stt s i (some (rSet r p q.1)))
theorem kM5_a {p : List Nat} {r q : R} {d : D} : kM5 i p r s Q (q, d) = Q (.v d) (stt s i (some (rSet r p q))) := rfl
def kM4 (i : Nat) (op : R → List D → Option (R × D)) (p : List Nat) (r q : R) (Q : Oc D → Sl → Prop) : Oc (List D) → Sl → Prop := va fun xs s => wo (op q xs) (kM5 i p r s Q)
theorem kM4_v {op : R → List D → Option (R × D)} {p : List Nat} {r q : R} {xs : List D} : kM4 i op p r q Q (.v xs) s = wo (op q xs) (kM5 i p r s Q) := rfl
def kM3 (i : Nat) (fa : M (List D)) (op : R → List D → Option (R × D)) (st : Sl) (Q : Oc D → Sl → Prop) (p : List Nat) (r : R) : R → Prop := fun q => wp fa st (kM4 i op p r q Q)
theorem kM3_a {op : R → List D → Option (R × D)} {p : List Nat} {r q : R} : kM3 i fs op st Q p r q = wp fs st (kM4 i op p r q Q) := rfl
def kM2 (i : Nat) (fa : M (List D)) (op : R → List D → Option (R × D)) (st : Sl) (Q : Oc D → Sl → Prop) (p : List Nat) : R → Prop := fun r => wo (rAt r p) (kM3 i fa op st Q p r)
theorem kM2_a {op : R → List D → Option (R × D)} {p : List Nat} {r : R} : kM2 i fs op st Q p r = wo (rAt r p) (kM3 i fs op st Q p r) := rfl
def kM1 (i : Nat) (fa : M (List D)) (op : R → List D → Option (R × D)) (st : Sl) (Q : Oc D → Sl → Prop) : List Nat → Prop := fun p => wsl (gt st i) (kM2 i fa op st Q p)
theorem kM1_a {op : R → List D → Option (R × D)} {p : List Nat} : kM1 i fs op st Q p = wsl (gt st i) (kM2 i fs op st Q p) := rfl
theorem n_eMut {op : R → List D → Option (R × D)} : wp (eMut i mp fs op) st Q = wpl mp st (kM1 i fs op st Q) := by
  apply propext
  rw [wp_iff]
  unfold wpl
  constructor
  · rintro ⟨o, s, e, h⟩
    unfold eMut at e
    split at e
    · rename_i p r e1 e2
      split at e
      · rename_i q xs s' e3 e4
        obtain ⟨q', hq, e⟩ := Option.map_eq_some_iff.mp e
        cases e
        refine ⟨p, e1, wsl_eq.mpr ⟨r, by rw [← gt_eq]; exact e2, q, e3, wp_iff.mpr ⟨.v xs, s', e4, q', hq, ?_⟩⟩⟩
        show Q (.v q'.2) (stt s' i _)
        rw [← stt_eq]; exact h
      · cases e
    · cases e
  · rintro ⟨p, e1, h⟩
    obtain ⟨r, e2, q, e3, h⟩ := wsl_eq.mp h
    obtain ⟨o, s', e4, h⟩ := wp_iff.mp h
    cases o with
    | x c => exact h.elim
    | v xs =>
      obtain ⟨q', hq, h⟩ := h
      have h : Q (.v q'.2) (stt s' i (some (rSet r p q'.1))) := h
      refine ⟨.v q'.2, s'.set i (some (rSet r p q'.1)), ?_, by rw [stt_eq]; exact h⟩
      unfold eMut
      rw [gt_eq, e1, e2]
      simp only [e3, e4, hq, Option.map_some]
-- stores
def kSA6 (i : Nat) (r : R) (p : List Nat) (s : Sl) (QS : Fl → Sl → Prop) : R → Prop := fun q => QS .nx (stt s i (some (rSet r p q)))
theorem kSA6_a {r q : R} {p : List Nat} : kSA6 i r p s QS q = QS .nx (stt s i (some (rSet r p q))) := rfl
def kSA5 (i : Nat) (r : R) (p : List Nat) (q : R) (d : D) (s : Sl) (QS : Fl → Sl → Prop) : R → Prop := fun nd => wo (opSet nd d q) (kSA6 i r p s QS)
theorem kSA5_a {r q nd : R} {p : List Nat} {d : D} : kSA5 i r p q d s QS nd = wo (opSet nd d q) (kSA6 i r p s QS) := rfl
def kSA4 (i : Nat) (r : R) (p : List Nat) (q : R) (s : Sl) (QS : Fl → Sl → Prop) : Oc D → Sl → Prop := va fun d _ => wo (rAt r p) (kSA5 i r p q d s QS)
theorem kSA4_v {r q : R} {p : List Nat} {d : D} {s' : Sl} : kSA4 i r p q s QS (.v d) s' = wo (rAt r p) (kSA5 i r p q d s QS) := rfl
def kSA3 (n : Nat → Nat) (i : Nat) (mi : M D) (q : R) (s : Sl) (QS : Fl → Sl → Prop) (p : List Nat) : R → Prop := fun r => wpe mi (vwN n s) (kSA4 i r p q s QS)
theorem kSA3_a {r q : R} {p : List Nat} : kSA3 n i mi q s QS p r = wpe mi (vwN n s) (kSA4 i r p q s QS) := rfl
def kSA2 (n : Nat → Nat) (i : Nat) (mi : M D) (q : R) (s : Sl) (QS : Fl → Sl → Prop) : List Nat → Prop := fun p => wsl (gt s i) (kSA3 n i mi q s QS p)
theorem kSA2_a {q : R} {p : List Nat} : kSA2 n i mi q s QS p = wsl (gt s i) (kSA3 n i mi q s QS p) := rfl
def kSA1 (n : Nat → Nat) (i : Nat) (mp : Sl → Option (List Nat)) (mi : M D) (QS : Fl → Sl → Prop) : Oc R → Sl → Prop
  | .v q, s => wpl mp s (kSA2 n i mi q s QS)
  | .x c, s => QS (.x c) s
theorem kSA1_v {q : R} : kSA1 n i mp mi QS (.v q) s = wpl mp s (kSA2 n i mi q s QS) := rfl
theorem kSA1_x {c : Nat} : kSA1 n i mp mi QS (.x c) s = QS (.x c) s := rfl
theorem n_sSetA : ws (sSetA n i mp mi m) st QS = wp m st (kSA1 n i mp mi QS) := by
  apply propext
  rw [wp_iff, ws_iff]
  constructor
  · rintro ⟨o, s, e, h⟩
    unfold sSetA at e
    split at e
    · rename_i q s1 e0
      refine ⟨.v q, s1, e0, ?_⟩
      split at e
      · rename_i p r d s2 e1 e2 e3
        obtain ⟨n', hn, e⟩ := Option.map_eq_some_iff.mp e
        cases e
        obtain ⟨nd, e4, hs⟩ := Option.bind_eq_some_iff.mp hn
        refine ⟨p, e1, wsl_eq.mpr ⟨r, by rw [← gt_eq]; exact e2, wp_iff.mpr ⟨.v d, s2, e3, nd, e4, n', hs, ?_⟩⟩⟩
        show QS .nx (stt s1 i _)
        rw [← stt_eq]; exact h
      · cases e
    · rename_i c s1 e0
      cases e
      exact ⟨.x c, _, e0, h⟩
    · cases e
  · rintro ⟨o, s1, e0, h⟩
    cases o with
    | x c => exact ⟨.x c, s1, by unfold sSetA; rw [e0], h⟩
    | v q =>
      obtain ⟨p, e1, h⟩ := h
      obtain ⟨r, e2, h⟩ := wsl_eq.mp h
      obtain ⟨o, s2, e3, h⟩ := wp_iff.mp h
      cases o with
      | x c => exact h.elim
      | v d =>
        obtain ⟨nd, e4, n', hs, h⟩ := h
        have h : QS .nx (stt s1 i (some (rSet r p n'))) := h
        refine ⟨.nx, s1.set i (some (rSet r p n')), ?_, by rw [stt_eq]; exact h⟩
        unfold sSetA
        rw [e0]
        simp only
        rw [gt_eq, e1, e2, e3]
        simp only [e4, hs, Option.bind_some, Option.map_some]
-- rows
theorem n_aRNil : wp aRNil st QA = QA (.v []) st := rfl
def kRC2 (r : R) (QA : Oc (List R) → Sl → Prop) : Oc (List R) → Sl → Prop := va fun rs s => QA (.v (r :: rs)) s
theorem kRC2_v {r : R} {rs : List R} : kRC2 r QA (.v rs) s = QA (.v (r :: rs)) s := rfl
def kRC1 (frs : M (List R)) (QA : Oc (List R) → Sl → Prop) : Oc R → Sl → Prop := va fun r s => wp frs s (kRC2 r QA)
theorem kRC1_v {r : R} : kRC1 frs QA (.v r) s = wp frs s (kRC2 r QA) := rfl
theorem n_aRCons : wp (aRCons fr frs) st QA = wp fr st (kRC1 frs QA) := by
  apply propext
  rw [wp_iff, wp_iff]
  constructor
  · rintro ⟨o, s, e, h⟩
    unfold aRCons at e
    split at e
    · rename_i r s1 e1
      split at e
      · rename_i rs s2 e2
        cases e
        exact ⟨.v r, s1, e1, wp_iff.mpr ⟨.v rs, _, e2, h⟩⟩
      · cases e
    · cases e
  · rintro ⟨o, s1, e1, h⟩
    cases o with
    | x c => exact h.elim
    | v r =>
      obtain ⟨o, s2, e2, h⟩ := wp_iff.mp h
      cases o with
      | x c => exact h.elim
      | v rs => exact ⟨.v (r :: rs), s2, by unfold aRCons; rw [e1]; simp only [e2], h⟩
def kRL (QR : Oc R → Sl → Prop) : Oc (List R) → Sl → Prop := va fun rs s => wc (rs.length ≤ sizeLine) (kU (fun rs => QR (.v (.nl rs)) s) rs)
theorem kRL_v {rs : List R} : kRL QR (.v rs) s = wc (rs.length ≤ sizeLine) (kU (fun rs => QR (.v (.nl rs)) s) rs) := rfl
theorem n_rLstR : wp (rLstR frs) st QR = wp frs st (kRL QR) := by
  apply propext
  rw [wp_iff, wp_iff]
  constructor
  · rintro ⟨o, s, e, h⟩
    unfold rLstR at e
    split at e
    · rename_i rs s1 e1
      split at e
      · rename_i hl; cases e; exact ⟨.v rs, _, e1, hl, h⟩
      · cases e
    · cases e
  · rintro ⟨o, s1, e1, h⟩
    cases o with
    | x c => exact h.elim
    | v rs => obtain ⟨h1, h2⟩ := h; exact ⟨.v (.nl rs), s1, by unfold rLstR; rw [e1]; exact if_pos h1, h2⟩
def kRT (QR : Oc R → Sl → Prop) : Oc (List R) → Sl → Prop := va fun rs s => wc (rs.length ≤ sizeLine) (kU (fun rs => QR (.v (.nt rs)) s) rs)
theorem kRT_v {rs : List R} : kRT QR (.v rs) s = wc (rs.length ≤ sizeLine) (kU (fun rs => QR (.v (.nt rs)) s) rs) := rfl
theorem n_rTupR : wp (rTupR frs) st QR = wp frs st (kRT QR) := by
  apply propext
  rw [wp_iff, wp_iff]
  constructor
  · rintro ⟨o, s, e, h⟩
    unfold rTupR at e
    split at e
    · rename_i rs s1 e1
      split at e
      · rename_i hl; cases e; exact ⟨.v rs, _, e1, hl, h⟩
      · cases e
    · cases e
  · rintro ⟨o, s1, e1, h⟩
    cases o with
    | x c => exact h.elim
    | v rs => obtain ⟨h1, h2⟩ := h; exact ⟨.v (.nt rs), s1, by unfold rTupR; rw [e1]; exact if_pos h1, h2⟩
def kFS (Q : Oc D → Sl → Prop) : Oc (List D) → Sl → Prop := va fun xs s => wo (dCat xs) (kr Q s)
theorem kFS_v {xs : List D} : kFS Q (.v xs) s = wo (dCat xs) (kr Q s) := rfl
theorem n_eFStr : wp (eFStr fs) st Q = wp fs st (kFS Q) := by
  apply propext
  rw [wp_iff, wp_iff]
  constructor
  · rintro ⟨o, s, e, h⟩
    unfold eFStr at e
    split at e
    · rename_i xs s1 e1
      obtain ⟨x, hx, e⟩ := Option.map_eq_some_iff.mp e
      cases e
      exact ⟨.v xs, _, e1, x, hx, h⟩
    · cases e
  · rintro ⟨o, s1, e1, h⟩
    cases o with
    | x c => exact h.elim
    | v xs => obtain ⟨x, hx, h⟩ := h; exact ⟨.v x, s1, by unfold eFStr; rw [e1]; simp only [hx, Option.map_some], h⟩
-- dicts walked
def dkO : D → Option (List D)
  | .dct ks _ => if okKs ks = true then some ks else none
  | _ => none
def dvO : D → Option (List D)
  | .dct _ vs => some vs
  | _ => none
def diO : D → Option (List D)
  | .dct ks vs => if okKs ks = true ∧ ks.length = vs.length then some (zipD ks vs) else none
  | _ => none
def kID (g : D → Option (List D)) (QL : Oc (List D) → Sl → Prop) : Oc D → Sl → Prop := vx QL fun x s => wo (g x) (kr QL s)
theorem kID_v {g : D → Option (List D)} {x : D} : kID g QL (.v x) s = wo (g x) (kr QL s) := rfl
theorem kID_x {g : D → Option (List D)} {c : Nat} : kID g QL (.x c) s = QL (.x c) s := rfl
theorem n_bnd {g : D → Option (List D)} : wp (bnd fa fun x => opt (g x)) st QL = wp fa st (kID g QL) := by
  rw [wp_bnd]
  refine congrArg _ ?_
  funext o s
  cases o with
  | x c => rfl
  | v x => exact wp_opt
theorem n_iDk : wp (iDk fa) st QL = wp fa st (kID dkO QL) := by
  have e : iDk fa = bnd fa fun x => opt (dkO x) := by unfold iDk; congr 1
  rw [e, n_bnd]
theorem n_iDv : wp (iDv fa) st QL = wp fa st (kID dvO QL) := by
  have e : iDv fa = bnd fa fun x => opt (dvO x) := by unfold iDv; congr 1
  rw [e, n_bnd]
theorem n_iDi : wp (iDi fa) st QL = wp fa st (kID diO QL) := by
  have e : iDi fa = bnd fa fun x => opt (diO x) := by unfold iDi; congr 1
  rw [e, n_bnd]
def rfo (QR : Oc R → Sl → Prop) (st : Sl) : Oc R → Sl → Prop
  | .v (.oi c xs), _ => wc (imms xs = true) (kU (fun xs => QR (.v (.oi c xs)) st) xs)
  | .x c, _ => QR (.x c) st
  | _, _ => False
theorem rfo_oi {c : Nat} {xs : List D} : rfo QR st (.v (.oi c xs)) s = wc (imms xs = true) (kU (fun xs => QR (.v (.oi c xs)) st) xs) := rfl
theorem rfo_x {c : Nat} : rfo QR st (.x c) s = QR (.x c) st := rfl
theorem n_rFullO : wp (rFullO n fr) st QR = wpe fr (vwN n st) (rfo QR st) := by
  apply propext
  show _ ↔ wp fr (vwN n st) (rfo QR st)
  rw [wp_iff, wp_iff]
  constructor
  · rintro ⟨o, s, e, h⟩
    unfold rFullO at e
    split at e
    · rename_i c xs s1 e1
      split at e
      · rename_i hi; cases e; exact ⟨_, s1, e1, hi, h⟩
      · cases e
    · rename_i c s1 e1
      cases e; exact ⟨_, s1, e1, h⟩
    · cases e
  · rintro ⟨o, s1, e1, h⟩
    cases o with
    | x c => exact ⟨.x c, st, by unfold rFullO; rw [e1], h⟩
    | v r =>
      cases r with
      | oi c xs => obtain ⟨h1, h2⟩ := h; exact ⟨.v (.oi c xs), st, by unfold rFullO; rw [e1]; exact if_pos h1, h2⟩
      | _ => exact h.elim
-- paths and nodes
theorem rAt_nil {r : R} : rAt r [] = some r := rfl
theorem rAt_nl {cs : List R} {j : Nat} {p : List Nat} : rAt (.nl cs) (j :: p) = cs[j]?.bind fun c => rAt c p := rfl
theorem rAt_nt {cs : List R} {j : Nat} {p : List Nat} : rAt (.nt cs) (j :: p) = cs[j]?.bind fun c => rAt c p := rfl
theorem rAt_ni {cs : List R} {c j : Nat} {p : List Nat} : rAt (.ni c cs) (j :: p) = cs[j]?.bind fun c => rAt c p := rfl
theorem rAt_nd {cs : List R} {ks : List D} {j : Nat} {p : List Nat} : rAt (.nd ks cs) (j :: p) = cs[j]?.bind fun c => rAt c p := rfl
theorem rSet_nil {r q : R} : rSet r [] q = q := rfl
def rSets (cs : List R) (j : Nat) (p : List Nat) (q : R) : List R := match cs[j]? with
  | some c => cs.set j (rSet c p q)
  | none => cs
theorem rSet_nl {cs : List R} {j : Nat} {p : List Nat} {q : R} : rSet (.nl cs) (j :: p) q = .nl (rSets cs j p q) := by
  unfold rSets; rw [rSet]; show (match cs[j]? with | some c => _ | none => _) = _; cases cs[j]? <;> rfl
theorem rSet_nt {cs : List R} {j : Nat} {p : List Nat} {q : R} : rSet (.nt cs) (j :: p) q = .nt (rSets cs j p q) := by
  unfold rSets; rw [rSet]; show (match cs[j]? with | some c => _ | none => _) = _; cases cs[j]? <;> rfl
theorem rSet_ni {cs : List R} {c j : Nat} {p : List Nat} {q : R} : rSet (.ni c cs) (j :: p) q = .ni c (rSets cs j p q) := by
  unfold rSets; rw [rSet]; show (match cs[j]? with | some c => _ | none => _) = _; cases cs[j]? <;> rfl
theorem rSet_nd {cs : List R} {ks : List D} {j : Nat} {p : List Nat} {q : R} : rSet (.nd ks cs) (j :: p) q = .nd ks (rSets cs j p q) := by
  unfold rSets; rw [rSet]; show (match cs[j]? with | some c => _ | none => _) = _; cases cs[j]? <;> rfl
theorem rSets_0 {c q : R} {cs : List R} {p : List Nat} : rSets (c :: cs) 0 p q = rSet c p q :: cs := rfl
theorem rSets_s {c q : R} {cs : List R} {p : List Nat} {j : Nat} : rSets (c :: cs) (j + 1) p q = c :: rSets cs j p q := by
  unfold rSets
  show (match cs[j]? with | some _ => _ | none => _) = _
  cases cs[j]? <;> rfl
theorem kids_nl {cs : List R} : kids (.nl cs) = cs := rfl
theorem kids_nt {cs : List R} : kids (.nt cs) = cs := rfl
theorem kids_ni {c : Nat} {cs : List R} : kids (.ni c cs) = cs := rfl
theorem kids_nd {ks : List D} {cs : List R} : kids (.nd ks cs) = cs := rfl
theorem kidAt_nl {cs : List R} {j : Int} : kidAt (.nl cs) (.int j) = ixN cs.length j := rfl
theorem kidAt_nt {cs : List R} {j : Int} : kidAt (.nt cs) (.int j) = ixN cs.length j := rfl
theorem opApp_ol {xs : List D} {x : D} : opApp (.ol xs) [x] = if xs.length < sizeLine then some (.ol (xs ++ [x]), .non) else none := rfl
theorem opRev_ol {xs : List D} : opRev (.ol xs) [] = some (.ol xs.reverse, .non) := rfl
theorem opClr_ol {xs : List D} : opClr (.ol xs) [] = some (.ol [], .non) := rfl
theorem opSet_nl {cs : List R} {j : Int} {q : R} : opSet (.nl cs) (.int j) q = (ixN cs.length j).map fun j => .nl (cs.set j q) := rfl
theorem opSet_ol {xs : List D} {j : Int} {x : D} : opSet (.ol xs) (.int j) (.d x) = (ixN xs.length j).map fun j => .ol (xs.set j x) := rfl
theorem vw_nl {cs : List R} : vw (.nl cs) = .lst (vwL cs) := by unfold vw; rfl
theorem vw_nt {cs : List R} : vw (.nt cs) = .tup (vwL cs) := by unfold vw; rfl
theorem vw_ni {c : Nat} {cs : List R} : vw (.ni c cs) = .obj c (vwL cs) := by unfold vw; rfl
theorem vw_nd {ks : List D} {cs : List R} : vw (.nd ks cs) = .dct ks (vwL cs) := by unfold vw; rfl
theorem vwL_nil : vwL [] = [] := by unfold vwL; rfl
theorem vwL_cons {c : R} {cs : List R} : vwL (c :: cs) = vw c :: vwL cs := by rw [vwL]
theorem wh_nl {cs : List R} : wholeB n (.nl cs) = wholeBL n cs := by rw [wholeB]
theorem wh_nt {cs : List R} : wholeB n (.nt cs) = wholeBL n cs := by rw [wholeB]
theorem wh_ni {c : Nat} {cs : List R} : wholeB n (.ni c cs) = (cs.length == n c && wholeBL n cs) := by rw [wholeB]
theorem wh_nd {ks : List D} {cs : List R} : wholeB n (.nd ks cs) = wholeBL n cs := by rw [wholeB]
theorem whL_nil : wholeBL n [] = true := by rw [wholeBL]
theorem whL_cons {c : R} {cs : List R} : wholeBL n (c :: cs) = (wholeB n c && wholeBL n cs) := by rw [wholeBL]
theorem vwN_nl {cs : List R} {l : Sl} : vwN n (some (.nl cs) :: l) = (if wholeBL n cs = true then some (.d (.lst (vwL cs))) else none) :: vwN n l := by
  show (if wholeB n (.nl cs) = true then some (R.d (vw (.nl cs))) else none) :: _ = _
  rw [wh_nl, vw_nl]; rfl
theorem vwN_nt {cs : List R} {l : Sl} : vwN n (some (.nt cs) :: l) = (if wholeBL n cs = true then some (.d (.tup (vwL cs))) else none) :: vwN n l := by
  show (if wholeB n (.nt cs) = true then some (R.d (vw (.nt cs))) else none) :: _ = _
  rw [wh_nt, vw_nt]; rfl
theorem vwN_nd {ks : List D} {cs : List R} {l : Sl} : vwN n (some (.nd ks cs) :: l) = (if wholeBL n cs = true then some (.d (.dct ks (vwL cs))) else none) :: vwN n l := by
  show (if wholeB n (.nd ks cs) = true then some (R.d (vw (.nd ks cs))) else none) :: _ = _
  rw [wh_nd, vw_nd]; rfl
theorem vwN_ni {c : Nat} {cs : List R} {l : Sl} : vwN n (some (.ni c cs) :: l) = (if (cs.length == n c && wholeBL n cs) = true then some (.d (.obj c (vwL cs))) else none) :: vwN n l := by
  show (if wholeB n (.ni c cs) = true then some (R.d (vw (.ni c cs))) else none) :: _ = _
  rw [wh_ni, vw_ni]; rfl
end
end Fz
set_option Elab.async false
set_option linter.all false
set_option maxRecDepth 100000
set_option maxHeartbeats 2000000
namespace Fz
open PySem L2 PySem.Spec PyProof.Rows
section
variable {M : Model} {A : Around} {E : Value → Shared → Prop} {s : Shared} {env : Env}
end
end Fz
set_option Elab.async false
set_option linter.all false
set_option maxRecDepth 100000
set_option maxHeartbeats 2000000
namespace Fz
open PySem L2 PySem.Spec PyProof.Rows
end Fz
set_option Elab.async false
set_option linter.all false
set_option maxRecDepth 100000
set_option maxHeartbeats 4000000
namespace Fz
open PySem L2 PySem.Spec PyProof.Rows
end Fz
set_option Elab.async false
set_option linter.all false
set_option maxRecDepth 100000
set_option maxHeartbeats 4000000
namespace Fz
open PySem L2 PySem.Spec PyProof.Rows
end Fz
set_option Elab.async false
set_option linter.all false
set_option maxRecDepth 100000
set_option maxHeartbeats 4000000
namespace Fz
open PySem L2 PySem.Spec PyProof.Rows
section
variable {ι : Type} {T : Tab} {E : XK} {X : ι → Cx} {kp : Nat → Bool} {pos : Pos} {elt tg iter : Expr} {y : Str}
end
section
variable {P : Program} {w : World} {T : Tab} {mg : Str → Option Value} {base : Heap} {N : List Str} {qual : Str} {st : Stmt} {f : Addr} {cdv : Value} {A : Around} {outer : List Env} {s : Shared} {H : Hp} {E : XK} {x m : Str} {n c k : Nat} {F : Fn}
end
end Fz
set_option Elab.async false
set_option linter.all false
set_option maxRecDepth 100000
set_option maxHeartbeats 4000000
namespace Fz
open PySem L2 PySem.Spec PyProof.Rows
section
variable {T : Tab} {st : Sl} {σ : L2.St} {B F H : Hp}
theorem Sim.swap {a b : Option R} {x y : Option V} (S : Sim T (a :: b :: st) (x :: y :: σ) B F H) : Sim T (b :: a :: st) (y :: x :: σ) B F H := by
  have p : ∀ i, ∃ j, (b :: a :: st)[i]? = (a :: b :: st)[j]? ∧ (y :: x :: σ)[i]? = (x :: y :: σ)[j]? ∧ (j = 1 ↔ i = 0) ∧ (j = 0 ↔ i = 1) ∧ (2 ≤ i → j = i) ∧ (2 ≤ j → j = i) := fun i => by
    match i with
    | 0 => exact ⟨1, rfl, rfl, by omega, by omega, by omega, by omega⟩
    | 1 => exact ⟨0, rfl, rfl, by omega, by omega, by omega, by omega⟩
    | i + 2 => exact ⟨i + 2, rfl, rfl, by omega, by omega, by omega, by omega⟩
  refine ⟨S.exB, S.exF, S.dis, S.tup, by have := S.len; simpa using this, fun i r h => ?_, fun i r v c h1 h2 h3 => ?_, fun i j r q v u c n h1 h2 h3 h4 h5 h6 => ?_, S.tbs⟩
  · obtain ⟨j, e1, e2, _⟩ := p i
    rw [e1] at h
    obtain ⟨v, g1, g2⟩ := S.rel j r h
    exact ⟨v, by rw [e2]; exact g1, g2⟩
  · obtain ⟨j, e1, e2, _⟩ := p i
    rw [e1] at h1
    rw [e2] at h2
    exact S.own j r v c h1 h2 h3
  · obtain ⟨i', e1, e2, k1, k2, k3, k4⟩ := p i
    obtain ⟨j', f1, f2, l1, l2, l3, l4⟩ := p j
    rw [e1] at h1
    rw [e2] at h2
    rw [f1] at h3
    rw [f2] at h4
    exact S.sep i' j' r q v u c (by omega) h1 h2 h3 h4 h5 h6
end
section
variable {ι : Type} {T : Tab} {E : L2.St → XK} {X : ι → Cx} {kp : Nat → Bool} {pos : Pos} {elt tg iter : Expr} {y : Str}
end
end Fz
set_option Elab.async false
set_option linter.all false
set_option maxRecDepth 100000
set_option maxHeartbeats 4000000
namespace Fz
open PySem L2 PySem.Spec PyProof.Rows
end Fz
set_option Elab.async false
set_option linter.all false
set_option maxRecDepth 100000
set_option maxHeartbeats 2000000
namespace Fz
open PySem L2 PySem.Spec PyProof.Rows
section
variable {T : Tab} {E : L2.St → XK} {kp : Nat → Bool} {st s' : Sl} {σ σ' : L2.St} {B B' F H H' : Hp}
end
section
variable {ι : Type} {T : Tab} {E : L2.St → XK} {X : ι → Cx} {kp : Nat → Bool} {pos p1 p2 : Pos} {f : MS} {x y : Str}
end
end Fz
set_option Elab.async false
set_option linter.all false
set_option maxRecDepth 100000
set_option maxHeartbeats 4000000
namespace Fz
open PySem L2 PySem.Spec PyProof.Rows
end Fz
set_option Elab.async false
set_option linter.all false
set_option maxRecDepth 100000
set_option maxHeartbeats 4000000
namespace Fz
open PySem L2 PySem.Spec PyProof.Rows
end Fz
set_option Elab.async false
set_option linter.all false
set_option maxRecDepth 100000
set_option maxHeartbeats 4000000
namespace Fz
open PySem L2 PySem.Spec PyProof.Rows
variable {T : Tab} {B H : Hp}
end Fz
set_option Elab.async false
set_option linter.all false
set_option maxRecDepth 100000
set_option maxHeartbeats 2000000
namespace Fz
open PySem PySem.Spec PyProof.Rows L2
section
variable {P : Program} {w : World} {A : Around} {E : Value → Shared → Prop} {s : Shared}
abbrev NIs (P : Program) (w : World) (h : Heap) (k : NestedKey) (b : Addr) : Prop := (nestedKind P w).is h k b
theorem NIs.stay {h h' : Heap} {k : NestedKey} {b : Addr} (x : NIs P w h k b) (hk : ∀ c o vs n, h.get? c = some o → o.data = .seq vs n → h'.get? c = some o) : NIs P w h' k b := nestedKind_stays.stays hk x
theorem NIs.keep {h h' : Heap} {k : NestedKey} {b : Addr} (x : NIs P w h k b) (hk : ∀ c o, h.get? c = some o → h'.get? c = some o) : NIs P w h' k b := x.stay fun c o _ _ e _ => hk c o e
theorem NIs.set {h h' : Heap} {k : NestedKey} {a b : Addr} {o : Obj} {es : Array (Int × Value)} {ep : Nat} {t : SetTable} (x : NIs P w h k b) (ho : h.get? a = some o) (hd : o.data = .set es ep t) (hs : Heap.SameBut a h h') : NIs P w h' k b :=
  x.stay fun c o' vs n e q => (hs.2 c fun z => by subst z; rw [ho] at e; cases e; rw [hd] at q; cases q).trans e
end
end Fz
set_option Elab.async false
set_option linter.all false
set_option maxRecDepth 100000
set_option maxHeartbeats 4000000
namespace Fz
open PySem PySem.Spec PyProof.Rows L2
section
variable {P : Program} {w : World} {A : Around} {E : Value → Shared → Prop} {s : Shared}
def rowN (w : World) (p : Addr × NestedKey) : Int × Value := (p.2.hash w, .ref p.1)
structure NSet (P : Program) (w : World) (h : Heap) (a : Addr) (L : List (Addr × NestedKey)) (es : Array (Int × Value)) (ep : Nat) (t : SetTable) : Prop where
  ob : ∃ o, h.get? a = some o ∧ o.ExactSet ∧ o.data = .set es ep t
  rows : es.toList = L.map (rowN w)
  tab : TabOk t (L.map fun p => p.2.hash w)
  nd : (L.map (·.2)).Nodup
  key : ∀ p ∈ L, NIs P w h p.2 p.1
  led : w.params.followText "set-order" = true ∨ t.led = true
  room : L.length * 5 < t.mask * 3
  few : L.length < 64
variable {a x : Addr} {L : List (Addr × NestedKey)} {es : Array (Int × Value)} {ep : Nat} {t : SetTable} {k : NestedKey}
theorem NSet.len (R : NSet P w s.heap a L es ep t) : es.size = L.length := by
  have h := congrArg List.length R.rows
  rwa [Array.length_toList, List.length_map] at h
theorem NSet.at (R : NSet P w s.heap a L es ep t) (i : Nat) : es[i]? = (L[i]?).map (rowN w) := by
  rw [← Array.getElem?_toList, R.rows, List.getElem?_map]
theorem NSet.place (R : NSet P w s.heap a L es ep t) : t.place.toList.length = L.length := by
  have := R.tab.sz
  rwa [List.length_map] at this
theorem NSet.fits (R : NSet P w s.heap a L es ep t) : t.fits es.size = true := by
  have h1 := R.place
  have h2 := R.len
  have h3 := R.room
  rw [Array.length_toList] at h1
  unfold SetTable.fits SetTable.fill
  rw [R.tab.dm, Bool.and_eq_true, beq_iff_eq, decide_eq_true_eq]
  refine ⟨by omega, ?_⟩
  show t.place.size + 0 ≤ t.mask
  omega
end
end Fz
set_option Elab.async false
set_option linter.all false
set_option maxRecDepth 100000
set_option maxHeartbeats 4000000
namespace Fz
open PySem PySem.Spec PyProof.Rows L2
section
variable {P : Program} {w : World} {A : Around} {E : Value → Shared → Prop} {s : Shared} {a x : Addr} {L : List (Addr × NestedKey)} {es : Array (Int × Value)} {ep : Nat} {t : SetTable} {k : NestedKey}
structure NPre (P : Program) (w : World) (h : Heap) (a : Addr) (L : List (Addr × NestedKey)) (es : Array (Int × Value)) (ep : Nat) (t : SetTable) : Prop where
  ob : ∃ o, h.get? a = some o ∧ o.ExactSet ∧ o.data = .set es ep t
  rows : es.toList = L.map (rowN w)
  tab : TabOk t (L.map fun p => p.2.hash w)
  nd : (L.map (·.2)).Nodup
  key : ∀ p ∈ L, NIs P w h p.2 p.1
  led : w.params.followText "set-order" = true ∨ t.led = true
  fit : L.length ≤ t.mask
  few : L.length < 64
end
end Fz
set_option Elab.async false
set_option linter.all false
set_option maxRecDepth 100000
set_option maxHeartbeats 3200000
namespace Fz
open PySem PySem.Spec PyProof.Rows L2
section
variable {P : Program} {w : World} {A : Around} {E : Value → Shared → Prop} {s : Shared}
structure Gath (ks : List (Addr × NestedKey)) (i : Nat) (L : List (Addr × NestedKey)) : Prop where
  sub : ∀ p ∈ L, p ∈ ks.take i
  all : ∀ p ∈ ks.take i, p.2 ∈ L.map (·.2)
  len : L.length ≤ i
theorem Gath.next {ks L L' : List (Addr × NestedKey)} {i : Nat} {p : Addr × NestedKey} (g : Gath ks i L) (h : ks[i]? = some p) (h1 : p.2 ∈ L.map (·.2) → L' = L) (h2 : p.2 ∉ L.map (·.2) → L'.Perm (p :: L)) : Gath ks (i + 1) L' := by
  have e : ks.take (i + 1) = ks.take i ++ [p] := by rw [List.take_add_one, h]; rfl
  by_cases c : p.2 ∈ L.map (·.2)
  · rw [h1 c]
    refine ⟨fun q hq => by rw [e]; exact List.mem_append_left _ (g.sub q hq), fun q hq => ?_, Nat.le_succ_of_le g.len⟩
    rw [e] at hq
    rcases List.mem_append.mp hq with z | z
    · exact g.all q z
    · rw [List.mem_singleton.mp z]; exact c
  · have pm := h2 c
    refine ⟨fun q hq => ?_, fun q hq => ?_, by rw [pm.length_eq]; exact Nat.succ_le_succ g.len⟩
    · rw [e]
      rcases List.mem_cons.mp (pm.mem_iff.mp hq) with z | z
      · rw [z]; exact List.mem_append_right _ (List.mem_singleton.mpr rfl)
      · exact List.mem_append_left _ (g.sub q z)
    · rw [(pm.map (·.2)).mem_iff]
      rw [e] at hq
      rcases List.mem_append.mp hq with z | z
      · exact List.mem_cons_of_mem _ (g.all q z)
      · rw [List.mem_singleton.mp z]; exact List.mem_cons_self
end
end Fz
set_option Elab.async false
set_option linter.all false
set_option maxRecDepth 100000
set_option maxHeartbeats 2000000
namespace Fz
open PySem PySem.Spec PyProof.Rows L2
def Dif (l m : List Int) : Prop := ∃ p x y s t, l = p ++ x :: s ∧ m = p ++ y :: t ∧ x ≠ y
theorem Dif.app {l m : List Int} (h : Dif l m) (u v : List Int) : Dif (l ++ u) (m ++ v) := by
  obtain ⟨p, x, y, s, t, rfl, rfl, n⟩ := h
  exact ⟨p, x, y, s ++ u, t ++ v, by simp, by simp, n⟩
theorem Dif.pre {l m : List Int} (h : Dif l m) (q : List Int) : Dif (q ++ l) (q ++ m) := by
  obtain ⟨p, x, y, s, t, rfl, rfl, n⟩ := h
  exact ⟨q ++ p, x, y, s, t, by simp, by simp, n⟩
theorem Dif.cons {l m : List Int} (h : Dif l m) (x : Int) : Dif (x :: l) (x :: m) := h.pre [x]
theorem Dif.at {x y : Int} (h : x ≠ y) (s t : List Int) : Dif (x :: s) (y :: t) := ⟨[], x, y, s, t, rfl, rfl, h⟩
theorem Dif.ne {l m : List Int} (h : Dif l m) : l ≠ m := by
  obtain ⟨p, x, y, s, t, rfl, rfl, n⟩ := h
  intro e
  have := List.append_cancel_left e
  injection this with e1 _
  exact n e1
theorem lt_pre {q l m : List Int} : q ++ l < q ++ m ↔ l < m := by
  induction q with
  | nil => exact Iff.rfl
  | cons x q ih => rw [List.cons_append, List.cons_append, List.cons_lt_cons_iff]; simp [ih]
theorem lt_cons' {x y : Int} {s t : List Int} (n : x ≠ y) : x :: s < y :: t ↔ x < y := by
  rw [List.cons_lt_cons_iff]
  constructor
  · rintro (h | ⟨h, _⟩)
    · exact h
    · exact absurd h n
  · exact .inl
theorem Dif.lt {l m : List Int} (h : Dif l m) (u v : List Int) : l ++ u < m ++ v ↔ l < m := by
  obtain ⟨p, x, y, s, t, rfl, rfl, n⟩ := h
  rw [List.append_assoc, List.append_assoc, lt_pre, lt_pre, List.cons_append, List.cons_append, lt_cons' n, lt_cons' n]
end Fz
set_option Elab.async false
set_option linter.all false
set_option maxRecDepth 100000
set_option maxHeartbeats 4000000
namespace Fz
open PySem PySem.Spec PyProof.Rows L2 PySem.SeqAt
mutual
inductive NO (h : Heap) : NestedKey → Value → Prop
  | int (i t) : NO h (.num i) (.int i t)
  | text (x t) : NO h (.text x) (.str x t)
  | tup {a o vs n ks} : h.get? a = some o → o.cls = .type "tuple" → o.data = .seq vs n → NOs h ks vs.toList → NO h (.tup ks) (.ref a)
inductive NOs (h : Heap) : List NestedKey → List Value → Prop
  | nil : NOs h [] []
  | cons {k v ks vs} : NO h k v → NOs h ks vs → NOs h (k :: ks) (v :: vs)
end
mutual
theorem NO.is {h : Heap} : ∀ {k : NestedKey} {v : Value}, NO h k v → NestedIs h k v
  | _, _, .int i t => .int i t
  | _, _, .text x t => .text x t
  | _, _, .tup h1 h2 h3 h4 => .tup h1 h2 h3 h4.all
theorem NOs.all {h : Heap} : ∀ {ks : List NestedKey} {vs : List Value}, NOs h ks vs → NestedAll h ks vs
  | _, _, .nil => .nil
  | _, _, .cons h1 h2 => .cons h1.is h2.all
end
mutual
theorem NO.stay {h h' : Heap} (hk : ∀ b o, h.get? b = some o → o.cls = .type "tuple" → h'.get? b = some o) : ∀ {k : NestedKey} {v : Value}, NO h k v → NO h' k v
  | _, _, .int i t => .int i t
  | _, _, .text x t => .text x t
  | _, _, .tup h1 h2 h3 h4 => .tup (hk _ _ h1 h2) h2 h3 (NOs.stay hk h4)
theorem NOs.stay {h h' : Heap} (hk : ∀ b o, h.get? b = some o → o.cls = .type "tuple" → h'.get? b = some o) : ∀ {ks : List NestedKey} {vs : List Value}, NOs h ks vs → NOs h' ks vs
  | _, _, .nil => .nil
  | _, _, .cons h1 h2 => .cons (h1.stay hk) (h2.stay hk)
end
theorem NOs.length {h : Heap} : ∀ {ks : List NestedKey} {vs : List Value}, NOs h ks vs → vs.length = ks.length
  | _, _, .nil => rfl
  | _, _, .cons _ h2 => by rw [List.length_cons, List.length_cons, h2.length]
theorem NOs.get {h : Heap} : ∀ {ks : List NestedKey} {vs : List Value}, NOs h ks vs → ∀ (j : Nat) (h1 : j < vs.length), ∃ k, ks[j]? = some k ∧ NO h k vs[j]
  | _, _, .nil, j, h1 => absurd h1 (Nat.not_lt_zero _)
  | _, _, .cons h1 h2, 0, _ => ⟨_, rfl, h1⟩
  | _, _, .cons h1 h2, j + 1, hj => by
    obtain ⟨k, a, b⟩ := h2.get j (Nat.lt_of_succ_lt_succ hj)
    exact ⟨k, by simpa using a, by simpa using b⟩
mutual
def kComp : NestedKey → NestedKey → Bool
  | .num _, .num _ => true
  | .text _, .text _ => true
  | .tup as, .tup bs => kComps as bs
  | _, _ => false
def kComps : List NestedKey → List NestedKey → Bool
  | a :: as, b :: bs => kComp a b && kComps as bs
  | _, _ => true
end
end Fz
set_option Elab.async false
set_option linter.all false
set_option maxRecDepth 100000
set_option maxHeartbeats 4000000
namespace Fz
open PySem PySem.Spec PyProof.Rows L2 PySem.SeqAt
def SortK (ks : List NestedKey) : Prop := (∀ k ∈ ks, ∃ a r, k = .tup (a :: r)) ∧ ∀ k ∈ ks, ∀ k' ∈ ks, kComp k k' = true
theorem SortK.perm {ks ls : List NestedKey} (h : SortK ks) (p : ∀ k ∈ ls, k ∈ ks) : SortK ls := ⟨fun k hk => h.1 k (p k hk), fun k hk k' hk' => h.2 k (p k hk) k' (p k' hk')⟩
section
variable {P : Program} {w : World} {A : Around} {E : Value → Shared → Prop} {s : Shared}
end
end Fz
set_option Elab.async false
set_option linter.all false
set_option maxRecDepth 100000
set_option maxHeartbeats 4000000
namespace Fz
open PySem L2 PySem.Spec PyProof.Rows PySem.SeqAt
end Fz
set_option Elab.async false
set_option linter.all false
set_option maxRecDepth 100000
set_option maxHeartbeats 4000000
namespace Fz
open PySem L2 PySem.Spec PyProof.Rows PySem.SeqAt
section
variable {P : Program} {w : World} {H : Hp} {h : Heap}
end
section
variable {P : Program} {w : World} {A : Around} {E : Value → Shared → Prop} {s : Shared}
end
end Fz
set_option Elab.async false
set_option linter.all false
set_option maxRecDepth 100000
set_option maxHeartbeats 4000000
namespace Fz
open PySem L2 PySem.Spec PyProof.Rows PySem.SeqAt
section
variable {X : Cx} {e : Expr} {es : List Expr} {t : TA} {T : Tab}
end
section
variable {ι : Type} {T : Tab} {E : L2.St → XK} {X : ι → Cx} {pos : Pos} {e : Expr} {fs : M (List D)}
end
end Fz
set_option Elab.async false
set_option linter.all false
set_option maxRecDepth 100000
set_option maxHeartbeats 4000000
namespace Fz
open PySem L2 PySem.Spec PyProof.Rows PySem.SeqAt
section
variable {ι : Type} {T : Tab} {E : L2.St → XK} {X : ι → Cx} {pos : Pos} {e e2 e3 : Expr} {fs : M (List D)}
end
end Fz
set_option Elab.async false
set_option linter.all false
set_option maxRecDepth 100000
set_option maxHeartbeats 4000000
namespace Fz
open PySem L2 PySem.Spec PyProof.Rows
section
variable {T : Tab} {B H : Hp}
end
section
variable {T : Tab} {E : L2.St → XK} {kp : Nat → Bool}
end
section
variable {T : Tab} {E : L2.St → XK} {fl : M (List Arg)}
end
section
variable {T : Tab} {B B' H : Hp}
end
section
variable {T : Tab} {E : L2.St → XK}
end
end Fz
set_option Elab.async false
set_option linter.all false
set_option maxRecDepth 100000
set_option maxHeartbeats 4000000
namespace Fz
open PySem L2
end Fz
set_option Elab.async false
set_option linter.all false
set_option maxRecDepth 100000
set_option maxHeartbeats 4000000
namespace Fz
open PySem L2 PySem.Spec PyProof.Rows PySem.SeqAt
section
variable {ι : Type} {T : Tab} {E : L2.St → XK} {X : ι → Cx} {pos : Pos} {e : Expr} {fs : M (List D)}
end
end Fz
set_option Elab.async false
set_option linter.all false
set_option maxRecDepth 100000
set_option maxHeartbeats 4000000
namespace Fz
open PySem L2 PySem.Spec PyProof.Rows
structure LamD where
  params : Arguments
  body : Expr
  scope : Scope
  qual : Str
  ps : List Str
  caps : List (Str × Nat)
def LamD.cl (L : LamD) (C : Addr) : List (Str × Addr) := L.caps.map fun p => (p.1, C + 1 + p.2)
def LamD.N (L : LamD) : List Str := L.ps ++ L.caps.map (·.1)
abbrev LamD.nf (L : LamD) (C c' : Addr) : NdefX.NF := ⟨"<lambda>", L.qual, L.params, [], L.scope, L.cl C, c'⟩
def kClo (i : Nat) : Nat := 1000 + 2 * i
def kCode (i : Nat) : Nat := 1001 + 2 * i
def CloO (L : LamD) (f : Addr) (xs : List V) : HO := .ext fun h => ∃ (C c' : Addr) (pm ctv : Value), xs = (L.caps.map fun p => V.ref (C + 1 + p.2)) ++ [.ref c'] ∧ (∀ p ∈ L.caps, C + 1 + p.2 < f) ∧ c' < f ∧
  h.get? f = some (PySem.W.kla_obj "<lambda>" L.qual L.params L.body L.scope (L.cl C) pm c' ctv)
def CelO (c : Addr) (xs : List V) : HO := .ext fun h => ∃ v u, xs = [v] ∧ RelV v u ∧ h.IsCell c (some u)
def CelB (j : Nat) (c : Addr) (xs : List V) : HO := .ext fun h => ∃ v u, xs = [v] ∧ RelV v u ∧ h.IsCell c (some u) ∧ ∀ b, v = .ref b → b + j < c
structure XoOk (T : Tab) (lam : Nat → Option LamD) : Prop where
  clo : ∀ i L f xs, lam i = some L → T.xo (kClo i) f xs = CloO L f xs
  cod : ∀ i L c xs, lam i = some L → T.xo (kCode i) c xs = CodeO c L.qual
  cel : ∀ c xs, T.xo 900 c xs = CelO c xs
  ceb : ∀ j c xs, j < 99 → T.xo (901 + j) c xs = CelB j c xs
  gf : ∀ k a, T.gf k a → 800 ≤ k ∧ k < 900
  no : ∀ k a xs, 800 ≤ k → k < 900 → T.xo k a xs = .ext fun _ => False
def kindOk (lam : Nat → Option LamD) (k : Nat) (ds : List D) : Bool :=
  if k < 900 then false else if k = 900 then imms ds else if k < 1000 then true else if k % 2 = 0 then (lam ((k - 1000) / 2)).isSome else (lam ((k - 1000) / 2)).isSome && ds.isEmpty
mutual
def okE (lam : Nat → Option LamD) : D → Bool
  | .ext k ds => kindOk lam k ds && okEs lam ds
  | d => imm d
def okEs (lam : Nat → Option LamD) : List D → Bool
  | [] => true
  | d :: ds => okE lam d && okEs lam ds
end
open Classical in
noncomputable def hidH (hid : Addr → Prop) (H : Hp) : Hp := fun a => if hid a then none else H a
open Classical in
noncomputable def unhH (hid : Addr → Prop) (H H' : Hp) : Hp := fun a => if hid a then H a else H' a
section
variable {hid : Addr → Prop} {H H' B : Hp} {a : Addr}
theorem hidH_in (h : hid a) : hidH hid H a = none := if_pos h
theorem hidH_out (h : ¬ hid a) : hidH hid H a = H a := if_neg h
theorem unhH_in (h : hid a) : unhH hid H H' a = H a := if_pos h
theorem unhH_out (h : ¬ hid a) : unhH hid H H' a = H' a := if_neg h
end
section
variable {P : Program} {w : World} {T : Tab} {lam : Nat → Option LamD} {B H : Hp} {h : Heap} {hid : Addr → Prop} {m : Nat}
theorem ext_at {φ : Heap → Prop} {a : Addr} (hok : HOk P w H h) (e : H a = some (.ext φ)) : φ h := (hok a _ e).1
mutual
theorem rep_rm (X : XoOk T lam) (hok : HOk P w H h) (eB : Ex B H) (hm : ∀ a, hid a → m ≤ a) (ht : ∀ a, hid a → ∀ xs, B a ≠ some (.tup xs)) : ∀ (d : D) {v : V}, okE lam d = true → (∀ b, v = .ref b → imm d = false → b < m) → Rep T B d v → Rep T (hidH hid B) d v
  | .ext k ds, v, ok, lt, r => by
    unfold okE at ok
    have ok := (Bool.and_eq_true _ _).mp ok
    unfold Rep at r ⊢
    obtain ⟨a, xs, rfl, h1, h2⟩ := r
    have lta := lt a rfl rfl
    have na : ¬ hid a := fun z => Nat.lt_irrefl _ (Nat.lt_of_lt_of_le lta (hm a z))
    refine ⟨a, xs, rfl, h1.imp (fun z => by rw [hidH_out na]; exact z) id, ?_⟩
    rcases h1 with h1 | ⟨e1, _⟩
    · have hH := eB a _ h1
      obtain ⟨kk, oks⟩ := ok
      unfold kindOk at kk
      split at kk
      · cases kk
      split at kk
      · exact imms_rep (fun b ys z => by
          rw [hidH_out (fun y => ht b y ys z)]; exact z) ds kk h2
      split at kk
      · obtain ⟨j, rfl⟩ : ∃ j, k = 901 + j := ⟨k - 901, by omega⟩
        rw [X.ceb j a xs (by omega)] at hH
        obtain ⟨v, u, e, _, _, lv⟩ := ext_at hok hH
        exact reps_rm X hok eB hm ht ds oks (fun b hb => by
          rw [e, List.mem_singleton] at hb
          exact Nat.lt_trans (Nat.lt_of_le_of_lt (Nat.le_add_right b j) (lv b hb.symm)) lta) h2
      split at kk
      · obtain ⟨L, hL⟩ := Option.isSome_iff_exists.mp kk
        have ek : k = kClo ((k - 1000) / 2) := by unfold kClo; omega
        rw [ek, X.clo _ L a xs hL] at hH
        obtain ⟨C, c', pm, ctv, e, l1, l2, _⟩ := ext_at hok hH
        exact reps_rm X hok eB hm ht ds oks (fun b hb => by
          rw [e, List.mem_append] at hb
          rcases hb with hb | hb
          · obtain ⟨p, hp, e2⟩ := List.mem_map.mp hb
            cases e2
            exact Nat.lt_trans (l1 p hp) lta
          · rw [List.mem_singleton] at hb
            cases hb
            exact Nat.lt_trans l2 lta) h2
      · have kk := (Bool.and_eq_true _ _).mp kk
        have e := List.isEmpty_iff.mp kk.2
        subst e
        exact h2
    · subst e1
      exact imms_rep (ds := [.bl true]) (fun b ys z => by rw [hidH_out (fun y => ht b y ys z)]; exact z) rfl h2
  | .non, v, ok, lt, r => r
  | .bl _, v, ok, lt, r => r
  | .int _, v, ok, lt, r => r
  | .str _, v, ok, lt, r => r
  | .tup ds, v, ok, lt, r => imm_rep (fun b ys z => by rw [hidH_out (fun y => ht b y ys z)]; exact z) (.tup ds) ok r
  | .lst _, v, ok, lt, r => by cases (show false = true from ok)
  | .obj _ _, v, ok, lt, r => by cases (show false = true from ok)
  | .dct _ _, v, ok, lt, r => by cases (show false = true from ok)
theorem reps_rm (X : XoOk T lam) (hok : HOk P w H h) (eB : Ex B H) (hm : ∀ a, hid a → m ≤ a) (ht : ∀ a, hid a → ∀ xs, B a ≠ some (.tup xs)) : ∀ (ds : List D) {vs : List V}, okEs lam ds = true → (∀ b, V.ref b ∈ vs → b < m) → Reps T B ds vs → Reps T (hidH hid B) ds vs
  | [], vs, ok, lt, r => r
  | d :: ds, vs, ok, lt, r => by
    unfold okEs at ok
    have ok := (Bool.and_eq_true _ _).mp ok
    unfold Reps at r ⊢
    obtain ⟨v, us, rfl, h1, h2⟩ := r
    exact ⟨v, us, rfl, rep_rm X hok eB hm ht d ok.1 (fun b e _ => lt b (by rw [e]; exact .head _)) h1, reps_rm X hok eB hm ht ds ok.2 (fun b hb => lt b (.tail _ hb)) h2⟩
end
end
end Fz
set_option Elab.async false
set_option linter.all false
set_option maxRecDepth 100000
set_option maxHeartbeats 4000000
namespace Fz
open PySem L2 PySem.Spec PyProof.Rows
def celK (j : Nat) (d : D) : Nat := if imm d = true then 900 else 901 + j
def cel (j : Nat) (d : D) : D := .ext (celK j d) [d]
def clo (i : Nat) (js : List Nat) (ds : List D) : D := .ext (kClo i) ((js.zip ds).map (fun p => cel p.1 p.2) ++ [.ext (kCode i) []])
def capsOf (i : Nat) : List (Str × Nat) → List D → Option (List D)
  | [], ds => (match ds with
    | [.ext k []] => if k = kCode i then some [] else none
    | _ => none)
  | p :: r, ds => (match ds with
    | .ext k [d] :: ds' => if k = celK p.2 d then (capsOf i r ds').map (d :: ·) else none
    | _ => none)
def immA : R → Bool
  | .d x => imm x
  | _ => false
def appF (lam : Nat → Option LamD) (gfs : Nat → Option (Nat × Fn)) (bd : Nat → M D) : Fn
  | .d (.ext k ds) :: args => if k < 1000 then
      (match ds, gfs k with
        | [.bl true], some F => if args.length = F.1 then (match F.2 args with
          | some (o, rs') => some (o, .d (.ext k ds) :: rs')
          | none => none) else none
        | _, _ => none)
    else if k % 2 = 0 then
      (match lam ((k - 1000) / 2) with
        | some L => (match capsOf ((k - 1000) / 2) L.caps ds with
          | some cs => if okEs lam cs = true ∧ args.all immA = true ∧ args.length = L.ps.length then
              (match bd ((k - 1000) / 2) (args.map some ++ cs.map fun d => some (.d d)) with
                | some (.v x, _) => some (.v (.d x), .d (.ext k ds) :: args)
                | _ => none)
            else none
          | none => none)
        | none => none)
    else none
  | _ => none
structure LamOk (L : LamD) : Prop where
  sc : NdefX.NScope L.N L.ps (L.caps.map (·.1)) L.scope
  bind : ∀ (cl : List (Str × Addr)) (pm cv ctv : Value) (us : List Value), us.length = L.ps.length → bindArgs (PySem.W.kla_fn "<lambda>" L.qual L.params L.body L.scope cl pm cv ctv) ⟨us, []⟩ = pure (L.ps.zip us)
  nd : (L.caps.map (·.1)).Nodup
  pl : (L.caps.map (·.2)).Nodup
  few : ∀ p ∈ L.caps, p.2 < 99
def DoesL (P : Program) (w : World) (T : Tab) (mg : Str → Option Value) (base : Heap) (k : Nat) (L : LamD) (f : M D) : Prop :=
  ∀ (C c' fa : Addr) (A : Around) (outer : List Env) (s : Shared) (H : Hp), Room k (A.deeper (NdefX.envF (L.nf C c') fa s.heap.objs.size)) →
    XE T (fun _ => E0) (fun _ : Unit => NdefX.ncx (L2.CX P w) P w T.K mg base L.N (L.nf C c') fa A outer s H E0) L.body f
def spV (T : Tab) (f : Fn) : Sp := fun vs H Q E => sp T vs.length f vs H Q E
structure FnV (P : Program) (w : World) (K : PySem.W.Frag) (mg : Str → Option Value) (base : Heap) (CX : CXT) (k : Nat) (sp : Sp) : Prop where
  run : ∀ (A : Around) (outer : List Env) (s : Shared) (H : Hp) (f : Addr) (us : List Value) (vs : List V) (Q : VK) (E : XK), Room k A → Env0 P w K mg base A outer s H → Vals vs us → sp (.ref f :: vs) H Q E →
    codeAny (model P w) A (.call (.ref f) ⟨us, []⟩) (CR CX outer P w H s Q E) s
section
variable {P : Program} {w : World} {T : Tab} {lam : Nat → Option LamD} {B H : Hp} {h : Heap}
theorem caps_reps (X : XoOk T lam) (hok : HOk P w H h) (eB : Ex B H) {i : Nat} {L : LamD} (hL : lam i = some L) {C c' : Addr} : ∀ {caps : List (Str × Nat)} {ds cs : List D}, (∀ p ∈ caps, p.2 < 99) → capsOf i caps ds = some cs → Reps T B ds ((caps.map fun p => V.ref (C + 1 + p.2)) ++ [.ref c']) →
    B c' = some (CodeO c' L.qual) ∧ ∃ ws, Reps T B cs ws ∧ Paired (fun (p : Str × Nat) (q : D × V) => (∃ u, RelV q.2 u ∧ h.IsCell (C + 1 + p.2) (some u)) ∧ (∃ φ, B (C + 1 + p.2) = some (.ext φ)) ∧ (imm q.1 = false → ∀ b, q.2 = .ref b → b < C + 1)) caps (cs.zip ws)
  | [], ds, cs, few, h1, h2 => by
    unfold capsOf at h1
    split at h1
    · split at h1
      · rename_i ek
        cases h1
        subst ek
        unfold Reps at h2
        obtain ⟨v, r, e, h3, h4⟩ := h2
        cases e
        unfold Rep at h3
        obtain ⟨a, xs, e, h5, h6⟩ := h3
        cases e
        have h5 := h5.resolve_right fun z => (nomatch z.1)
        rw [X.cod i L _ _ hL] at h5
        exact ⟨h5, [], reps_nil, .nil⟩
      · cases h1
    · cases h1
  | p :: caps, ds, cs, few, h1, h2 => by
    unfold capsOf at h1
    split at h1
    · rename_i k d ds'
      split at h1
      · rename_i ek
        obtain ⟨cs', e1, rfl⟩ := Option.map_eq_some_iff.mp h1
        unfold Reps at h2
        obtain ⟨v, rr, e, h3, h4⟩ := h2
        rw [List.map_cons, List.cons_append] at e
        cases e
        obtain ⟨g1, ws, g2, g3⟩ := caps_reps X hok eB hL (fun q hq => few q (.tail _ hq)) e1 h4
        unfold Rep at h3
        obtain ⟨a, xs, e, h5, h6⟩ := h3
        cases e
        have h5 := h5.resolve_right fun z => by
          have := (X.gf _ _ z.2).2
          rw [ek] at this
          unfold celK at this
          split at this <;> omega
        unfold Reps at h6
        obtain ⟨w', r', e, h7, h8⟩ := h6
        unfold Reps at h8
        subst h8
        subst e
        refine ⟨g1, w' :: ws, reps_cons h7 g2, .cons ?_ g3⟩
        unfold celK at ek
        split at ek
        · rename_i im
          subst ek
          rw [X.cel] at h5
          obtain ⟨v2, u, e, r, ic⟩ := ext_at hok (eB _ _ h5)
          cases e
          exact ⟨⟨u, r, ic⟩, ⟨_, h5⟩, fun z => by rw [im] at z; cases z⟩
        · subst ek
          rw [X.ceb _ _ _ (few p (.head _))] at h5
          obtain ⟨v2, u, e, r, ic, lt⟩ := ext_at hok (eB _ _ h5)
          cases e
          refine ⟨⟨u, r, ic⟩, ⟨_, h5⟩, fun _ b e => ?_⟩
          have := lt b e
          exact Nat.lt_of_add_lt_add_right (Nat.lt_of_lt_of_le this (by exact Nat.le_refl _))
      · cases h1
    · cases h1
theorem hok_hide {hid : Addr → Prop} (hok : HOk P w H h) (hx : ∀ a, hid a → ∃ φ, H a = some (.ext φ)) : HOk P w (hidH hid H) h := fun a u e => by
  by_cases z : hid a
  · rw [hidH_in z] at e; cases e
  · rw [hidH_out z] at e
    refine (hok a u e).stay (fun b o _ q => q) (fun b q => ?_) fun b xs q => ?_
    · rw [hidH_out]
      · exact q
      · intro y
        obtain ⟨φ, hy⟩ := hx b y
        rw [q] at hy; cases hy
    · rw [hidH_out]
      · exact q
      · intro y
        obtain ⟨φ, hy⟩ := hx b y
        rw [q] at hy; cases hy
theorem hok_unhide {hid : Addr → Prop} {H' : Hp} {h' : Heap} (hok : HOk P w H h) (hok' : HOk P w H' h') (hx : ∀ a, hid a → ∃ φ, H a = some (.ext φ)) (hn : ∀ a, hid a → H' a = none) (kp : ∀ a o, hid a → h.get? a = some o → h'.get? a = some o) : HOk P w (unhH hid H H') h' := fun a u e => by
  by_cases z : hid a
  · rw [unhH_in z] at e
    obtain ⟨φ, hy⟩ := hx a z
    rw [hy] at e; cases e
    obtain ⟨p, ⟨o, ho⟩, st⟩ := hok a _ hy
    exact ⟨st _ _ p fun o q => kp a o z q, ⟨o, kp a o z ho⟩, st⟩
  · rw [unhH_out z] at e
    refine (hok' a u e).stay (fun b o _ q => q) (fun b q => ?_) fun b xs q => ?_
    · rw [unhH_out]
      · exact q
      · intro y; rw [hn b y] at q; cases q
    · rw [unhH_out]
      · exact q
      · intro y; rw [hn b y] at q; cases q
theorem sim_unhide {hid : Addr → Prop} {st : Sl} {σ : L2.St} {B' F H' : Hp} {x : D} {v : V} (S0 : Sim T st σ B F H) (hd : ∀ (i : Nat) r, st[i]? = some (some r) → isD r = true) (hx : ∀ a, hid a → B a = H a ∧ ∃ φ, H a = some (.ext φ)) (e : Ex (hidH hid B) B') (eH : Ex B' H') (hn : ∀ a, hid a → H' a = none)
    (eF : Ex F H') (dis : ∀ a o, F a = some o → B' a = none) (tup : ∀ a xs, H' a = some (.tup xs) → B' a = some (.tup xs)) {F1 : Hp} (tb : TbOk T B' F1 H') (rx : Rep T B' x v) :
    Ex B (unhH hid B B') ∧ Sim T (some (.d x) :: st) (some v :: σ) (unhH hid B B') F (unhH hid H H') := by
  have nB : ∀ a, hid a → B' a = none := fun a z => eH.free (hn a z)
  have e1 : Ex B (unhH hid B B') := fun a o q => by
    by_cases z : hid a
    · rw [unhH_in z]; exact q
    · rw [unhH_out z]; exact e a o (by rw [hidH_out z]; exact q)
  have e2 : Ex B' (unhH hid B B') := fun a o q => by
    by_cases z : hid a
    · rw [nB a z] at q; cases q
    · rw [unhH_out z]; exact q
  have S : Sim T st σ (unhH hid B B') F (unhH hid H H') := by
    have noO : ∀ {i : Nat} {r : R} {v : V} {b : Addr} {H2 : Hp}, st[i]? = some (some r) → Ow H2 r v b → False := fun {i r v b H2} g o => by
      have := hd i r g
      cases r <;> first | exact o.elim | cases this
    refine ⟨fun a o q => ?_, fun a o q => ?_, fun a o q => ?_, fun a xs q => ?_, S0.len, fun i r g => ?_, fun i r v b g1 _ g3 => (noO g1 g3).elim, fun i j r q v u b _ g1 _ _ _ g5 _ => noO g1 g5, ⟨S0.tbs.noF, fun p hp => ?_⟩⟩
    · by_cases z : hid a
      · rw [unhH_in z] at q ⊢; exact S0.exB a o q
      · rw [unhH_out z] at q ⊢; exact eH a o q
    · by_cases z : hid a
      · rw [unhH_in z]; exact S0.exF a o q
      · rw [unhH_out z]; exact eF a o q
    · by_cases z : hid a
      · rw [unhH_in z]; exact S0.dis a o q
      · rw [unhH_out z]; exact dis a o q
    · by_cases z : hid a
      · rw [unhH_in z] at q
        obtain ⟨_, φ, hy⟩ := hx a z
        rw [hy] at q; cases q
      · rw [unhH_out z] at q ⊢; exact tup a xs q
    · obtain ⟨v, g1, g2⟩ := S0.rel i r g
      refine ⟨v, g1, ?_⟩
      have := hd i r g
      cases r with
      | d y => exact Rep.mono e1 y g2
      | _ => cases this
    · obtain ⟨h1, ps, h3, h4, h5⟩ := tb.tab p hp
      have np : ¬ hid p.1 := fun z => by rw [hn _ z] at h3; cases h3
      refine ⟨by rw [unhH_out np]; exact h1, ps, by rw [unhH_out np]; exact h3, h4, fun pos cv hc => ?_⟩
      obtain ⟨c, a1, b1⟩ := h5 pos cv hc
      exact ⟨c, a1, e2 _ _ b1⟩
  exact ⟨e1, S.push (Rep.mono e2 x rx)⟩
end
end Fz
set_option Elab.async false
set_option linter.all false
set_option maxRecDepth 100000
set_option maxHeartbeats 4000000
namespace Fz
open PySem L2 PySem.Spec PyProof.Rows
section
variable {P : Program} {w : World} {T : Tab} {mg : Str → Option Value} {base : Heap} {lam : Nat → Option LamD} {k : Nat}
theorem env0_sub {K : PySem.W.Frag} {A : Around} {outer : List Env} {s : Shared} {H : Hp} {hid : Addr → Prop} (e0 : Env0 P w K mg base A outer s H) (hx : ∀ a, hid a → ∃ φ, H a = some (.ext φ)) : Env0 P w K mg base A outer s (hidH hid H) where
  frames := e0.frames
  mod := e0.mod
  bs := fun b o e => ⟨(e0.bs b o e).1, by
    by_cases z : hid b
    · exact hidH_in z
    · rw [hidH_out z]; exact (e0.bs b o e).2⟩
  bsz := e0.bsz
  funs := e0.funs
  frf := fun b hb => by
    by_cases z : hid b
    · exact hidH_in z
    · rw [hidH_out z]; exact e0.frf b hb
  hok := hok_hide e0.hok hx
  bare := e0.bare
theorem paired_at {α β : Type} {R : α → β → Prop} : ∀ {xs : List α} {ys : List β} {k : Nat}, Paired R xs ys → ∀ {b : β}, ys[k]? = some b → ∃ a, xs[k]? = some a ∧ R a b
  | _, _, _, .nil, _, h => by simp at h
  | _, _, 0, .cons r t, _, h => by simp at h; subst h; exact ⟨_, rfl, r⟩
  | _, _, k + 1, .cons r t, _, h => by obtain ⟨b, e, q⟩ := paired_at (k := k) t (by simpa using h); exact ⟨b, by simpa using e, q⟩
theorem immA_reps {T : Tab} {st : List R} {σ : List V} {B F H : Hp} (S : Sim T (st.map some) (σ.map some) B F H) (h : st.all immA = true) {B' : Hp} (e : ∀ a xs, B a = some (.tup xs) → B' a = some (.tup xs)) {i : Nat} {r : R} (hi : st[i]? = some r) : ∃ x v, r = .d x ∧ σ[i]? = some v ∧ Rep T B' x v := by
  have := List.all_eq_true.mp h r (List.mem_of_getElem? hi)
  obtain ⟨v, hv, rel⟩ := S.rel i r (by rw [List.getElem?_map, hi]; rfl)
  rw [List.getElem?_map] at hv
  cases ev : σ[i]? with
  | none => rw [ev] at hv; cases hv
  | some v' =>
    rw [ev] at hv; cases hv
    cases r with
    | d x => exact ⟨x, v, rfl, rfl, imm_rep e x this rel⟩
    | _ => cases this
theorem inj_of_nodup' {α β : Type} {g : α → β} : ∀ {l : List α}, (l.map g).Nodup → ∀ {a b : α}, a ∈ l → b ∈ l → g a = g b → a = b
  | x :: l, h, a, b, ha, hb, e => by
    have h' := List.nodup_cons.mp (by rw [List.map_cons] at h; exact h)
    rcases List.mem_cons.mp ha with e1 | ha
    · rcases List.mem_cons.mp hb with e2 | hb
      · rw [e1, e2]
      · exact absurd (List.mem_map.mpr ⟨b, hb, by rw [← e, e1]⟩) h'.1
    · rcases List.mem_cons.mp hb with e2 | hb
      · exact absurd (List.mem_map.mpr ⟨a, ha, by rw [e, e2]⟩) h'.1
      · exact inj_of_nodup' h'.2 ha hb e
theorem lookup_nodup {g : Nat → Addr} : ∀ {l : List (Str × Nat)}, (l.map (·.1)).Nodup → ∀ {p : Str × Nat}, p ∈ l → (l.map fun p => (p.1, g p.2)).lookup p.1 = some (g p.2)
  | q :: l, h, p, hp => by
    rw [List.map_cons] at h
    have h := List.nodup_cons.mp h
    rw [List.map_cons, List.lookup_cons]
    rcases List.mem_cons.mp hp with rfl | hp
    · simp
    · have : (p.1 == q.1) = false := by
        cases e : p.1 == q.1 with
        | false => rfl
        | true => exact absurd (List.mem_map.mpr ⟨p, hp, eq_of_beq e⟩) h.1
      rw [this]
      exact lookup_nodup h.2 hp
theorem clo_run (X : XoOk T lam) {i : Nat} {L : LamD} (hL : lam i = some L) (ok : LamOk L) {fb : M D} (hb : DoesL P w T mg base k L fb) {A : Around} {outer : List Env} {s : Shared} {H : Hp} {f : Addr} {us : List Value} {vs : List V} {Q : VK} {E : XK} {ds cs : List D} {args : List R} {B F : Hp} {x : D} {s' : Sl}
    (hr : Room (k + 1) A) (e0 : Env0 P w T.K mg base A outer s H) (r : Vals vs us) (S : Sim T ((.d (.ext (kClo i) ds) :: args).map some) ((V.ref f :: vs).map some) B F H)
    (hc : capsOf i L.caps ds = some cs) (oc : okEs lam cs = true) (im : args.all immA = true) (hl : args.length = L.ps.length) (hf : fb (args.map some ++ cs.map fun d => some (.d d)) = some (.v x, s')) (hq : Okf T (.v (.d x)) (.d (.ext (kClo i) ds) :: args) (V.ref f :: vs) B F Q E) :
    codeAny (model P w) A (.call (.ref f) ⟨us, []⟩) (CR (L2.CX P w) outer P w H s Q E) s := by
  have lim : s.heap.NoLimit := e0.mod.nolimit.keeps fun b o e => (e0.bs b o e).1
  have hl2 : vs.length = L.ps.length := by
    have := S.len
    simp at this
    omega
  -- what stands at f
  obtain ⟨v0, hv0, r0⟩ := S.rel 0 (.d (.ext (kClo i) ds)) rfl
  cases hv0
  have r0 : Rep T B (.ext (kClo i) ds) (.ref f) := r0
  unfold Rep at r0
  obtain ⟨a, xs, ea, h1, h2⟩ := r0
  cases ea
  have h1 := h1.resolve_right fun z => by
    have := (X.gf _ _ z.2).2
    unfold kClo at this
    omega
  rw [X.clo i L _ _ hL] at h1
  obtain ⟨C, c', pm, ctv, rfl, lt1, lt2, ho⟩ := ext_at e0.hok (S.exB _ _ h1)
  obtain ⟨bc, ws, rw', pw⟩ := caps_reps X e0.hok S.exB hL ok.few hc h2
  have lw : cs.length = ws.length := rw'.length
  have lc : L.caps.length = cs.length := by
    have := pw.length
    rw [List.length_zip] at this
    omega
  -- the hidden cells
  obtain ⟨hid, hhid⟩ : ∃ hid : Addr → Prop, hid = fun a => ∃ p ∈ L.caps, a = C + 1 + p.2 := ⟨_, rfl⟩
  have cellOf : ∀ p ∈ L.caps, (∃ u, s.heap.IsCell (C + 1 + p.2) (some u)) ∧ ∃ φ, B (C + 1 + p.2) = some (.ext φ) := fun p hp => by
    obtain ⟨j, hj⟩ := List.mem_iff_getElem?.mp hp
    obtain ⟨q, _, ⟨u, _, ic⟩, z, _⟩ := paired_get pw hj
    exact ⟨⟨u, ic⟩, z⟩
  have hxB : ∀ a, hid a → ∃ φ, B a = some (.ext φ) := fun a z => by
    subst hhid
    obtain ⟨p, hp, rfl⟩ := z
    exact (cellOf p hp).2
  have hx : ∀ a, hid a → ∃ φ, H a = some (.ext φ) := fun a z => let ⟨φ, h⟩ := hxB a z; ⟨φ, S.exB a _ h⟩
  have hcell : ∀ a, hid a → ∃ u, s.heap.IsCell a (some u) := fun a z => by
    subst hhid
    obtain ⟨p, hp, rfl⟩ := z
    exact (cellOf p hp).1
  have hge : ∀ a, hid a → C + 1 ≤ a := fun a z => by
    subst hhid
    obtain ⟨p, hp, rfl⟩ := z
    exact Nat.le_add_right _ _
  have ncode : ∀ {a : Addr} {q : Str}, B a = some (CodeO a q) → ¬ hid a := fun {a q} h z => by
    obtain ⟨oc', vs', t, g1, g2, _⟩ := ext_at e0.hok (S.exB _ _ h)
    obtain ⟨u, o, g3, g4⟩ := hcell a z
    rw [g1] at g3; cases g3
    rw [g2] at g4; cases g4
  have e0' := env0_sub e0 hx
  have ntup : ∀ a, hid a → ∀ xs, B a ≠ some (.tup xs) := fun a z xs h => by
    obtain ⟨φ, g⟩ := hxB a z
    rw [h] at g; cases g
  have tB : ∀ a xs, B a = some (.tup xs) → hidH hid B a = some (.tup xs) := fun a xs h => by
    rw [hidH_out fun z => ntup a z xs h]; exact h
  have eBm : Ex (hidH hid B) (hidH hid H) := fun a o h => by
    by_cases z : hid a
    · rw [hidH_in z] at h; cases h
    · rw [hidH_out z] at h ⊢; exact S.exB a o h
  -- the captured values stand without the cells
  have rcs : Reps T (hidH hid B) cs ws := by
    have go : ∀ (ds : List D) (vs : List V), okEs lam ds = true → Reps T B ds vs → (∀ (j : Nat) d v, ds[j]? = some d → vs[j]? = some v → imm d = false → ∀ b, v = .ref b → b < C + 1) → Reps T (hidH hid B) ds vs := by
      intro ds
      induction ds with
      | nil => exact fun vs _ h _ => h
      | cons d ds ih =>
        intro vs ok' h g
        unfold okEs at ok'
        have ok' := (Bool.and_eq_true _ _).mp ok'
        unfold Reps at h ⊢
        obtain ⟨v, us, rfl, h1, h2⟩ := h
        exact ⟨v, us, rfl, rep_rm X e0.hok S.exB hge ntup d ok'.1 (fun b e im => g 0 d v rfl rfl im b e) h1, ih us ok'.2 h2 fun j d v g1 g2 => g (j + 1) d v g1 g2⟩
    refine go cs ws oc rw' fun j d v g1 g2 im b e => ?_
    have hz : (cs.zip ws)[j]? = some (d, v) := by
      rw [List.getElem?_zip_eq_some]
      exact ⟨g1, g2⟩
    obtain ⟨p, _, _, _, lt⟩ := paired_at pw hz
    exact lt im b e
  have CA : NdefX.CellsAt (L.cl C) (L.caps.map (·.1)) (ws.map some) s.heap (hidH hid H) := by
    have look : ∀ {y : Str} {c : Addr}, (L.cl C).lookup y = some c → ∃ p ∈ L.caps, p.1 = y ∧ c = C + 1 + p.2 := fun {y c} h => by
      have := PySem.mem_of_lookup h
      obtain ⟨p, hp, e⟩ := List.mem_map.mp this
      cases e
      exact ⟨p, hp, rfl, rfl⟩
    refine ⟨by rw [List.length_map, List.length_map]; omega, fun y c h => ?_, fun y z c h1 h2 => ?_, fun j y hy => ?_⟩
    · obtain ⟨p, hp, _, rfl⟩ := look h
      obtain ⟨⟨u, ic⟩, _⟩ := cellOf p hp
      exact ⟨hidH_in (by subst hhid; exact ⟨p, hp, rfl⟩), some u, ic⟩
    · obtain ⟨p, hp, rfl, e1⟩ := look h1
      obtain ⟨q, hq, rfl, e2⟩ := look h2
      rw [e1] at e2
      have e3 : p.2 = q.2 := Nat.add_left_cancel e2
      rw [inj_of_nodup' ok.pl hp hq e3]
    · rw [List.getElem?_map] at hy
      cases hp : L.caps[j]? with
      | none => rw [hp] at hy; cases hy
      | some p =>
        rw [hp] at hy; cases hy
        refine ⟨C + 1 + p.2, lookup_nodup (g := fun j => C + 1 + j) ok.nd (List.mem_of_getElem? hp), fun v hv => ?_⟩
        obtain ⟨q, hq, ⟨u, ru, ic⟩, _, _⟩ := paired_get pw hp
        rw [List.getElem?_zip_eq_some] at hq
        rw [List.getElem?_map, hq.2] at hv
        cases hv
        exact ⟨u, ru, ic⟩
  obtain ⟨Q', eQ'⟩ : ∃ Q' : VK, Q' = fun v H' => (∀ a, hid a → H' a = none) → Q v (unhH hid H H') := ⟨_, rfl⟩
  have nF : ∀ a o, F a = some o → ¬ hid a := fun a o h z => by
    obtain ⟨φ, g⟩ := hxB a z
    rw [S.dis a o h] at g; cases g
  have est : NdefX.startF L.N vs (ws.map some) = (vs ++ ws).map some := by
    unfold NdefX.startF LamD.N
    rw [List.map_append, show (L.ps ++ L.caps.map (·.1)).length - vs.length - (ws.map some).length = 0 by rw [List.length_append, List.length_map, List.length_map]; omega]
    simp
  have Sb : Sim T (args.map some ++ cs.map fun d => some (.d d)) ((vs ++ ws).map some) (hidH hid B) F (hidH hid H) := by
    have Sp : Sim T (args.map some) (vs.map some) B F H := S.pop
    have la : args.length = vs.length := by omega
    have isd : ∀ (j : Nat) r, (args.map some ++ cs.map fun d => some (R.d d))[j]? = some (some r) → ∃ y v, r = .d y ∧ ((vs ++ ws).map some)[j]? = some (some v) ∧ Rep T (hidH hid B) y v := fun j r g => by
      by_cases hj : j < args.length
      · rw [List.getElem?_append_left (by simpa using hj), List.getElem?_map] at g
        cases e : args[j]? with
        | none => rw [e] at g; cases g
        | some r' =>
          rw [e] at g; cases g
          obtain ⟨y, v, e1, e2, e3⟩ := immA_reps Sp im tB e
          exact ⟨y, v, e1, by rw [List.map_append, List.getElem?_append_left (by rw [List.length_map]; omega), List.getElem?_map, e2]; rfl, e3⟩
      · rw [List.getElem?_append_right (by simpa using hj), List.length_map, List.getElem?_map] at g
        cases e : cs[j - args.length]? with
        | none => rw [e] at g; cases g
        | some d =>
          rw [e] at g; cases g
          obtain ⟨v, e2, e3⟩ := rcs.get e
          exact ⟨d, v, rfl, by rw [List.map_append, List.getElem?_append_right (by rw [List.length_map]; omega), List.length_map, ← la, List.getElem?_map, e2]; rfl, e3⟩
    refine ⟨eBm, fun a o h => by rw [hidH_out (nF a o h)]; exact S.exF a o h, fun a o h => ?_, fun a xs h => ?_, by simp; omega, fun j r g => ?_, fun j r v b g1 _ g3 => ?_, fun i j r q v u b _ g1 _ _ _ g5 _ => ?_, ⟨S.tbs.noF, fun p hp => ?_⟩⟩
    · rw [hidH_out (nF a o h)]; exact S.dis a o h
    · by_cases z : hid a
      · rw [hidH_in z] at h; cases h
      · rw [hidH_out z] at h ⊢; exact S.tup a xs h
    · obtain ⟨y, v, rfl, g1, g2⟩ := isd j r g
      exact ⟨v, g1, g2⟩
    · obtain ⟨y, v, rfl, _, _⟩ := isd j r g1
      exact g3.elim
    · obtain ⟨y, v, rfl, _, _⟩ := isd i r g1
      exact g5.elim
    · obtain ⟨h1, ps, h3, h4, h5⟩ := S.tbs.tab p hp
      have np : ¬ hid p.1 := fun z => by
        obtain ⟨φ, g⟩ := hxB _ z
        rw [h1] at g; cases g
      refine ⟨by rw [hidH_out np]; exact h1, ps, by rw [hidH_out np]; exact h3, h4, fun pos cv hc => ?_⟩
      obtain ⟨c, a1, b1⟩ := h5 pos cv hc
      exact ⟨c, a1, by rw [hidH_out (ncode b1)]; exact b1⟩
  have hdS : ∀ (i' : Nat) r, ((R.d (.ext (kClo i) ds) :: args).map some)[i']? = some (some r) → isD r = true := fun i' r g => by
    rw [List.getElem?_map] at g
    cases e : (R.d (.ext (kClo i) ds) :: args)[i']? with
    | none => rw [e] at g; cases g
    | some r' =>
      rw [e] at g; cases g
      rcases List.mem_cons.mp (List.mem_of_getElem? e) with rfl | hm
      · rfl
      · have := List.all_eq_true.mp im _ hm
        cases r <;> first | rfl | cases this
  have rc : codeAny (model P w) A (.call (.ref f) ⟨us, []⟩) (CR (L2.CX P w) outer P w (hidH hid H) s Q' E0) s := by
    refine PySem.W.kla_callFunE hr.depth ho rfl ok.sc.co ok.sc.gen rfl (NdefX.codeO_at e0.hok (S.exB _ _ bc)) ?_
    rw [ok.bind _ _ _ _ us (by rw [← r.length]; exact hl2)]
    refine wpAny_pure (wpAny_newFunctionEnv ok.sc.nocell (fun ⟨n, _⟩ hy => ok.sc.par n (List.of_mem_zip hy).1) (fun h₁ hns hsb => ⟨lim.fresh _ hsb, ?_⟩) ok.sc.kind)
    show codeAny _ _ (.expr L.body (NdefX.envF (L.nf C c') f s.heap.objs.size)) _ _
    have kp : ∀ b o, s.heap.get? b = some o → h₁.get? b = some o := fun b o e => hsb.extBut b o (Nat.ne_of_lt (Heap.lt_size e)) (Heap.get?_push_of_some _ e)
    have J : Inv (NdefX.ncx (L2.CX P w) P w T.K mg base L.N (L.nf C c') f A outer s (hidH hid H) E0) [] (NdefX.startF L.N vs (ws.map some)) (hidH hid H) { s with heap := h₁, toks := s.toks + (L.ps.zip us).length } := NdefX.inv_startN (F := L.nf C c') ok.sc hr.hd e0' hl2 r CA hns kp
    obtain ⟨te, p1, p2⟩ := hb C c' f A outer s (hidH hid H) (hr.deeper _)
    have ht : te (NdefX.startF L.N vs (ws.map some)) (hidH hid H) Q' := by
      rw [est]
      refine p2 _ _ (hidH hid B) F (hidH hid H) Sb _ _ hf _ fun B' H' e1 S' v rv => ?_
      rw [eQ']
      intro hn
      obtain ⟨e2, S2⟩ := sim_unhide (B := B) (H := H) (hid := hid) S hdS (fun a z => by
        obtain ⟨φ, g⟩ := hxB a z
        exact ⟨by rw [g, S.exB a _ g], φ, S.exB a _ g⟩) e1 S'.exB hn S'.exF S'.dis S'.tup S'.tbs rv
      exact hq v _ _ e2 S2
    refine PySem.W.kla_codeExpr (wpAny_mono ((p1 ()).run [] _ _ (hidH hid H) Q' J ht) (fun v s' hq => ?_) fun e s' hq => hq)
    obtain ⟨w', H', J', rv, q⟩ := hq
    exact ⟨w', H', J'.os, J'.bare, J'.base, J'.hok, rv, q⟩
  refine codeAny_mono rc fun r' s' h => ?_
  cases r' with
  | error e =>
    obtain ⟨_, _, _, _, _, _, _, _, _, _, _, _, z⟩ := h
    exact z.elim
  | ok fl =>
    cases fl with
    | next => exact False.elim h
    | brk => exact False.elim h
    | cont => exact False.elim h
    | ret u =>
      obtain ⟨v, H', os, bare, un, hok', rv, q⟩ := h
      have hn : ∀ a, hid a → H' a = none := fun a z => by
        obtain ⟨u', o, ho', _⟩ := hcell a z
        exact un.free a o ho' (hidH_in z) (by simp)
      have nfr : ∀ a, hid a → a ∉ frs outer := fun a z hm => by
        have := e0.frf a hm
        obtain ⟨φ, g⟩ := hx a z
        rw [this] at g; cases g
      rw [eQ'] at q
      refine ⟨v, unhH hid H H', os, bare, ⟨fun b o e n nf nx => ?_, fun b o e n hb nx => ?_, fun b o e n nx => ?_, fun b o e nx => un.there b o e nx, fun b xs e => ?_, fun b o u e => ?_, fun b ps e => ?_⟩, ?_, rv, q hn⟩
      · refine un.keep b o e ?_ nf nx
        by_cases z : hid b
        · exact hidH_in z
        · rw [hidH_out z]; exact n
      · refine un.slot b o e ?_ hb nx
        by_cases z : hid b
        · exact hidH_in z
        · rw [hidH_out z]; exact n
      · by_cases z : hid b
        · rw [unhH_in z]; exact n
        · rw [unhH_out z]; exact un.free b o e (by rw [hidH_out z]; exact n) nx
      · have z : ¬ hid b := fun z => by
          obtain ⟨φ, g⟩ := hx b z
          rw [e] at g; cases g
        rw [unhH_out z]; exact un.tups b xs (by rw [hidH_out z]; exact e)
      · have z : ¬ hid b := fun z => by
          obtain ⟨φ, g⟩ := hx b z
          rw [e] at g; cases g
        rw [unhH_out z]; exact un.frzs b o u (by rw [hidH_out z]; exact e)
      · have z : ¬ hid b := fun z => by
          obtain ⟨φ, g⟩ := hx b z
          rw [e] at g; cases g
        rw [unhH_out z]; exact un.tbls b ps (by rw [hidH_out z]; exact e)
      · exact hok_unhide e0.hok hok' hx hn fun a o z e => un.keep a o e (hidH_in z) (nfr a z) (by simp)
end
end Fz
set_option Elab.async false
set_option linter.all false
set_option maxRecDepth 100000
set_option maxHeartbeats 4000000
namespace Fz
open PySem L2 PySem.Spec PyProof.Rows
def FnC (K : PySem.W.Frag) (H : Hp) (f : Addr) : Prop := (∃ L xs, H f = some (CloO L f xs)) ∨ H f = some (.ext fun _ => False) ∨ ∃ (oc : Value) (od : Option Addr) (fd : FuncData) (sl : Array (Option Value)), K.lookup f = some ⟨oc, od, .func fd, sl⟩
theorem fnC_at {P : Program} {w : World} {K : PySem.W.Frag} {H : Hp} {h : Heap} {f : Addr} (hok : HOk P w H h) (hK : K.In h) (c : FnC K H f) : PySem.W.FnAt f h := by
  rcases c with ⟨L, xs, e⟩ | e | ⟨oc, od, fd, sl, e⟩
  · obtain ⟨C, c', pm, ctv, _, _, _, ho⟩ := ext_at hok e
    exact ⟨_, _, _, _, ho⟩
  · exact (ext_at hok e).elim
  · exact ⟨oc, od, fd, sl, hK _ _ e⟩
def isFn (lam : Nat → Option LamD) : D → Bool
  | .ext k _ => (decide (800 ≤ k) && decide (k < 900)) || (decide (1000 ≤ k) && (decide (k % 2 = 0) && (lam ((k - 1000) / 2)).isSome))
  | _ => false
structure GfOk (P : Program) (w : World) (T : Tab) (mg : Str → Option Value) (base : Heap) (gfs : Nat → Option (Nat × Fn)) (k : Nat) : Prop where
  fn : ∀ i F, gfs i = some F → ∀ a, T.gf i a → ∃ fd ps, FnOk P w T.K mg base (L2.CX P w) k a fd ps (sp T F.1 F.2) ∧ Binds T.K fd ps [] ∧ ps.length = F.1
  at_ : ∀ i a, T.gf i a → ∃ (oc : Value) (od : Option Addr) (fd : FuncData) (sl : Array (Option Value)), T.K.lookup a = some ⟨oc, od, .func fd, sl⟩
  rng : ∀ i F, gfs i = some F → 800 ≤ i ∧ i < 900
section
variable {P : Program} {w : World} {T : Tab} {mg : Str → Option Value} {base : Heap} {lam : Nat → Option LamD} {gfs : Nat → Option (Nat × Fn)} {bd : Nat → M D} {k : Nat}
theorem isFn_at (X : XoOk T lam) (G : ∀ i a, T.gf i a → ∃ (oc : Value) (od : Option Addr) (fd : FuncData) (sl : Array (Option Value)), T.K.lookup a = some ⟨oc, od, .func fd, sl⟩) {d : D} {v : V} {B H : Hp} (h : isFn lam d = true) (e : Ex B H) (r : Rep T B d v) : ∃ f, v = .ref f ∧ FnC T.K H f := by
  cases d with
  | ext k ds =>
    unfold Rep at r
    obtain ⟨a, xs, rfl, h1, _⟩ := r
    refine ⟨a, rfl, ?_⟩
    rcases h1 with h1 | ⟨_, h1⟩
    · have hH := e a _ h1
      unfold isFn at h
      simp only [Bool.or_eq_true, Bool.and_eq_true, decide_eq_true_eq] at h
      rcases h with ⟨l1, l2⟩ | ⟨l1, l2, l3⟩
      · rw [X.no k a xs l1 l2] at hH
        exact .inr (.inl hH)
      · obtain ⟨L, hL⟩ := Option.isSome_iff_exists.mp l3
        have ek : k = kClo ((k - 1000) / 2) := by unfold kClo; omega
        rw [ek, X.clo _ L a xs hL] at hH
        exact .inl ⟨L, xs, hH⟩
    · exact .inr (.inr (G k a h1))
  | _ => cases (show false = true from h)
theorem fnv_app (X : XoOk T lam) (G : GfOk P w T mg base gfs (k + 1)) (hL : ∀ i L, lam i = some L → LamOk L ∧ DoesL P w T mg base k L (bd i)) : FnV P w T.K mg base (L2.CX P w) (k + 1) (spV T (appF lam gfs bd)) := by
  refine ⟨fun A outer s H f us vs Q E hr e0 r hsp => ?_⟩
  obtain ⟨hl, rs, B, F, o, rs', S, e, k1⟩ := hsp
  unfold appF at e
  split at e
  · rename_i kk ds args
    split at e
    · rename_i hk
      split at e
      · rename_i F0 hF
        split at e
        · rename_i hn
          split at e
          · rename_i o0 rs0 e1
            cases e
            obtain ⟨v0, hv0, r0⟩ := S.rel 0 _ rfl
            cases hv0
            have r0 : Rep T B (.ext kk [.bl true]) (.ref f) := r0
            have rr := r0
            unfold Rep at rr
            obtain ⟨a, xs, ea, h1, h2⟩ := rr
            cases ea
            have rg := G.rng _ _ hF
            rcases h1 with h1 | ⟨_, h1⟩
            · rw [X.no kk f xs rg.1 rg.2] at h1
              exact (ext_at e0.hok (S.exB _ _ h1)).elim
            obtain ⟨fd, ps, Fk, hb, hp⟩ := G.fn _ _ hF _ h1
            have lr : args.length = vs.length := by have := S.len; simpa using this
            have Sp : Sim T (args.map some) (vs.map some) B F H := S.pop
            have KX : T.K.In s.heap := e0.mod.kin.keeps fun b o e => (e0.bs b o e).1
            have hbt := hb s us KX (by rw [List.append_nil, ← r.length, hp, ← hn, lr])
            rw [List.append_nil] at hbt
            refine Fk.run A outer s H ⟨us, []⟩ us vs Q E hr e0 hbt r ⟨by rw [← hn, lr], args, B, F, o, rs0, Sp, e1, ?_⟩
            cases o with
            | v r =>
              intro v B' H' ex S'
              exact k1 v B' H' ex (S'.push (Rep.mono ex _ r0)).swap
            | x c => exact fun d B' H' ex S' => k1 d B' H' ex (S'.push (Rep.mono ex _ r0))
          · cases e
        · cases e
      · cases e
    · rename_i hk
      split at e
      · rename_i hev
        split at e
        · rename_i L hL'
          split at e
          · rename_i cs hc
            split at e
            · rename_i hg
              split at e
              · rename_i x s1 hf
                cases e
                have ek : kk = kClo ((kk - 1000) / 2) := by unfold kClo; omega
                generalize (kk - 1000) / 2 = i at *
                subst ek
                exact clo_run X hL' (hL _ _ hL').1 (hL _ _ hL').2 hr e0 r S hc hg.1 hg.2.1 hg.2.2 hf k1
              · cases e
            · cases e
          · cases e
        · cases e
      · cases e
  · cases e
end
end Fz
set_option Elab.async false
set_option linter.all false
set_option maxRecDepth 100000
set_option maxHeartbeats 4000000
namespace Fz
open PySem L2 PySem.Spec PyProof.Rows
def isFnS (lam : Nat → Option LamD) : Option (Option R) → Bool
  | some (some (.d d)) => isFn lam d
  | _ => false
def rCallV (lam : Nat → Option LamD) (i n : Nat) (f : Fn) (fa : M (List Arg)) : M R := fun st => if isFnS lam st[i]? = true then rCall n f [] (aV (eVar i) fa) st else none
def tCallV (K : PySem.W.Frag) (i : Nat) (sp : Sp) (E : L2.St → XK) (t : TA) : TE := fun σ H Q => ∃ f, σ[i]? = some (some (.ref f)) ∧ FnC K H f ∧ t σ H fun vs H1 => FnC K H1 f ∧ sp (.ref f :: vs) H1 Q (E σ)
structure ValAt (Y : Cx) (T : Tab) (E : L2.St → XK) (lam : Nat → Option LamD) (F : Fn) : Prop where
  ex : ∃ CX k, FnV Y.prog Y.w Y.K Y.mg Y.base CX k (spV T F) ∧ Room k Y.A ∧ ∀ σ, PassesAt CX Y σ (E σ)
section
variable {ι : Type} {T : Tab} {E : L2.St → XK} {X : ι → Cx} {lam : Nat → Option LamD} {pos : Pos} {e : Expr} {es : List Expr} {x : Str}
theorem semR_callV (Xo : XoOk T lam) (G : ∀ i a, T.gf i a → ∃ (oc : Value) (od : Option Addr) (fd : FuncData) (sl : Array (Option Value)), T.K.lookup a = some ⟨oc, od, .func fd, sl⟩) {i n : Nat} {f : Fn} {fa : M (List Arg)} {ta : TA} (ha : SemAA T E ta fa) : SemR T E (tCallV T.K i (spV T f) E ta) (rCallV lam i n f fa) := by
  intro st σ B F H S o s h Q hQ
  unfold rCallV at h
  split at h
  · rename_i hfn
    unfold isFnS at hfn
    split at hfn
    · rename_i d hd
      obtain ⟨v, hv, rd⟩ := S.rel i _ hd
      have rd : Rep T B d v := rd
      obtain ⟨fa', rfl, hc⟩ := isFn_at Xo G hfn S.exB rd
      refine ⟨fa', hv, hc, ?_⟩
      have ev : eVar i st = some (.v d, st) := by unfold eVar; rw [hd]
      have eh : rCall n f [] (aV (eVar i) fa) st = bnd fa (fun xs => if (Arg.v d :: xs).length + ([] : List D).length = n then callF f ((Arg.v d :: xs) ++ ([] : List D).map Arg.v) else fun _ => none) st := by
        unfold rCall aV bnd
        rw [ev]
        simp only []
        cases fa st with
        | none => rfl
        | some r =>
          obtain ⟨o1, s1⟩ := r
          cases o1 with
          | v xs => rfl
          | x c => rfl
      rw [eh] at h
      rcases bnd_some h with ⟨c, e1, rfl⟩ | ⟨as, s1, e1, e2⟩
      · exact ha st σ B F H S _ _ e1 _ hQ
      · refine ha st σ B F H S _ _ e1 _ fun B1 H1 x1 S1 vs hvs => ?_
        have hQ1 : Okr T (E σ) o s σ B1 F (fun v _ H' => Q v H') := by
          cases o with
          | v r => exact fun v B2 H2 x2 S2 => hQ v B2 H2 (x1.trans x2) S2
          | x c => exact fun d B2 H2 x2 S2 => hQ d B2 H2 (x1.trans x2) S2
        split at e2
        · rw [List.map_nil, List.append_nil] at e2
          have rd1 := Rep.mono x1 d rd
          obtain ⟨f2, e3, hc1⟩ := isFn_at Xo G hfn S1.exB rd1
          cases e3
          have hA : ArgsAre T B1 σ (.v d :: as) (.ref fa' :: vs) := .cons rd1 hvs
          exact ⟨hc1, okx_call S1 hA e2 hQ1⟩
        · cases e2
    · cases hfn
  · cases h
theorem run_v {X : Cx} {CX : CXT} {k : Nat} {f : Addr} {sp : Sp} {E : L2.St → XK} {pins : List (Addr × Obj)} {σ : L2.St} {H : Hp} {s : Shared} {Q : VK} {us : List Value} {vs : List V} (F : FnV X.prog X.w X.K X.mg X.base CX k sp) (hr : Room k X.A) (hx : PassesAt CX X σ (E σ))
    (I : Inv X pins σ H s) (r : Vals vs us) (h : sp (.ref f :: vs) H Q (E σ)) : wpAny (model X.prog X.w) X.A (call (.ref f) us) (EP X pins σ Q) X.xe s := by
  refine wpAny_call (codeAny_mono (F.run X.A X.stack s H f us vs Q (E σ) hr I.env0 r h) (fun r s' hq => ?_))
  cases r with
  | error e => exact hx pins H s e s' I hq
  | ok fl =>
    cases fl with
    | ret u => exact I.after hq
    | next => exact False.elim hq
    | brk => exact False.elim hq
    | cont => exact False.elim hq
theorem pe_callV {X : Cx} {CX : CXT} {k i : Nat} {sp : Sp} {E : L2.St → XK} {t : TA} {p : Pos} (F : FnV X.prog X.w X.K X.mg X.base CX k sp) (hr : Room k X.A) (hx : ∀ σ, PassesAt CX X σ (E σ)) (hN : X.N[i]? = some x) (hv : Vis X.env.scope x) (ha : PA X (e :: es) t)
    (hd : (x == ("__debug__" : Str)) = false := by decide) (hcd : (x == ("__classdict__" : Str)) = false := by decide)
    (he : starEach (e :: es) X.env = (false, eval e X.env) :: starEach es X.env := by rfl) (hpl : (backTo pos (starEach es X.env)).any (·.1) = false := by rfl) :
    PE X (.Call (.Name x p) (e :: es) [] pos) (tCallV X.K i sp E t) := by
  refine ⟨fun pins s σ H Q I h => ?_⟩
  obtain ⟨f, hs, hf, ht⟩ := h
  refine wpAny_Call_Name_kw (thn ((pe_var (pos := p) hN hv hd hcd).run pins s σ H (fun v H1 => v = .ref f ∧ H1 = H) I ⟨.ref f, hs, rfl, rfl⟩) fun u s1 ⟨v, H1, I1, r1, q1⟩ => ?_)
  obtain ⟨ev, eH⟩ := q1
  subst ev
  rw [eH] at I1
  obtain rfl : u = Value.ref f := r1
  refine PySem.W.callWith_F (first := []) (fnC_at I1.hok I1.kIn hf) (thn (ha.run pos pins s1 σ H _ I1 ht) fun us s2 ⟨vs, H2, I2, r, h1, q⟩ => ⟨fnC_at I2.hok I2.kIn h1, ?_⟩) he hpl
  show wpAny _ _ (call (.ref f) us) _ _ _
  exact run_v F hr (hx σ) I2 r q
theorem xr_callV {i n : Nat} {F : Fn} {fl : M (List Arg)} {p : Pos} (Xo : XoOk T lam) (G : ∀ i a, T.gf i a → ∃ (oc : Value) (od : Option Addr) (fd : FuncData) (sl : Array (Option Value)), T.K.lookup a = some ⟨oc, od, .func fd, sl⟩) (hf : ∀ j, ValAt (X j) T E lam F) (ha : XAA T E X (e :: es) fl)
    (hK : ∀ j, (X j).K = T.K := by intro j; rfl) (hN : ∀ j, (X j).N[i]? = some x := by intro j; rfl) (hv : ∀ j, Vis (X j).env.scope x := by intro j; first | exact Or.inl rfl | exact Or.inr (Or.inl rfl) | exact Or.inr (Or.inr rfl)) (hd : (x == ("__debug__" : Str)) = false := by decide +kernel) (hcd : (x == ("__classdict__" : Str)) = false := by decide +kernel)
    (he : ∀ j, starEach (e :: es) (X j).env = (false, eval e (X j).env) :: starEach es (X j).env := by intro j; rfl) (hpl : ∀ j, (backTo pos (starEach es (X j).env)).any (·.1) = false := by intro j; rfl) :
    XR T E X (.Call (.Name x p) (e :: es) [] pos) (rCallV lam i n F fl) := by
  obtain ⟨t, a1, a2⟩ := ha
  refine ⟨tCallV T.K i (spV T F) E t, fun j => ?_, semR_callV Xo G a2⟩
  obtain ⟨CX, k, h1, h2, h3⟩ := (hf j).ex
  rw [← hK j]
  exact pe_callV h1 h2 h3 (hN j) (hv j) (a1 j) hd hcd (he j) (hpl j)
end
section
variable {P : Program} {w : World} {T : Tab} {mg : Str → Option Value} {base : Heap} {N : List Str} {qual : Str} {st : Stmt} {f : Addr} {cdv : Value} {A : Around} {outer : List Env} {s : Shared} {H : Hp} {E : XK} {lam : Nat → Option LamD} {k j : Nat} {F : Fn}
theorem FnV.mono {K : PySem.W.Frag} {CX : CXT} {sp : Sp} (G : FnV P w K mg base CX j sp) (h : j ≤ k) : FnV P w K mg base CX k sp := ⟨fun A outer s H f us vs Q E hr => G.run A outer s H f us vs Q E (hr.mono h)⟩
theorem FnV.d (G : FnV P w T.K mg base (L2.CX P w) j (spV T F)) (hr : Room k (A.deeper (envOfC qual (defScope st) s.heap.objs.size f cdv))) (h : j ≤ k) (i : Unit) : ValAt (CxD P w T mg base N qual st f cdv A outer s H E i) T (fun _ => E) lam F := ⟨_, j, G, hr.mono h, fun σ => pass_def σ⟩
theorem FnV.b {scope : Scope} (G : FnV P w T.K mg base (L2.CX P w) j (spV T F)) (hr : Room k (A.deeper (envOfC qual (defScope st) s.heap.objs.size f cdv))) (h : j ≤ k) (i) : ValAt (Blk (CxD P w T mg base N qual st f cdv A outer s H E) scope i) T (fun _ => E0) lam F := ⟨_, j, G, hr.mono h, fun σ => pass_blk (P := P) (w := w) σ⟩
theorem FnV.l {nf : NdefX.NF} {fa : Addr} (G : FnV P w T.K mg base (L2.CX P w) j (spV T F)) (hr : Room k (A.deeper (NdefX.envF nf fa s.heap.objs.size))) (h : j ≤ k) (i : Unit) : ValAt ((fun _ : Unit => NdefX.ncx (L2.CX P w) P w T.K mg base N nf fa A outer s H E0) i) T (fun _ => E0) lam F := ⟨_, j, G, hr.mono h, fun σ => pass_blk (P := P) (w := w) σ⟩
end
end Fz
set_option Elab.async false
set_option linter.all false
set_option maxRecDepth 100000
set_option maxHeartbeats 4000000
namespace Fz
open PySem L2 PySem.Spec PyProof.Rows
def LamD.xs (L : LamD) (C c' : Addr) : List V := (L.caps.map fun p => V.ref (C + 1 + p.2)) ++ [.ref c']
def tLam (L : LamD) (P C : Addr) : TE := fun _ H Q => ∃ ps : Array Value, H P = some (.tbl ps) ∧ TriplesOk ps.toList ∧ (∀ (pos : Pos) (cv : Value), codeAmong pos ps.toList = some cv → ∃ c', cv = .ref c' ∧ H c' = some (CodeO c' L.qual)) ∧
  (∀ f c' (p : Pos), codeAmong p ps.toList = some (.ref c') → H f = none → f ≠ c' → Q (.ref f) (upd H f (CloO L f (L.xs C c')))) ∧
  (∀ f c' (p : Pos), H c' = none → H f = none → f ≠ c' → Q (.ref f) (upd (upd (upd H P (.tbl (ps ++ #[rawInt p.line, rawInt p.col, .ref c']))) c' (CodeO c' L.qual)) f (CloO L f (L.xs C c'))))
section
variable {X : Cx} {pins : List (Addr × Obj)} {σ : L2.St} {H : Hp} {s : Shared}
theorem inv_clo {L : LamD} {C c' : Addr} {o : Obj} {t' : Nat} {pm ctv : Value} (I : Inv X pins σ H s) (ho : o = PySem.W.kla_obj "<lambda>" L.qual L.params L.body L.scope (L.cl C) pm c' ctv) (h1 : ∀ p ∈ L.caps, C + 1 + p.2 < s.heap.objs.size) (h2 : c' < s.heap.objs.size) :
    Inv X pins σ (upd H s.heap.objs.size (CloO L s.heap.objs.size (L.xs C c'))) { s with heap := s.heap.push o, toks := t' } := by
  subst ho
  refine I.laid (a := s.heap.objs.size) (fun b u e => Heap.get?_push_of_some _ e) (Nat.le_refl _) ?_
  have e := Heap.get?_push_size s.heap (o := PySem.W.kla_obj "<lambda>" L.qual L.params L.body L.scope (L.cl C) pm c' ctv) rfl
  exact ⟨⟨C, c', pm, ctv, rfl, h1, h2, e⟩, ⟨_, e⟩, fun g1 g2 ⟨C', c2, p, t, z1, z2, z3, z4⟩ st => ⟨C', c2, p, t, z1, z2, z3, st _ z4⟩⟩
theorem pe_lam {L : LamD} {c P C : Addr} {pos : Pos} (TB : LamX.TabB X.base X.mg c P) (hcode : X.env.code = .ref c) (hq : X.env.qual ++ "<lambda>" = L.qual) (hdef : defaultsOf L.params X.env = ([], [])) (hfree : ∀ y ∈ L.scope.names, y.2 = .free → ∃ c, X.env.cells.lookup y.1 = some c)
    (hcl : cloFrom X.env.cells L.scope.names [] = L.cl C) (hcells : ∀ p ∈ L.caps, X.env.cells.lookup p.1 = some (C + 1 + p.2)) : PE X (.Lambda L.params L.body L.scope pos) (tLam L P C) := by
  refine ⟨fun pins s σ H Q I h => ?_⟩
  obtain ⟨ps, hP, ht, ha, hhit, hmiss⟩ := h
  refine PySem.W.kla_eval hdef ?_
  rw [hq]
  have bP : s.heap.BuiltinsAt X.mg P := TB.bm.keeps I.bk
  have hP' : s.heap.get? P = some { cls := .none, data := .fields ps } := I.hok P _ hP
  have lc : ∀ p ∈ L.caps, C + 1 + p.2 < s.heap.objs.size := fun p hp => by
    obtain ⟨v, o, ho, _⟩ := I.cell _ _ (hcells p hp)
    exact Heap.lt_size ho
  have clok : closureFor L.scope X.env = pure (L.cl C) := by rw [← hcl]; exact closure_ok hfree
  cases hc : codeAmong pos ps.toList with
  | none =>
    refine PySem.W.kla_makeFunction (mg := X.mg) (c := c) (P := P) (ps := ps) clok I.ok.glob (I.mod.glob.keeps I.bk) hcode (TB.code.keeps I.bk) hP' ht hc TB.gP bP fun c' ctv h' tk hx hge hlt hrec htb => ?_
    obtain ⟨c2, oc, vs, t, e2, hoc, hd, hv⟩ := hrec
    cases e2
    have hsz : s.heap.objs.size ≤ h'.objs.size := Nat.le_trans hge (Nat.le_of_lt hlt)
    have nC : H c' = none := I.hok.fresh hge
    have nf : H h'.objs.size = none := I.hok.fresh hsz
    have I1 : Inv X pins σ (upd (upd H P (.tbl (ps ++ #[rawInt pos.line, rawInt pos.col, .ref c']))) c' (CodeO c' L.qual)) { s with heap := h', toks := tk } :=
      LamX.inv_table (t' := tk) (more := #[rawInt pos.line, rawInt pos.col, .ref c']) I hP (fun b o hb e => hx b o hb e) htb hge ⟨oc, vs, t, hoc, hd, hv⟩
    have I2 := inv_clo (L := L) (C := C) (c' := c') (t' := tk) (pm := (X.mg "__name__").getD .none) (ctv := ctv) I1 rfl (fun p hp => Nat.lt_of_lt_of_le (lc p hp) hsz) hlt
    exact ⟨.ref h'.objs.size, _, I2, rfl, hmiss _ _ _ nC nf (Nat.ne_of_gt hlt)⟩
  | some cv =>
    obtain ⟨c', e, hco⟩ := ha pos cv hc
    subst e
    refine PySem.W.kla_makeFunctionHit (mg := X.mg) (c := c) (P := P) (ps := ps) clok I.ok.glob (I.mod.glob.keeps I.bk) hcode (TB.code.keeps I.bk) hP' ht hc bP fun ctv h' tk hx hsz => ?_
    have I1 : Inv X pins σ H { s with heap := h', toks := tk } := I.kept hx
    have lc' : c' < s.heap.objs.size := I.hok.lt hco
    have I2 := inv_clo (L := L) (C := C) (c' := c') (t' := tk) (pm := (X.mg "__name__").getD .none) (ctv := ctv) I1 rfl (fun p hp => Nat.lt_of_lt_of_le (lc p hp) hsz) (Nat.lt_of_lt_of_le lc' hsz)
    exact ⟨.ref h'.objs.size, _, I2, rfl, hhit _ _ _ hc (I.hok.fresh hsz) (Nat.ne_of_gt (Nat.lt_of_lt_of_le lc' hsz))⟩
end
section
variable {T : Tab} {st : Sl} {σ : L2.St} {B F H : Hp}
theorem Sim.tbl (S : Sim T st σ B F H) {P c' : Addr} {q : Str} {ps : Array Value} {pos : Pos} (hm : ∃ p ∈ T.tt, p.1 = P) (hp : H P = some (.tbl ps)) (ht : TriplesOk ps.toList) (hq : ∀ p ∈ T.tt, p.1 = P → p.2 = q) (hb : B c' = some (CodeO c' q)) : Sim T st σ B F (upd H P (.tbl (ps ++ #[rawInt pos.line, rawInt pos.col, .ref c']))) := by
  have tP : isTb (.tbl ps) := .inl ⟨ps, rfl⟩
  have ne : ∀ {i : Nat} {r : R} {v : V} {a : Addr}, st[i]? = some (some r) → σ[i]? = some (some v) → Ow H r v a → a ≠ P := fun {i r v a} h1 h2 h3 e => by
    subst e
    exact S.ntb h1 h2 h3 _ hp tP
  have tk : Tk H (upd H P (.tbl (ps ++ #[rawInt pos.line, rawInt pos.col, .ref c']))) := fun a xs h => by rw [upd_ne (by intro e; subst e; rw [hp] at h; cases h)]; exact h
  have ko : ∀ {i : Nat} {r : R} {v : V}, st[i]? = some (some r) → σ[i]? = some (some v) → ∀ p o, Ow H r v p → H p = some o → upd H P (.tbl (ps ++ #[rawInt pos.line, rawInt pos.col, .ref c'])) p = some o := fun {i r v} h1 h2 p o z h => by
    rw [upd_ne (ne h1 h2 z)]; exact h
  have bk : ∀ {i : Nat} {r : R} {v : V} {a : Addr}, st[i]? = some (some r) → σ[i]? = some (some v) → Ow (upd H P (.tbl (ps ++ #[rawInt pos.line, rawInt pos.col, .ref c']))) r v a → Ow H r v a := fun {i r v a} h1 h2 h3 => by
    obtain ⟨v', h4, h5⟩ := S.rel i r h1
    rw [h2] at h4; cases h4
    exact Ow.back tk h5 (ko h1 h2) h3
  refine ⟨fun a o h => ?_, fun a o h => ?_, S.dis, fun a xs h => ?_, S.len, fun i r h => ?_, fun i r v a h1 h2 h3 => S.own i r v a h1 h2 (bk h1 h2 h3), fun i j r q v u a n h1 h2 h3 h4 h5 h6 => S.sep i j r q v u a n h1 h2 h3 h4 (bk h1 h2 h5) (bk h3 h4 h6), ⟨S.tbs.noF, fun p hpm => ?_⟩⟩
  · by_cases e : a = P
    · subst e
      obtain ⟨p, hpm, e⟩ := hm
      have := (S.tbs.tab p hpm).1
      rw [e, h] at this; cases this
    · rw [upd_ne e]; exact S.exB a o h
  · rw [upd_ne (by intro e; subst e; have := S.exF a o h; rw [hp] at this; cases this; exact S.tbs.noF _ _ h tP)]; exact S.exF a o h
  · by_cases e : a = P
    · subst e; rw [upd_same] at h; cases h
    · rw [upd_ne e] at h; exact S.tup a xs h
  · obtain ⟨v, h1, h2⟩ := S.rel i r h
    exact ⟨v, h1, h2.keep (.refl B) tk (ko h h1)⟩
  · obtain ⟨g1, ps', g2, g3, g4⟩ := S.tbs.tab p hpm
    by_cases e : p.1 = P
    · have eq := hq p hpm e
      rw [e, hp] at g2
      cases g2
      refine ⟨g1, _, by rw [e, upd_same], by simp only [Array.toList_append]; exact PySem.TriplesOk_snoc _ _ _ _ ht, fun pos2 cv hc => ?_⟩
      rw [show (ps ++ #[rawInt pos.line, rawInt pos.col, .ref c']).toList = ps.toList ++ [rawInt pos.line, rawInt pos.col, .ref c'] by simp] at hc
      rcases LamX.among_app _ ht hc with z | z
      · exact g4 pos2 cv z
      · exact ⟨c', z, by rw [eq]; exact hb⟩
    · exact ⟨g1, ps', by rw [upd_ne e]; exact g2, g3, g4⟩
end
end Fz
set_option Elab.async false
set_option linter.all false
set_option maxRecDepth 100000
set_option maxHeartbeats 4000000
namespace Fz
open PySem L2 PySem.Spec PyProof.Rows
theorem upd_comm {H : Hp} {a b : Addr} {o u : HO} (h : a ≠ b) : upd (upd H a o) b u = upd (upd H b u) a o := by
  funext x
  unfold upd
  split
  · rename_i e
    subst e
    rw [if_neg (fun z => h z.symm)]
  · rfl
section
variable {T : Tab} {E : L2.St → XK} {st : Sl} {σ : L2.St} {B F H : Hp} {lam : Nat → Option LamD}
theorem lam_sim (S : Sim T st σ B F H) {L : LamD} {P C : Addr} (hm : ∃ p ∈ T.tt, p.1 = P) (hq : ∀ p ∈ T.tt, p.1 = P → p.2 = L.qual) {Q : VK}
    (h : ∀ f c' B' H', Ex B B' → Sim T st σ B' F H' → B' f = some (CloO L f (L.xs C c')) → B' c' = some (CodeO c' L.qual) → Q (.ref f) H') : tLam L P C σ H Q := by
  obtain ⟨p, hp, e⟩ := hm
  obtain ⟨g1, ps, g2, g3, g4⟩ := S.tbs.tab p hp
  rw [e] at g1 g2
  have eq := hq p hp e
  rw [eq] at g4
  refine ⟨ps, g2, g3, fun pos cv hc => ?_, fun f c' pos hc nf ne => ?_, fun f c' pos nc nf ne => ?_⟩
  · obtain ⟨c', a, b⟩ := g4 pos cv hc
    exact ⟨c', a, S.exB _ _ b⟩
  · obtain ⟨c2, a, b⟩ := g4 pos _ hc
    cases a
    have x := Ext.newT (o := CloO L f (L.xs C c')) S.exB nf
    exact h f c' _ _ x.b (S.ext x) upd_same (by rw [upd_ne (Ne.symm ne)]; exact b)
  · have x := Ext.newT (o := CodeO c' L.qual) S.exB nc
    have S1 := S.ext x
    have nP : P ≠ c' := ne_of_none g2 nc
    have S2 := S1.tbl (pos := pos) (P := P) (c' := c') (q := L.qual) (ps := ps) ⟨p, hp, e⟩ (by rw [upd_ne nP]; exact g2) g3 hq upd_same
    rw [upd_comm nP.symm] at S2
    have nf2 : upd (upd H P (.tbl (ps ++ #[rawInt pos.line, rawInt pos.col, .ref c']))) c' (CodeO c' L.qual) f = none := by
      rw [upd_ne ne, upd_ne (fun z => by subst z; rw [g2] at nf; cases nf)]; exact nf
    have x2 := Ext.newT (o := CloO L f (L.xs C c')) S2.exB nf2
    exact h f c' _ _ (x.b.trans x2.b) (S2.ext x2) upd_same (by rw [upd_ne (Ne.symm ne), upd_same])
def eLam (i : Nat) : M D := ret (clo i [] [])
end
section
variable {ι : Type} {T : Tab} {E : L2.St → XK} {X : ι → Cx} {lam : Nat → Option LamD} {pos : Pos}
structure LamAt (Y : Cx) (T : Tab) (P : Addr) (q : Str) : Prop where
  ex : ∃ c, LamX.TabB Y.base Y.mg c P ∧ Y.env.code = .ref c
  qual : Y.env.qual ++ "<lambda>" = q
  hm : ∃ p ∈ T.tt, p.1 = P
  hq : ∀ p ∈ T.tt, p.1 = P → p.2 = q
end
end Fz
set_option Elab.async false
set_option linter.all false
set_option maxRecDepth 100000
set_option maxHeartbeats 4000000
namespace Fz
open PySem L2 PySem.Spec PyProof.Rows
def isTabB : Option Obj → Bool
  | some ⟨.none, none, .fields vs, sl⟩ => decide (vs = #[]) && decide (sl.size = 0)
  | _ => false
theorem isTabB_ok {o : Option Obj} (h : isTabB o = true) : o = some { cls := .none, data := .fields #[] } := by
  unfold isTabB at h
  split at h
  · rename_i vs sl
    have h := (Bool.and_eq_true _ _).mp h
    have h1 := of_decide_eq_true h.1
    have h2 := Array.size_eq_zero_iff.mp (of_decide_eq_true h.2)
    subst h1 h2
    rfl
  · cases h
def cpIn (K : PySem.W.Frag) (x : Str) : Addr × Addr := (PySem.W.tabIn K x).getD (0, 0)
def codB (x : Str) (K : PySem.W.Frag) : Bool := match PySem.W.tabIn K x with
  | some (c, P) => PySem.W.codeHdIn K c P
  | none => false
def tabB (g : Addr → Option Obj) (K : PySem.W.Frag) (x : Str) : Bool := codB x K && ((K.lookup (cpIn K x).2).isNone && isTabB (g (cpIn K x).2))
def obsLT (mk : List Str) (as : List Addr) (chk : PySem.W.Frag → Bool) (fn : List He.DefD) (ts : List He.Tab) (g : Addr → Option Obj) : AlC := obsC (fun K => chk K && mk.all (tabB g K)) fn ts (He.frG g as)
def MkTabs (mk : List Str) (K : PySem.W.Frag) (h : Heap) : Prop := ∀ x ∈ mk, codB x K = true ∧ K.lookup (cpIn K x).2 = none ∧ h.get? (cpIn K x).2 = some { cls := .none, data := .fields #[] }
def hookLT (mk : List Str) (as : List Addr) (chk : PySem.W.Frag → Bool) (fn : List He.DefD) (ts : List He.Tab) : PySem.W.Hook where
  α := AlC
  obs := fun s => obsLT mk as chk fn ts s.heap.get?
  val := fun w => valC fn ts w
  says := fun w h => ∃ K : PySem.W.Frag, K.In h ∧ SaysC chk fn ts w K ∧ MkTabs mk K h
  of := fun _ _ e => by
    have e1 := (Bool.and_eq_true _ _).mp (congrArg (fun z : AlC => z.1) e)
    have e2 := congrArg (fun z : AlC => z.2) e
    refine ⟨_, He.frG_in, Prod.ext e1.1 e2, fun x hx => ?_⟩
    have h := List.all_eq_true.mp e1.2 x hx
    unfold tabB at h
    simp only [Bool.and_eq_true] at h
    exact ⟨h.1, Option.isNone_iff_eq_none.mp h.2.1, isTabB_ok h.2.2⟩
  keeps := fun _ _ _ ⟨K, hK, c, m⟩ k => ⟨K, PySem.W.Frag.In.keeps hK k, c, fun x hx => let ⟨a, b, d⟩ := m x hx; ⟨a, b, k _ _ d⟩⟩
theorem obsLT_eq {mk : List Str} {as : List Addr} {chk : PySem.W.Frag → Bool} {fn : List He.DefD} {ts : List He.Tab} {g : Addr → Option Obj} {s : Shared} (h : ∀ a, g a = s.heap.get? a) : obsLT mk as chk fn ts g = (hookLT mk as chk fn ts).obs s := by
  have e : g = s.heap.get? := funext h
  rw [e] <;> rfl
section
variable {K : PySem.W.Frag} {h base : Heap} {mg : Str → Option Value} {mk : List Str}
theorem codB_eq {x : Str} (e : codB x K = true) : PySem.W.tabIn K x = some (cpIn K x) ∧ PySem.W.codeHdIn K (cpIn K x).1 (cpIn K x).2 = true := by
  unfold codB at e
  unfold cpIn
  split at e
  · rename_i c P h
    rw [h]
    exact ⟨rfl, e⟩
  · cases e
theorem codB_hd {x : Str} (X : K.In h) (e : codB x K = true) : PySem.W.CodeHd h (cpIn K x).1 (cpIn K x).2 := PySem.W.codeHd_of_K X (codB_eq e).2
end
def GFunC (T : Tab) (mg : Str → Option Value) (x : Str) (st : Stmt) (ps : List Str) (c : Addr) : Prop := ∃ f fd, mg x = some (.ref f) ∧ Fun T.K x x st f fd ∧ Binds T.K fd ps [] ∧ fd.code = .ref c
section
variable {P : Program} {w : World} {T : Tab} {mg : Str → Option Value} {base : Heap} {x qual : Str} {st : Stmt} {N ps : List Str} {k : Nat} {kp : Nat → Bool} {body : MS} {c : Addr}
theorem fun_code {f : Addr} {fd : FuncData} (F : Fun T.K x qual st f fd) (hc : fd.code = .ref c) : ∃ oc od kV doc pm an ct osl, T.K.lookup f = some ⟨oc, od, .func fd, osl⟩ ∧ PySem.W.codeIn T.K (.ref c) qual = true ∧ fd = PySem.W.fnOf x qual (defArgs st) (defBody st) (defScope st) .none kV doc pm an (.ref c) ct := by
  obtain ⟨oc, od, kV, doc, pm, an, cdv, ct, osl, rfl, lk, hcd⟩ := F.ex
  have e : cdv = .ref c := hc
  subst e
  exact ⟨oc, od, kV, doc, pm, an, ct, osl, lk, hcd, rfl⟩
theorem gfunC_of {h : Heap} (X : T.K.In h) (Gn : h.Ns mainGlobals mg) (e : codB x T.K = true) (G : GFun T mg x st ps) : GFunC T mg x st ps (cpIn T.K x).1 := by
  obtain ⟨f, fd, h1, h2, h3⟩ := G
  obtain ⟨oc, od, kV, doc, pm, an, cdv, ct, osl, rfl, lk, hcd⟩ := h2.ex
  exact ⟨f, _, h1, h2, h3, PySem.W.law_code X Gn (codB_eq e).1 h1 (X _ _ lk) rfl⟩
end
end Fz
set_option Elab.async false
set_option linter.all false
set_option maxRecDepth 100000
set_option maxHeartbeats 4000000
namespace Fz
open PySem L2 PySem.Spec PyProof.Rows
open Classical in
noncomputable def entryH (K : PySem.W.Frag) (mk : List Str) (a : Addr) (ob : Obj) (ns : List Int) : Hp := fun b =>
  if (∃ x ∈ mk, b = (cpIn K x).2) then some (.tbl #[]) else if b = a ∧ K.lookup a = none then some (.frz ob (.lst (ns.map V.int))) else none
theorem entryH_cases {K : PySem.W.Frag} {mk : List Str} {a b : Addr} {ob : Obj} {ns : List Int} {u : HO} (h : entryH K mk a ob ns b = some u) : ((∃ x ∈ mk, b = (cpIn K x).2) ∧ u = .tbl #[]) ∨ ((b = a ∧ K.lookup a = none) ∧ u = .frz ob (.lst (ns.map V.int))) := by
  unfold entryH at h
  split at h
  · rename_i z; cases h; exact .inl ⟨z, rfl⟩
  · split at h
    · rename_i z; cases h; exact .inr ⟨z, rfl⟩
    · cases h
theorem entryH_tab {K : PySem.W.Frag} {mk : List Str} {a : Addr} {ob : Obj} {ns : List Int} {x : Str} (h : x ∈ mk) : entryH K mk a ob ns (cpIn K x).2 = some (.tbl #[]) := if_pos ⟨x, h, rfl⟩
section
variable {P : Program} {w : World} {T : Tab} {mg mb : Str → Option Value} {mk : List Str} {k : Nat} {fa a : Addr} {fd : FuncData} {x : Str} {F : Fn} {s₁ : Shared} {vs : List Value} {ns : List Int}
theorem entry_none (hM : MkTabs mk T.K s₁.heap) (ha : s₁.heap.get? a = some { cls := .type "list", data := .seq vs.toArray }) {b : Addr} {o : Obj} (e : s₁.heap.get? b = some o) (n1 : o.data ≠ .fields #[]) (n2 : o.data ≠ .seq vs.toArray) : entryH T.K mk a { cls := .type "list", data := .seq vs.toArray } ns b = none := by
  cases q : entryH T.K mk a { cls := .type "list", data := .seq vs.toArray } ns b with
  | none => rfl
  | some u =>
    exfalso
    rcases entryH_cases q with ⟨⟨y, hy, rfl⟩, _⟩ | ⟨⟨rfl, _⟩, _⟩
    · rw [(hM y hy).2.2] at e; cases e; exact n1 rfl
    · rw [ha] at e; cases e; exact n2 rfl
theorem law_callT (htt : ∀ p ∈ T.tt, ∃ y ∈ mk, p.1 = (cpIn T.K y).2) (KX : T.K.In s₁.heap) (hns : s₁.heap.Ns mainGlobals mg) (hb : s₁.heap.Ns builtinsNs mb) (hbb : ∀ x : Str, x ≠ "__name__" → mb x = bootBuiltins x) (hlim : s₁.heap.NoLimit) (hg : s₁.gens = #[]) (hM : MkTabs mk T.K s₁.heap)
    (hbm : ∃ (bm : Addr) (ob : Obj), mg "__builtins__" = some (.ref bm) ∧ bm ≠ builtinsNs ∧ s₁.heap.get? bm = some ob ∧ ob.cls = .type "module" ∧ ob.dict = some builtinsNs ∧ ob.data = .plain)
    (ha : s₁.heap.get? a = some { cls := .type "list", data := .seq vs.toArray }) (hi : IntsAre vs ns) (hl : ns.length ≤ 63) (hr : Room k callerA)
    (hF : ∀ base : Heap, T.K.In base → base.Ns mainGlobals mg → (∀ y ∈ mk, LamX.TabB base mg (cpIn T.K y).1 (cpIn T.K y).2) → FnOk P w T.K mg base (L2.CX P w) k fa fd [x] (sp T 1 F)) (hbind : ∀ (s : Shared) (u : Value), BindsTo s fd ⟨[u], []⟩ [(x, u)]) (hL : LawDoes F) :
    codeAny (model P w) callerA (.call (.ref fa) ⟨[.ref a], []⟩) (fun r s' => r = .ok (.ret (.bool true)) ∧ OldK s₁.heap s'.heap ∧ s'.os = s₁.os ∧ AllBare s'.gens) s₁ := by
  have few : ns.length ≤ sizeLine := Nat.le_trans hl (by decide)
  have rv := vals_ints hi
  obtain ⟨ob, hob⟩ : ∃ ob : Obj, ob = { cls := .type "list", data := .seq vs.toArray } := ⟨_, rfl⟩
  have free : ∀ {b : Addr} {o : Obj}, s₁.heap.get? b = some o → o.data ≠ .fields #[] → o.data ≠ .seq vs.toArray → entryH T.K mk a ob ns b = none := fun e n1 n2 => by subst hob; exact entry_none hM ha e n1 n2
  have hok : HOk P w (entryH T.K mk a ob ns) s₁.heap := fun b u e => by
    rcases entryH_cases e with ⟨⟨y, hy, rfl⟩, rfl⟩ | ⟨⟨rfl, _⟩, rfl⟩
    · exact (hM y hy).2.2
    · subst hob
      exact ⟨ha, by rw [List.length_map]; exact few, vs, _, rv, ha⟩
  have sq : SqL T.K (entryH T.K mk a ob ns) a (ns.map V.int) := by
    cases hk : T.K.lookup a with
    | some o =>
      have e := KX a o hk
      rw [ha] at e; cases e
      exact .inr ⟨_, vs.toArray, _, hk, rfl, rfl, rfl, by rw [List.size_toArray, hi.length]; exact few, by simpa using rv⟩
    | none =>
      refine .inl (.inr ⟨ob, ?_⟩)
      unfold entryH
      rw [if_neg, if_pos ⟨rfl, hk⟩]
      rintro ⟨y, hy, e⟩
      have := (hM y hy).2.2
      rw [← e, ha] at this
      cases this
  have inB : T.K.In (hidT s₁.heap (entryH T.K mk a ob ns)) := fun b o e => hidT_get (KX b o e) (by
    cases q : entryH T.K mk a ob ns b with
    | none => rfl
    | some u =>
      rcases entryH_cases q with ⟨⟨y, hy, rfl⟩, _⟩ | ⟨⟨rfl, z⟩, _⟩
      · rw [(hM y hy).2.1] at e; cases e
      · rw [z] at e; cases e)
  have nsB : ∀ {b : Addr} {m : Str → Option Value}, s₁.heap.Ns b m → (hidT s₁.heap (entryH T.K mk a ob ns)).Ns b m := fun ⟨o, es, ep, e, d, r⟩ =>
    ⟨o, es, ep, hidT_get e (free e (fun z => by rw [d] at z; cases z) fun z => by rw [d] at z; cases z), d, r⟩
  have md : Mod T.K mg (hidT s₁.heap (entryH T.K mk a ob ns)) := ⟨inB, nsB hns, ⟨mb, nsB hb, hbb⟩, let ⟨mc, g1, g2⟩ := hlim; ⟨mc, nsB g1, g2⟩⟩
  have gl : ∀ {b : Addr} {o : Obj}, s₁.heap.get? b = some o → (∀ es ep, o.data ≠ .dict es ep) → mainGlobals ≠ b := fun {b o} e n z => by
    obtain ⟨o', es, ep, e', d, _⟩ := hns
    rw [z, e] at e'; cases e'
    exact n _ _ d
  have tabs : ∀ y ∈ mk, LamX.TabB (hidT s₁.heap (entryH T.K mk a ob ns)) mg (cpIn T.K y).1 (cpIn T.K y).2 := fun y hy => by
    obtain ⟨m1, m2, m3⟩ := hM y hy
    refine ⟨codB_hd inB m1, ?_, gl m3 fun es ep z => by cases z⟩
    obtain ⟨bm, om, b1, b2, b3, b4, b5, b6⟩ := hbm
    exact ⟨bm, om, b1, b2, (gl b3 fun es ep z => by rw [b6] at z; cases z).symm, (fun z => by rw [z, m3] at b3; cases b3; cases b6), hidT_get b3 (free b3 (fun z => by rw [b6] at z; cases z) fun z => by rw [b6] at z; cases z), b4, b5, b6⟩
  have start : Env0 P w T.K mg (hidT s₁.heap (entryH T.K mk a ob ns)) callerA [] s₁ (entryH T.K mk a ob ns) :=
    { frames := rfl, mod := md, bs := fun _ _ e => of_hidT e, bsz := Nat.le_of_eq (hidT_size _ _), funs := trivial, frf := fun b hb => (nomatch (show b ∈ ([] : List Addr) from hb)), hok := hok, bare := .of_eq hg }
  have spec := law_sp hL hl (fun p hp => by
    obtain ⟨y, hy, e⟩ := htt p hp
    rw [e]; exact entryH_tab hy) sq
  refine codeAny_mono ((hF _ inB (nsB hns) tabs).run callerA [] s₁ _ _ [.ref a] [.ref a] _ _ hr start (hbind s₁ (.ref a)) (.cons rfl .nil) spec) fun r s' h => ?_
  cases r with
  | error e =>
    obtain ⟨_, _, _, _, _, _, _, _, _, _, _, _, z⟩ := h
    exact z.elim
  | ok fl =>
    cases fl with
    | next => exact False.elim h
    | brk => exact False.elim h
    | cont => exact False.elim h
    | ret u =>
      obtain ⟨v, H', os, bare, un, hok', rel, rfl⟩ := h
      have hu : u = Value.bool true := rel
      subst hu
      have nofr : ∀ b : Addr, b ∉ frs ([] : List Env) := fun b z => (nomatch (show b ∈ ([] : List Addr) from z))
      have after : ∀ b o, s₁.heap.get? b = some o → s'.heap.get? b = some o ∨ ∃ y ∈ mk, b = (cpIn T.K y).2 ∧ ∃ more : Array Value, s'.heap.get? b = some { cls := .none, data := .fields more } := fun b o e => by
        cases q : entryH T.K mk a ob ns b with
        | none => exact .inl (un.keep b o e q (nofr b) (by simp))
        | some u =>
          rcases entryH_cases q with ⟨⟨y, hy, rfl⟩, rfl⟩ | ⟨_, rfl⟩
          · obtain ⟨more, z⟩ := un.tbls _ _ q
            exact .inr ⟨y, hy, rfl, _, hok' _ _ z⟩
          · obtain ⟨g1, _⟩ := hok _ _ q
            obtain ⟨g2, _⟩ := hok' _ _ (un.frzs _ _ _ q)
            rw [e] at g1; cases g1
            exact .inl g2
      refine ⟨rfl, ⟨fun b o e => ?_, fun b o e => ?_⟩, os, bare⟩
      · rcases after b o e with z | ⟨y, hy, rfl, more, z⟩
        · exact .inl z
        · obtain ⟨m1, m2, m3⟩ := hM y hy
          rw [m3] at e; cases e
          exact .inr (.inl ⟨((codB_hd KX m1).tab m3).isCodeTable, rfl, #[], more, rfl, by rw [Array.empty_append]; exact z⟩)
      · rcases after b o e with z | ⟨_, _, _, more, z⟩
        · exact ⟨_, z⟩
        · exact ⟨_, z⟩
theorem walk_ofT {l : PySem.W.OpenLaw} {q : Program} {loose : List Str} {XP : (Str → Option Value) → Heap → Prop} {YP : World → Heap → Prop} {d : DefRec}
    (hn : l.most = some 63) (hdf : d.params.defaults = []) (hr : Room k callerA)
    (hF : ∀ (w : World) (mg : Str → Option Value) (fa : Addr) (h : Heap), YP w h → h.Ns mainGlobals mg → mg d.name = some (.ref fa) →
      ∃ (T : Tab) (fd : FuncData) (F : Fn), (∀ p ∈ T.tt, ∃ y ∈ mk, p.1 = (cpIn T.K y).2) ∧ T.K.In h ∧ MkTabs mk T.K h ∧ (∀ (s : Shared) (u : Value), BindsTo s fd ⟨[u], []⟩ [(x, u)]) ∧ LawDoes F ∧
        ∀ base : Heap, T.K.In base → base.Ns mainGlobals mg → (∀ y ∈ mk, LamX.TabB base mg (cpIn T.K y).1 (cpIn T.K y).2) → FnOk l.prog w T.K mg base (L2.CX l.prog w) k fa fd [x] (sp T 1 F)) :
    PySem.W.WalkO q loose XP YP l.row.toRowW d [] (fun f vs => PySem.call f vs) := by
  refine Att.attach_callB hn hdf fun w s₀ s₁ mg mb fa o pm cd doc a vs ns G Y ho hd hcd hmg hobj hints hlen _ hg => ?_
  obtain ⟨T, fd, F, htt, KX, hM, hb, hL, hFn⟩ := hF w mg fa _ Y G.T.g hmg
  exact law_callT htt KX G.T.g G.T.b G.T.builtins G.T.nolimit hg hM G.T.bmain hobj hints hlen hr hFn hb hL
end
end Fz
set_option Elab.async false
set_option linter.all false
set_option maxRecDepth 100000
set_option maxHeartbeats 4000000
namespace Fz
open PySem L2 PySem.Spec PyProof.Rows
section
variable {X : Cx} {pins : List (Addr × Obj)} {σ : L2.St} {H Hp' H' : Hp} {s s' : Shared} {hid : Addr → Prop}
end
section
variable {X : Cx} {k : Nat} {f : Addr} {fd : FuncData} {ps : List Str} {sp : Sp} {E : L2.St → XK} {x : Str} {p pos lpos : Pos} {e : Expr} {L : LamD} {P C : Addr} {js : List Nat} {te : TE}
end
end Fz
set_option Elab.async false
set_option linter.all false
set_option maxRecDepth 100000
set_option maxHeartbeats 4000000
namespace Fz
open PySem L2 PySem.Spec PyProof.Rows
mutual
def noX : D → Bool
  | .ext _ _ => false
  | .tup ds => noXs ds
  | .lst ds => noXs ds
  | .obj _ ds => noXs ds
  | .dct ks vs => noXs ks && noXs vs
  | _ => true
def noXs : List D → Bool
  | [] => true
  | d :: ds => noX d && noXs ds
end
mutual
def noXR : R → Bool
  | .d x => noX x
  | .ol xs => noXs xs
  | .oi _ fs => noXs fs
  | .od ks vs => noXs ks && noXs vs
  | .nl cs => noXRs cs
  | .nt cs => noXRs cs
  | .ni _ cs => noXRs cs
  | .nd ks cs => noXs ks && noXRs cs
def noXRs : List R → Bool
  | [] => true
  | c :: cs => noXR c && noXRs cs
end
def oneH (a : Addr) (ob : Obj) : Heap := { objs := Array.replicate (a + 1) ob }
theorem oneH_at {a : Addr} {ob : Obj} (h : ob.data ≠ .freed) : (oneH a ob).get? a = some ob := by
  have : (oneH a ob).objs[a]? = some ob := by show (Array.replicate (a + 1) ob)[a]? = some ob; simp
  unfold Heap.get?
  rw [this]
  obtain ⟨c, d, dt, sl⟩ := ob
  cases dt <;> first | rfl | exact absurd rfl h
theorem oneH_of {a b : Addr} {ob o : Obj} (h : (oneH a ob).get? b = some o) : o = ob := by
  unfold Heap.get? at h
  have z : ∀ o, (oneH a ob).objs[b]? = some o → o = ob := fun o z => by
    have z : (Array.replicate (a + 1) ob)[b]? = some o := z
    rw [Array.getElem?_replicate] at z
    split at z
    · exact (Option.some.inj z).symm
    · cases z
  split at h
  · cases h
  · exact z _ h
theorem celO_ne_dG {c : Addr} {xs : List V} {w : World} {a : Addr} {ep : Nat} {es : List (KX × V)} : CelO c xs ≠ dG w a ep es := fun z => by
  unfold dG CelO at z
  have h := HO.ext.inj z
  let ys : List DictEntry := es.map fun e => ⟨e.1.hash w, e.1.val, valOf e.2⟩
  have pr : ∀ es : List (KX × V), Paired (entOk w) es (es.map fun e => (⟨e.1.hash w, e.1.val, valOf e.2⟩ : DictEntry)) := fun es => by
    induction es with
    | nil => exact .nil
    | cons e es ih => exact .cons ⟨rfl, KX.val_is _, valOf_rel _⟩ ih
  let ob : Obj := { cls := .type "dict", data := .dict ys.toArray ep }
  obtain ⟨v, u, _, _, o, ho, hd⟩ := (congrFun h (oneH a ob)).mpr ⟨ob, ys.toArray, oneH_at (fun z => by cases z), ⟨rfl, rfl, rfl⟩, rfl, pr es⟩
  rw [oneH_of ho] at hd
  cases hd
theorem celO_ne_code {c a : Addr} {xs : List V} {q : Str} : CelO c xs ≠ CodeO a q := fun z => by
  unfold CelO CodeO at z
  have h := HO.ext.inj z
  let ob : Obj := { cls := .none, data := .fields #[.none, .str q default] }
  obtain ⟨v, u, _, _, o, ho, hd⟩ := (congrFun h (oneH a ob)).mpr ⟨ob, _, default, oneH_at (fun z => by cases z), rfl, rfl⟩
  rw [oneH_of ho] at hd
  cases hd
section
variable {T : Tab} {B H : Hp} {hid : Addr → Prop}
mutual
theorem Rep.drop (hh : ∀ a, hid a → ∃ c xs, B a = some (CelO c xs)) : ∀ (d : D) {v : V}, noX d = true → Rep T B d v → Rep T (hidH hid B) d v
  | .non, _, _, h => h
  | .bl _, _, _, h => h
  | .int _, _, _, h => h
  | .str _, _, _, h => h
  | .ext _ _, _, n, _ => by cases (show false = true from n)
  | .tup ds, v, n, h => by
    unfold Rep at h ⊢
    obtain ⟨a, xs, h1, h2, h3⟩ := h
    refine ⟨a, xs, h1, h2.imp (fun z => ?_) id, Reps.drop hh ds n h3⟩
    rw [hidH_out]
    · exact z
    · intro y
      obtain ⟨c, xs', e⟩ := hh a y
      rw [z] at e; unfold CelO at e; cases e
  | .lst ds, v, n, h => by
    unfold Rep at h ⊢
    obtain ⟨a, xs, h1, h2, h3⟩ := h
    have na : ∀ {u : HO}, B a = some u → (∀ φ, u ≠ .ext φ) → hidH hid B a = some u := fun {u} z n => by
      rw [hidH_out]
      · exact z
      · intro y
        obtain ⟨c, xs', e⟩ := hh a y
        rw [z] at e; exact n _ (Option.some.inj e)
    refine ⟨a, xs, h1, ?_, Reps.drop hh ds n h3⟩
    rcases h2 with (z | ⟨o, z⟩) | z
    · exact .inl (.inl (na z fun φ z => nomatch z))
    · exact .inl (.inr ⟨o, na z fun φ z => nomatch z⟩)
    · exact .inr z
  | .obj c fs, v, n, h => by
    unfold Rep at h ⊢
    obtain ⟨a, dx, fvs, h1, h2, h3, h4⟩ := h
    refine ⟨a, dx, fvs, h1, ?_, h3, Reps.drop hh fs n h4⟩
    rw [hidH_out]
    · exact h2
    · intro y
      obtain ⟨c, xs', e⟩ := hh a y
      rw [h2] at e; unfold CelO at e; cases e
  | .dct ks vs, v, n, h => by
    have n := (Bool.and_eq_true _ _).mp (show (noXs ks && noXs vs) = true from n)
    unfold Rep at h ⊢
    obtain ⟨a, ep, es, h1, h2, h3, h4, h5⟩ := h
    refine ⟨a, ep, es, h1, ?_, h3, KReps.drop hh ks n.1 h4, Reps.drop hh vs n.2 h5⟩
    rw [hidH_out]
    · exact h2
    · intro y
      obtain ⟨c, xs', e⟩ := hh a y
      rw [h2] at e; exact celO_ne_dG (Option.some.inj e).symm
theorem Reps.drop (hh : ∀ a, hid a → ∃ c xs, B a = some (CelO c xs)) : ∀ (ds : List D) {xs : List V}, noXs ds = true → Reps T B ds xs → Reps T (hidH hid B) ds xs
  | [], _, _, h => h
  | d :: ds, xs, n, h => by
    have n := (Bool.and_eq_true _ _).mp (show (noX d && noXs ds) = true from n)
    unfold Reps at h ⊢
    obtain ⟨v, r, h1, h2, h3⟩ := h
    exact ⟨v, r, h1, Rep.drop hh d n.1 h2, Reps.drop hh ds n.2 h3⟩
theorem KReps.drop (hh : ∀ a, hid a → ∃ c xs, B a = some (CelO c xs)) : ∀ (ds : List D) {xs : List KX}, noXs ds = true → KReps T B ds xs → KReps T (hidH hid B) ds xs
  | [], _, _, h => h
  | d :: ds, xs, n, h => by
    have n := (Bool.and_eq_true _ _).mp (show (noX d && noXs ds) = true from n)
    unfold KReps at h ⊢
    obtain ⟨x, r, h1, h2, h3⟩ := h
    refine ⟨x, r, h1, ?_, KReps.drop hh ds n.2 h3⟩
    cases x with
    | v k => exact h2
    | t k a => exact ⟨h2.1, Rep.drop hh d n.1 h2.2⟩
end
mutual
theorem RelR.drop (hh : ∀ a, hid a → ∃ c xs, B a = some (CelO c xs)) (eB : Ex B H) : ∀ {r : R} {v : V}, noXR r = true → RelR T B H r v → (∀ b, Ow H r v b → ¬ hid b) → RelR T (hidH hid B) (hidH hid H) r v
  | .d x, v, n, h, k => by unfold RelR at h ⊢; exact Rep.drop hh x n h
  | .ol xs, v, n, h, k => by
    unfold RelR at h ⊢
    obtain ⟨b, ys, h1, h2, h3⟩ := h
    exact ⟨b, ys, h1, by rw [hidH_out (k b (by unfold Ow; exact h1))]; exact h2, Reps.drop hh _ n h3⟩
  | .oi c fs, v, n, h, k => by
    unfold RelR at h ⊢
    obtain ⟨b, dx, fvs, h1, h2, h3, h4⟩ := h
    exact ⟨b, dx, fvs, h1, by rw [hidH_out (k b (by unfold Ow; exact h1))]; exact h2, h3, Reps.drop hh _ n h4⟩
  | .od ks vs, v, n, h, k => by
    have n := (Bool.and_eq_true _ _).mp (show (noXs ks && noXs vs) = true from n)
    unfold RelR at h ⊢
    obtain ⟨b, xs, h1, ⟨ep, es, h2, g1, g2, g3⟩, h3⟩ := h
    exact ⟨b, xs, h1, ⟨ep, es, by rw [hidH_out (k b (by unfold Ow; exact h1))]; exact h2, g1, KReps.drop hh _ n.1 g2, g3⟩, Reps.drop hh _ n.2 h3⟩
  | .nl cs, v, n, h, k => by
    unfold RelR at h ⊢
    obtain ⟨b, ys, h1, h2, h3, h4⟩ := h
    have kb := k b (by unfold Ow; exact .inl h1)
    have kc : ∀ p, OwL H cs ys p → ¬ hid p := fun p z => k p (by unfold Ow; exact .inr ⟨b, ys, h1, .inl h2, z⟩)
    exact ⟨b, ys, h1, by rw [hidH_out kb]; exact h2, RelRs.drop hh eB n h3 kc, fun z => h4 (OwL.dropB hh eB h3 kc z)⟩
  | .nt cs, v, n, h, k => by
    unfold RelR at h ⊢
    obtain ⟨b, ys, h1, h2, h3⟩ := h
    have kc : ∀ p, OwL H cs ys p → ¬ hid p := fun p z => k p (by unfold Ow; exact ⟨b, ys, h1, .inr (.inl h2.2), z⟩)
    have nb : ¬ hid b := fun y => by
      obtain ⟨c, xs', e⟩ := hh b y
      rw [h2.1] at e; unfold CelO at e; cases e
    exact ⟨b, ys, h1, ⟨by rw [hidH_out nb]; exact h2.1, by rw [hidH_out nb]; exact h2.2⟩, RelRs.drop hh eB n h3 kc⟩
  | .ni c cs, v, n, h, k => by
    unfold RelR at h ⊢
    obtain ⟨b, dx, fvs, h1, h2, h5, h3, h4⟩ := h
    have kb := k b (by unfold Ow; exact .inl h1)
    have kc : ∀ p, OwL H cs (fvs.map (·.2)) p → ¬ hid p := fun p z => k p (by unfold Ow; exact .inr ⟨b, _, h1, .inr (.inr (.inl ⟨_, _, _, h2, rfl⟩)), z⟩)
    exact ⟨b, dx, fvs, h1, by rw [hidH_out kb]; exact h2, h5, RelRs.drop hh eB n h3 kc, fun z => h4 (OwL.dropB hh eB h3 kc z)⟩
  | .nd ks cs, v, n, h, k => by
    have n := (Bool.and_eq_true _ _).mp (show (noXs ks && noXRs cs) = true from n)
    unfold RelR at h ⊢
    obtain ⟨b, ys, h1, ⟨ep, es, h2, g1, g2, g3⟩, h3, h4⟩ := h
    have kb := k b (by unfold Ow; exact .inl h1)
    have kc : ∀ p, OwL H cs ys p → ¬ hid p := fun p z => k p (by unfold Ow; exact .inr ⟨b, ys, h1, .inr (.inr (.inr ⟨_, ep, es, h2, g3⟩)), z⟩)
    exact ⟨b, ys, h1, ⟨ep, es, by rw [hidH_out kb]; exact h2, g1, KReps.drop hh _ n.1 g2, g3⟩, RelRs.drop hh eB n.2 h3 kc, fun z => h4 (OwL.dropB hh eB h3 kc z)⟩
theorem RelRs.drop (hh : ∀ a, hid a → ∃ c xs, B a = some (CelO c xs)) (eB : Ex B H) : ∀ {rs : List R} {vs : List V}, noXRs rs = true → RelRs T B H rs vs → (∀ b, OwL H rs vs b → ¬ hid b) → RelRs T (hidH hid B) (hidH hid H) rs vs
  | [], vs, n, h, k => by unfold RelRs at h ⊢; exact h
  | r :: rs, vs, n, h, k => by
    have n := (Bool.and_eq_true _ _).mp (show (noXR r && noXRs rs) = true from n)
    unfold RelRs at h ⊢
    obtain ⟨y, t, h1, h2, h3, h4⟩ := h
    have k1 : ∀ p, Ow H r y p → ¬ hid p := fun p z => k p (by unfold OwL; exact ⟨y, t, h1, .inl z⟩)
    have k2 : ∀ p, OwL H rs t p → ¬ hid p := fun p z => k p (by unfold OwL; exact ⟨y, t, h1, .inr z⟩)
    exact ⟨y, t, h1, RelR.drop hh eB n.1 h2 k1, RelRs.drop hh eB n.2 h3 k2, fun b z1 z2 => h4 b (Ow.dropB hh eB h2 k1 z1) (OwL.dropB hh eB h3 k2 z2)⟩
theorem Ow.dropB (hh : ∀ a, hid a → ∃ c xs, B a = some (CelO c xs)) (eB : Ex B H) {r : R} {v : V} {a : Addr} (h : RelR T B H r v) (k : ∀ p, Ow H r v p → ¬ hid p) (z : Ow (hidH hid H) r v a) : Ow H r v a :=
  Ow.back (fun b xs q => by
    rw [hidH_out]
    · exact q
    · intro y
      obtain ⟨c, xs', e⟩ := hh b y
      have := eB b _ e
      rw [q] at this; unfold CelO at this; cases this) h (fun p o g1 g2 => by rw [hidH_out (k p g1)]; exact g2) z
theorem OwL.dropB (hh : ∀ a, hid a → ∃ c xs, B a = some (CelO c xs)) (eB : Ex B H) {rs : List R} {vs : List V} {a : Addr} (h : RelRs T B H rs vs) (k : ∀ p, OwL H rs vs p → ¬ hid p) (z : OwL (hidH hid H) rs vs a) : OwL H rs vs a :=
  OwL.back (fun b xs q => by
    rw [hidH_out]
    · exact q
    · intro y
      obtain ⟨c, xs', e⟩ := hh b y
      have := eB b _ e
      rw [q] at this; unfold CelO at this; cases this) h (fun p o g1 g2 => by rw [hidH_out (k p g1)]; exact g2) z
end
theorem Sim.drop {st : Sl} {σ : L2.St} {F : Hp} (S : Sim T st σ B F H) (hh : ∀ a, hid a → ∃ c xs, B a = some (CelO c xs)) (n : ∀ (i : Nat) r, st[i]? = some (some r) → noXR r = true) : Sim T st σ (hidH hid B) F (hidH hid H) := by
  have nF : ∀ a o, F a = some o → ¬ hid a := fun a o h z => by
    obtain ⟨c, xs, e⟩ := hh a z
    rw [S.dis a o h] at e; cases e
  have no : ∀ {i : Nat} {r : R} {v : V}, st[i]? = some (some r) → σ[i]? = some (some v) → ∀ b, Ow H r v b → ¬ hid b := fun {i r v} h1 h2 b o z => by
    obtain ⟨c, xs, e⟩ := hh b z
    rw [(S.own i r v b h1 h2 o).1] at e; cases e
  have bk : ∀ {i : Nat} {r : R} {v : V} {a : Addr}, st[i]? = some (some r) → σ[i]? = some (some v) → Ow (hidH hid H) r v a → Ow H r v a := fun {i r v a} h1 h2 o => by
    obtain ⟨v', h4, h5⟩ := S.rel i r h1
    rw [h2] at h4; cases h4
    exact Ow.dropB hh S.exB h5 (no h1 h2) o
  refine ⟨fun a o h => ?_, fun a o h => by rw [hidH_out (nF a o h)]; exact S.exF a o h, fun a o h => by rw [hidH_out (nF a o h)]; exact S.dis a o h, fun a xs h => ?_, S.len, fun i r h => ?_, fun i r v a h1 h2 h3 => ?_, fun i j r q v u a n' h1 h2 h3 h4 h5 h6 => S.sep i j r q v u a n' h1 h2 h3 h4 (bk h1 h2 h5) (bk h3 h4 h6), ⟨S.tbs.noF, fun p hp => ?_⟩⟩
  · by_cases z : hid a
    · rw [hidH_in z] at h; cases h
    · rw [hidH_out z] at h ⊢; exact S.exB a o h
  · by_cases z : hid a
    · rw [hidH_in z] at h; cases h
    · rw [hidH_out z] at h ⊢; exact S.tup a xs h
  · obtain ⟨v, h1, h2⟩ := S.rel i r h
    exact ⟨v, h1, h2.drop hh S.exB (n i r h) (no h h1)⟩
  · have h3 := bk h1 h2 h3
    obtain ⟨z1, z2⟩ := S.own i r v a h1 h2 h3
    exact ⟨by rw [hidH_out (no h1 h2 a h3)]; exact z1, z2⟩
  · obtain ⟨h1, ps, h3, h4, h5⟩ := S.tbs.tab p hp
    have np : ¬ hid p.1 := fun z => by
      obtain ⟨c, xs, e⟩ := hh _ z
      rw [h1] at e; cases e
    refine ⟨by rw [hidH_out np]; exact h1, ps, by rw [hidH_out np]; exact h3, h4, fun pos cv hc => ?_⟩
    obtain ⟨c, a1, b1⟩ := h5 pos cv hc
    refine ⟨c, a1, ?_⟩
    rw [hidH_out]
    · exact b1
    · intro y
      obtain ⟨c', xs, e⟩ := hh _ y
      rw [b1] at e
      exact celO_ne_code (Option.some.inj e).symm
end
end Fz
set_option Elab.async false
set_option linter.all false
set_option maxRecDepth 100000
set_option maxHeartbeats 4000000
namespace Fz
open PySem L2 PySem.Spec PyProof.Rows
section
variable {T : Tab} {E : L2.St → XK} {st : Sl} {σ : L2.St} {B F H : Hp} {lam : Nat → Option LamD}
end
end Fz
set_option Elab.async false
set_option linter.all false
set_option maxRecDepth 100000
set_option maxHeartbeats 4000000
namespace Fz
open PySem L2 PySem.Spec PyProof.Rows
abbrev TC := (L2.St → VK) → L2.St → Hp → Prop
structure PC (X : Cx) (ss : List Stmt) (t : TC) : Prop where
  run : ∀ (pins : List (Addr × Obj)) (s : Shared) (σ : L2.St) (H : Hp) (Q : L2.St → VK), Inv X pins σ H s → t Q σ H → wpAny (model X.prog X.w) X.A (execs ss X.env) (fun fl s' => ∃ u v σ' H', fl = .ret u ∧ Inv X pins σ' H' s' ∧ RelV v u ∧ Q σ' v H') X.xe s
def uRet (te : TE) : TC := fun Q σ H => te σ H (Q σ)
def uIf (tc : TT) (ta tr : TC) : TC := fun Q σ H => tc σ H fun b H1 => if b = true then ta Q σ H1 else tr Q σ H1
def uSeq (t : TS) (u : TC) : TC := fun Q σ H => t { nx := fun σ' H' => u Q σ' H', rt := fun _ _ => False } σ H
section
variable {X : Cx} {e c : Expr} {pos : Pos} {st : Stmt} {a rest : List Stmt} {te : TE} {tc : TT} {t : TS} {u ta tr : TC}
theorem pc_ret (he : PE X e te) : PC X [.Return (some e) pos] (uRet te) := by
  refine ⟨fun pins s σ H Q I h => ?_⟩
  exact wpAny_execs_cons (wpAny_Return_some (thn (he.run pins s σ H _ I h) fun v s1 ⟨x, H1, I1, r1, q1⟩ => ⟨v, x, σ, H1, rfl, I1, r1, q1⟩))
theorem pc_if (hc : PT X c tc) (ha : PC X a ta) (hr : PC X rest tr) : PC X (.If c a [] pos :: rest) (uIf tc ta tr) := by
  refine ⟨fun pins s σ H Q I h => ?_⟩
  refine wpAny_execs_cons (wpAny_If (thn (hc.run pins s σ H _ I h) fun d s1 ⟨H1, I1, q1⟩ => ?_))
  cases d with
  | true =>
    refine thn (ha.run pins s1 σ H1 Q I1 q1) fun fl s2 ⟨u, v, σ', H', e, q⟩ => ?_
    subst e
    exact ⟨u, v, σ', H', rfl, q⟩
  | false => exact wpAny_execs_nil (hr.run pins s1 σ H1 Q I1 q1)
theorem pc_seq (h1 : PS X st t) (h2 : PC X rest u) : PC X (st :: rest) (uSeq t u) := by
  refine ⟨fun pins s σ H Q I h => ?_⟩
  refine wpAny_execs_cons (thn (h1.run pins s σ H _ I h) fun f s1 q => ?_)
  cases f with
  | next =>
    obtain ⟨σ', H', I', q⟩ := q
    exact h2.run pins s1 σ' H' Q I' q
  | ret v => obtain ⟨_, _, _, _, _, q⟩ := q; exact False.elim q
  | brk => obtain ⟨_, _, _, q⟩ := q; exact False.elim q
  | cont => obtain ⟨_, _, _, q⟩ := q; exact False.elim q
end
def addK (T : Tab) (C : Addr) : List ((Str × Nat) × D × V) → Hp → Hp
  | [], H => H
  | q :: r, H => upd (addK T C r H) (C + 1 + q.1.2) (T.xo (celK q.1.2 q.2.1) (C + 1 + q.1.2) [q.2.2])
section
variable {T : Tab} {C : Addr} {H : Hp} {a : Addr}
theorem addK_out : ∀ {l : List ((Str × Nat) × D × V)}, (∀ q ∈ l, a ≠ C + 1 + q.1.2) → addK T C l H a = H a
  | [], _ => rfl
  | q :: r, h => by
    unfold addK
    rw [upd_ne (h q (.head _)), addK_out fun z hz => h z (.tail _ hz)]
theorem addK_in : ∀ {l : List ((Str × Nat) × D × V)}, (l.map (·.1.2)).Nodup → ∀ q ∈ l, addK T C l H (C + 1 + q.1.2) = some (T.xo (celK q.1.2 q.2.1) (C + 1 + q.1.2) [q.2.2])
  | p :: r, h, q, hq => by
    rw [List.map_cons] at h
    have h := List.nodup_cons.mp h
    unfold addK
    rcases List.mem_cons.mp hq with e | hq
    · subst e; exact upd_same
    · rw [upd_ne fun z => h.1 (by rw [← Nat.add_left_cancel z]; exact List.mem_map.mpr ⟨q, hq, rfl⟩)]
      exact addK_in h.2 q hq
end
theorem celK_holds {P : Program} {w : World} {T : Tab} {lam : Nat → Option LamD} {H : Hp} {h : Heap} {C : Addr} {p : Nat} {d : D} {v : V} {u : Value} (Xo : XoOk T lam) (hp : p < 99) (r : RelV v u) (ic : h.IsCell (C + 1 + p) (some u)) (lt : imm d = false → ∀ b, v = .ref b → b < C + 1) : ∃ φ, T.xo (celK p d) (C + 1 + p) [v] = .ext φ ∧ φ h ∧ (∀ h1 h2 : Heap, φ h1 → (∀ o, h1.get? (C + 1 + p) = some o → h2.get? (C + 1 + p) = some o) → φ h2) := by
  unfold celK
  split
  · rw [Xo.cel]
    refine ⟨_, rfl, ⟨v, u, rfl, r, ic⟩, ?_⟩
    exact fun h1 h2 ⟨v, u, e, rv, o', ho', hd'⟩ st => ⟨v, u, e, rv, o', st _ ho', hd'⟩
  · rename_i im
    have im : imm d = false := by simpa using im
    rw [Xo.ceb p _ _ hp]
    refine ⟨_, rfl, ⟨v, u, rfl, r, ic, fun b e => ?_⟩, ?_⟩
    · exact Nat.add_lt_add_right (lt im b e) p
    · exact fun h1 h2 ⟨v, u, e, rv, ⟨o', ho', hd'⟩, l⟩ st => ⟨v, u, e, rv, ⟨o', st _ ho', hd'⟩, l⟩
def CapAt (X : Cx) (C : Addr) (L : LamD) (pl js : List Nat) : Prop := pl = L.caps.map (·.2) ∧ (L.caps.map (·.2)).Nodup ∧ (∀ p ∈ L.caps, p.2 < 99) ∧ Paired (fun (q : Str × Nat) (j : Nat) => X.N[j]? = some q.1 ∧ (X.env.scope.names.lookup q.1 = some .cell ∨ X.env.scope.names.lookup q.1 = some .free) ∧ X.env.cells.lookup q.1 = some (C + 1 + q.2)) L.caps js
def QC (T : Tab) (X : Cx) (C : Addr) (Q : VK) : L2.St → VK := fun σ v H => ∃ l : List ((Str × Nat) × D × V), (l.map (·.1.2)).Nodup ∧
  (∀ q ∈ l, q.1.2 < 99 ∧ (∃ j : Nat, X.N[j]? = some q.1.1 ∧ σ[j]? = some (some q.2.2) ∧ (X.env.scope.names.lookup q.1.1 = some .cell ∨ X.env.scope.names.lookup q.1.1 = some .free) ∧ X.env.cells.lookup q.1.1 = some (C + 1 + q.1.2)) ∧ (imm q.2.1 = false → ∀ b, q.2.2 = .ref b → b < C + 1)) ∧
  ((∀ q ∈ l, H (C + 1 + q.1.2) = none) → Q v (addK T C l H))
section
variable {P : Program} {w : World} {T : Tab} {mg : Str → Option Value} {base : Heap} {CX : CXT} {k : Nat} {f : Addr} {fd : FuncData} {ps : List Str} {sp : Sp} {lam : Nat → Option LamD}
theorem fnr_ofC (Xo : XoOk T lam) {name qual : Str} {params : Arguments} {body : List Stmt} {scope : Scope} {dV kV doc pm cdv ct oc : Value} {an od : Option Addr}
    {osl : Array (Option Value)} {N : List Str} (lk : T.K.lookup f = some ⟨oc, od, .func (PySem.W.fnOf name qual params body scope dV kV doc pm an cdv ct), osl⟩) (hcd : PySem.W.codeIn T.K cdv qual = true) (S : FnScope N ps scope)
    (len : ∀ vs H Q E, sp vs H Q E → vs.length = ps.length)
    (hbody : ∀ (A : Around) (outer : List Env) (s : Shared) (H : Hp) (vs : List V) (Q : VK) (E : XK), Room k (A.deeper (envOfC qual scope s.heap.objs.size f cdv)) → T.K.In s.heap → HOk P w H s.heap → sp vs H Q E →
      ∃ t, PC (cxOf CX P w T.K mg base N qual scope f cdv A outer s H E) body t ∧ t (QC T (cxOf CX P w T.K mg base N qual scope f cdv A outer s H E) s.heap.objs.size Q) (L2.start N vs) H) :
    FnOk P w T.K mg base CX (k + 1) f (PySem.W.fnOf name qual params body scope dV kV doc pm an cdv ct) ps sp := by
  refine ⟨len, fun A outer s H args us vs Q E hr e0 hb r hsp => ?_⟩
  have hl := len _ _ _ _ hsp
  have KX : T.K.In s.heap := e0.mod.kin.keeps fun b o e => (e0.bs b o e).1
  have lim : s.heap.NoLimit := e0.mod.nolimit.keeps fun b o e => (e0.bs b o e).1
  refine codeAny_call_function hr.depth (KX _ _ lk) rfl S.co S.gen rfl (PySem.W.codeRec_of KX hcd) (hb _ _ _ _ ?_)
  refine wpAny_newFunctionEnv_cells S.kind (fun ⟨n, v⟩ hy => (S.par n (List.of_mem_zip hy).1).imp id fun q => ⟨q, PySem.W.cellsFrom_some _ _ _ (.inl q)⟩) fun env he s1 x => ?_
  subst he
  refine ⟨lim.keeps x.toInCall.keep, codeAny_func ?_⟩
  obtain ⟨t, ht, hq⟩ := hbody A outer s H vs Q E (hr.deeper _) KX e0.hok hsp
  have I : Inv (cxOf CX P w T.K mg base N qual scope f cdv A outer s H E) [] (L2.start N vs) H s1 := inv_start S hr.hd e0 hl r x
  refine wpAny_mono (ht.run [] s1 (L2.start N vs) H _ I hq) (fun fl s' hs => ?_) fun e s' hs => hs
  obtain ⟨u, v, σ', H', rfl, J, rv, l, nd, hc, q⟩ := hs
  show CE outer P w H s Q u s'
  have fr : ∀ q ∈ l, H' (s.heap.objs.size + 1 + q.1.2) = none := fun q hq => by
    obtain ⟨_, ⟨_, _, _, _, e⟩, _⟩ := hc q hq
    exact J.freeC _ _ e
  have inn := fun q hq => addK_in (T := T) (C := s.heap.objs.size) (H := H') nd q hq
  have un := J.base
  have un : Un (frs outer) [] H H' s.heap s'.heap := un
  have tr : ∀ {b : Addr} {o : HO}, H' b = some o → addK T s.heap.objs.size l H' b = some o := fun {b o} e => by
    rw [addK_out]
    · exact e
    · intro q hq z
      rw [z, fr q hq] at e; cases e
  refine ⟨v, addK T s.heap.objs.size l H', J.os, J.bare, ⟨un.keep, un.slot, fun b o e n nx => ?_, un.there, fun b xs e => tr (un.tups b xs e), fun b o u' e => tr (un.frzs b o u' e), fun b p' e => ?_⟩, fun b u' e => ?_, rv, q fr⟩
  · rw [addK_out]
    · exact un.free b o e n nx
    · intro q hq z
      exact absurd (Heap.lt_size e) (by rw [z]; exact Nat.not_lt.mpr (Nat.le_trans (Nat.le_add_right _ 1) (Nat.le_add_right _ _)))
  · obtain ⟨more, z⟩ := un.tbls b p' e
    exact ⟨more, tr z⟩
  · by_cases z : ∃ q ∈ l, b = s.heap.objs.size + 1 + q.1.2
    · obtain ⟨q, hq, rfl⟩ := z
      obtain ⟨h99, ⟨j, g1, g2, g3, g4⟩, lt⟩ := hc q hq
      rw [inn q hq] at e
      obtain ⟨m, _, hl'⟩ := J.loc
      obtain ⟨u2, ru, lk2⟩ := hl' j q.1.1 q.2.2 g1 g2 (g3.elim (fun z => .inr (.inl z)) fun z => .inr (.inr z))
      have ic : s'.heap.IsCell (s.heap.objs.size + 1 + q.1.2) (some u2) := by
        rcases lk2 with ⟨kk, _⟩ | ⟨_, c, l', z⟩
        · have kk : (cxOf CX P w T.K mg base N qual scope f cdv A outer s H E).env.scope.names.lookup q.1.1 = some .local := kk
          rcases g3 with g3 | g3 <;> rw [g3] at kk <;> cases kk
        · rw [g4] at l'; cases l'
          exact z
      obtain ⟨φ, e1, e2, e3⟩ := celK_holds (P := P) (w := w) (H := H) Xo h99 ru ic lt
      rw [e1] at e; cases e
      obtain ⟨o, ho, _⟩ := ic
      exact ⟨e2, ⟨o, ho⟩, e3⟩
    · have e' : H' b = some u' := by
        rw [addK_out] at e
        · exact e
        · exact fun q hq z' => z ⟨q, hq, z'⟩
      exact (J.hok b u' e').stay (fun b o _ q => q) (fun b q => tr q) fun b xs q => tr q
end
end Fz
set_option Elab.async false
set_option linter.all false
set_option maxRecDepth 100000
set_option maxHeartbeats 4000000
namespace Fz
open PySem L2 PySem.Spec PyProof.Rows
inductive RC where
  | r (d : D) | lam (i : Nat) (pl js : List Nat)
abbrev MC := Sl → Option (RC × Sl)
def OkC (T : Tab) (lam : Nat → Option LamD) (C : Addr) (K : LamD → List Nat → List Nat → Prop) (kp : Nat → Bool) (o : RC) (s : Sl) (σ : L2.St) (B F : Hp) (Q : L2.St → VK) : Prop := match o with
  | .r d => ∀ v σ' B' H', Ex B B' → Kp kp σ σ' → Sim T s σ' B' F H' → Rep T B' d v → Q σ' v H'
  | .lam i pl js => ∀ L, lam i = some L → K L pl js → ∀ f c' σ' B' H', Ex B B' → Kp kp σ σ' → Sim T s σ' B' F H' → B' f = some (CloO L f (L.xs C c')) → B' c' = some (CodeO c' L.qual) → Q σ' (.ref f) H'
def SemC (T : Tab) (lam : Nat → Option LamD) (C : Addr) (K : LamD → List Nat → List Nat → Prop) (kp : Nat → Bool) (t : TC) (f : MC) : Prop := ∀ st σ B F H, Sim T st σ B F H → ∀ o s, f st = some (o, s) → ∀ Q : L2.St → VK, OkC T lam C K kp o s σ B F Q → t Q σ H
theorem OkC.same {T : Tab} {lam : Nat → Option LamD} {C : Addr} {K : LamD → List Nat → List Nat → Prop} {kp : Nat → Bool} {o : RC} {s : Sl} {σ σ' : L2.St} {B B' F : Hp} {Q : L2.St → VK} (h : OkC T lam C K kp o s σ B F Q) (e : Ex B B') (k : Kp kp σ σ') : OkC T lam C K kp o s σ' B' F Q := by
  cases o with
  | r d => exact fun v σ1 B1 H1 e1 k1 S => h v σ1 B1 H1 (e.trans e1) (k.trans k1) S
  | lam i pl js => exact fun L hL hK f c' σ1 B1 H1 e1 k1 S => h L hL hK f c' σ1 B1 H1 (e.trans e1) (k.trans k1) S
def cRet (m : M D) : MC := fun st => match m st with
  | some (.v d, s) => some (.r d, s)
  | _ => none
def cLam (i : Nat) (pl js : List Nat) : MC := fun st => some (.lam i pl js, st)
def cIf (c : M Bool) (f g : MC) : MC := fun st => match c st with
  | some (.v b, s) => if b = true then f s else g s
  | _ => none
def cSeq (f : MS) (g : MC) : MC := fun st => match f st with
  | some (.nx, s) => g s
  | _ => none
def cap1 (kp : Nat → Bool) (rs : List R) (s : Sl) (j : Nat) : Option D := match s[j]? with
  | some (some (.d d)) => if imm d = true then some d else if kp j = true then (match rs[j]? with
      | some (.d (.ext k ds)) => some (.ext k ds)
      | _ => none) else none
  | _ => none
def capC (kp : Nat → Bool) (rs : List R) (s : Sl) : List Nat → Option (List D)
  | [] => some []
  | j :: js => match cap1 kp rs s j with
    | some d => (capC kp rs s js).map (d :: ·)
    | none => none
def fnOfC (n N : Nat) (kp : Nat → Bool) (body : MC) : Fn := fun rs => if rs.length = n then
  match body (rs.map some ++ List.replicate (N - n) none) with
  | some (.r d, s) => fnEnd kp rs (.v (.d d)) s
  | some (.lam i pl js, s) => (match capC kp rs s js with
    | some ds => fnEnd kp rs (.v (.d (clo i pl ds))) s
    | none => none)
  | none => none
  else none
section
variable {T : Tab} {E : L2.St → XK} {lam : Nat → Option LamD} {C : Addr} {K : LamD → List Nat → List Nat → Prop} {kp : Nat → Bool}
theorem semC_ret {te : TE} {m : M D} (h : SemE T E te m) : SemC T lam C K kp (uRet te) (cRet m) := by
  intro st σ B F H S o s hf Q hQ
  unfold cRet at hf
  split at hf
  · rename_i d s1 e
    cases hf
    exact h st σ B F H S _ _ e _ fun B1 H1 e1 S1 v rv => hQ v σ B1 H1 e1 (Kp.refl _ _) S1 rv
  · cases hf
theorem semC_lam {i : Nat} {L : LamD} {P : Addr} {pl js : List Nat} (hL : lam i = some L) (hm : ∃ p ∈ T.tt, p.1 = P) (hq : ∀ p ∈ T.tt, p.1 = P → p.2 = L.qual) (hK : K L pl js) : SemC T lam C K kp (uRet (tLam L P C)) (cLam i pl js) := by
  intro st σ B F H S o s hf Q hQ
  cases hf
  exact lam_sim S hm hq fun f c' B' H' x S' h1 h2 => hQ L hL hK f c' σ B' H' x (Kp.refl _ _) S' h1 h2
theorem semC_if {tc : TT} {c : M Bool} {t u : TC} {f g : MC} (hc : SemT T E tc c) (h1 : SemC T lam C K kp t f) (h2 : SemC T lam C K kp u g) : SemC T lam C K kp (uIf tc t u) (cIf c f g) := by
  intro st σ B F H S o s hf Q hQ
  unfold cIf at hf
  split at hf
  · rename_i b s1 e
    refine hc st σ B F H S _ _ e _ fun B1 H1 e1 S1 => ?_
    cases b with
    | true => exact h1 s1 σ B1 F H1 S1 o s hf Q (hQ.same e1 (Kp.refl _ _))
    | false => exact h2 s1 σ B1 F H1 S1 o s hf Q (hQ.same e1 (Kp.refl _ _))
  · cases hf
theorem semC_seq {t : TS} {u : TC} {f : MS} {g : MC} (h1 : SemS T E kp t f) (h2 : SemC T lam C K kp u g) : SemC T lam C K kp (uSeq t u) (cSeq f g) := by
  intro st σ B F H S o s hf Q hQ
  unfold cSeq at hf
  split at hf
  · rename_i s1 e
    exact h1 st σ B F H S _ _ e _ fun σ1 B1 H1 e1 k1 S1 => h2 s1 σ1 B1 F H1 S1 o s hf Q (hQ.same e1 k1)
  · cases hf
end
section
variable {T : Tab} {st : Sl} {σ : L2.St} {B F H : Hp} {lam : Nat → Option LamD}
theorem xo_ext {T : Tab} {lam : Nat → Option LamD} (Xo : XoOk T lam) {p : Nat} (hp : p < 99) {d : D} {c : Addr} {xs : List V} : ∃ φ, T.xo (celK p d) c xs = .ext φ := by
  unfold celK
  split
  · rw [Xo.cel]; exact ⟨_, rfl⟩
  · rw [Xo.ceb p _ _ hp]; exact ⟨_, rfl⟩
theorem sim_addK (Xo : XoOk T lam) {C : Addr} : ∀ {l : List ((Str × Nat) × D × V)} {B H : Hp}, Sim T st σ B F H → (l.map (·.1.2)).Nodup → (∀ q ∈ l, q.1.2 < 99) → (∀ q ∈ l, H (C + 1 + q.1.2) = none) → Sim T st σ (addK T C l B) F (addK T C l H) ∧ Ex B (addK T C l B)
  | [], B, H, S, _, _, _ => ⟨S, .refl _⟩
  | q :: r, B, H, S, n, l9, f => by
    rw [List.map_cons] at n
    have n := List.nodup_cons.mp n
    obtain ⟨S1, e1⟩ := sim_addK Xo S n.2 (fun z hz => l9 z (.tail _ hz)) fun z hz => f z (.tail _ hz)
    have hq : addK T C r H (C + 1 + q.1.2) = none := by
      rw [addK_out fun z hz e => n.1 (by rw [Nat.add_left_cancel e]; exact List.mem_map.mpr ⟨z, hz, rfl⟩)]
      exact f q (.head _)
    unfold addK
    obtain ⟨φ, e⟩ := xo_ext Xo (l9 q (.head _)) (d := q.2.1) (c := C + 1 + q.1.2) (xs := [q.2.2])
    rw [e]
    have x := Ext.newT (o := .ext φ) S1.exB hq
    exact ⟨S1.ext x, e1.trans x.b⟩
theorem reps_celK {C c' : Addr} {Bp : Hp} {e : D} (he : Rep T Bp e (.ref c')) : ∀ {caps : List (Str × Nat)} {ds : List D} {ws : List V}, ds.length = caps.length → Reps T Bp ds ws → (∀ q ∈ caps.zip (ds.zip ws), Bp (C + 1 + q.1.2) = some (T.xo (celK q.1.2 q.2.1) (C + 1 + q.1.2) [q.2.2])) →
    Reps T Bp (((caps.map (·.2)).zip ds).map (fun p => cel p.1 p.2) ++ [e]) (caps.map (fun p => V.ref (C + 1 + p.2)) ++ [.ref c'])
  | [], ds, ws, _, _, _ => reps_cons he reps_nil
  | p :: caps, [], ws, l, _, _ => by simp at l
  | p :: caps, d :: ds, ws, l, r, h => by
    unfold Reps at r
    obtain ⟨w, us, rfl, r1, r2⟩ := r
    show Reps T Bp (cel p.2 d :: _) (V.ref (C + 1 + p.2) :: _)
    refine reps_cons ?_ (reps_celK he (by simpa using l) r2 fun q hq => h q (.tail _ hq))
    unfold cel Rep
    exact ⟨_, [w], rfl, .inl (h (p, d, w) (.head _)), reps_cons r1 reps_nil⟩
theorem capC_get {P : Program} {w : World} {h : Heap} {rs : List R} {vs : List V} {s : Sl} {σ' : L2.St} {B0 H0 F0 : Hp} {kp : Nat → Bool} {n : Nat} (G : ∀ i a, T.gf i a → ∃ (oc : Value) (od : Option Addr) (fd : FuncData) (sl : Array (Option Value)), T.K.lookup a = some ⟨oc, od, .func fd, sl⟩) (KX : T.K.In h) (hok : HOk P w H0 h)
    (S0 : Sim T (rs.map some) (vs.map some) B0 F0 H0) (ex : Ex B0 B) (S : Sim T s σ' B F H) (kk : Kp kp (vs.map some ++ List.replicate n none) σ') : ∀ {js : List Nat} {ds : List D}, capC kp rs s js = some ds → ds.length = js.length ∧ ∃ ws, Paired (fun (j : Nat) (q : D × V) => σ'[j]? = some (some q.2) ∧ (imm q.1 = false → ∀ b, q.2 = .ref b → b < h.objs.size + 1)) js (ds.zip ws) ∧ Reps T B ds ws
  | [], ds, hc => by cases hc; exact ⟨rfl, [], .nil, reps_nil⟩
  | j :: js, ds, hc => by
    unfold capC at hc
    split at hc
    · rename_i d hd
      obtain ⟨ds', e, rfl⟩ := Option.map_eq_some_iff.mp hc
      obtain ⟨l, ws, b, c⟩ := capC_get G KX hok S0 ex S kk e
      have one : ∃ v, σ'[j]? = some (some v) ∧ (imm d = false → ∀ b, v = .ref b → b < h.objs.size + 1) ∧ Rep T B d v := by
        unfold cap1 at hd
        split at hd
        · rename_i d' hs
          split at hd
          · rename_i im
            cases hd
            obtain ⟨v, g1, g2⟩ := S.rel j _ hs
            exact ⟨v, g1, (fun z => by rw [im] at z; cases z), g2⟩
          · split at hd
            · rename_i hk
              split at hd
              · rename_i k ds hr
                cases hd
                obtain ⟨v, g1, g2⟩ := S0.rel j (.d (.ext k ds)) (by rw [List.getElem?_map, hr]; rfl)
                have g2 : Rep T B0 (.ext k ds) v := g2
                have hj : j < (vs.map some).length := (List.getElem?_eq_some_iff.mp g1).1
                refine ⟨v, by rw [kk j hk, List.getElem?_append_left hj]; exact g1, fun _ b e => ?_, Rep.mono ex _ g2⟩
                unfold Rep at g2
                obtain ⟨a, xs, rfl, z, _⟩ := g2
                cases e
                refine Nat.lt_succ_of_lt ?_
                rcases z with z | ⟨_, z⟩
                · exact hok.lt (S0.exB _ _ z)
                · obtain ⟨oc, od, fd, sl, z⟩ := G _ _ z
                  exact Heap.lt_size (KX _ _ z)
              · cases hd
            · cases hd
        · cases hd
      obtain ⟨v, g1, g2, g3⟩ := one
      exact ⟨by simp [l], v :: ws, .cons ⟨g1, g2⟩ b, reps_cons g3 c⟩
    · cases hc
end
section
variable {P : Program} {w : World} {T : Tab} {mg : Str → Option Value} {base : Heap} {CX : CXT} {k : Nat} {f : Addr} {lam : Nat → Option LamD}
theorem nodup_zip {α : Type} : ∀ (l : List (Str × Nat)) (ws : List α), ((l.zip ws).map (·.1.2)).Sublist (l.map (·.2)) := by
  intro l
  induction l with
  | nil => intro ws; simp
  | cons q l ih =>
    intro ws
    cases ws with
    | nil => simp
    | cons w ws => simpa using (ih ws)
theorem read_fnC (Xo : XoOk T lam) (G : ∀ i a, T.gf i a → ∃ (oc : Value) (od : Option Addr) (fd : FuncData) (sl : Array (Option Value)), T.K.lookup a = some ⟨oc, od, .func fd, sl⟩) {kp : Nat → Bool} {X : Cx} {h : Heap} {E : XK} {n : Nat} {N : List Str} {t : TC} {f : MC} {vs : List V} {H : Hp} {Q : VK} (KX : T.K.In h) (hok : HOk P w H h) (hp : sp T n (fnOfC n N.length kp f) vs H Q E)
    (hs : SemC T lam h.objs.size (fun L pl js => CapAt X h.objs.size L pl js) kp t f) (hN : X.N = N) (hd : ∀ i L, lam i = some L → True) (hlm : ∀ i pl js st s, f st = some (.lam i pl js, s) → True) : t (QC T X h.objs.size Q) (L2.start N vs) H := by
  obtain ⟨hl, rs, B, F, o, rs', S, e, k⟩ := hp
  unfold fnOfC at e
  split at e
  · rename_i hn
    have S1 := sim_pad S (N.length - n)
    have es : L2.start N vs = vs.map some ++ List.replicate (N.length - n) none := by unfold L2.start; rw [hl]
    rw [es]
    split at e
    · rename_i d s eb
      unfold fnEnd at e
      cases eo : outs kp 0 rs s with
      | none => rw [eo] at e; cases e
      | some qs =>
        rw [eo] at e; cases e
        refine hs _ _ B F H S1 _ _ eb _ fun v σ' B' H' e1 k1 S' rv => ?_
        exact ⟨[], .nil, fun q hq => (nomatch hq), fun _ => k v B' H' e1 (sim_outsT S e1 (S'.push rv) k1 eo)⟩
    · rename_i i pl js s eb
      split at e
      · rename_i ds ec
        unfold fnEnd at e
        cases eo : outs kp 0 rs s with
        | none => rw [eo] at e; cases e
        | some qs =>
          rw [eo] at e; cases e
          refine hs _ _ B F H S1 _ _ eb _ fun L hL ⟨hpl, hnd, h99, hj⟩ f' c' σ' B' H' e1 k1 S' h1 h2 => ?_
          obtain ⟨ld, ws, hw, rd⟩ := capC_get G KX hok S e1 S' k1 ec
          have lc := hj.length
          have lw := rd.length
          have ndz : ((L.caps.zip (ds.zip ws)).map (·.1.2)).Nodup := hnd.sublist (nodup_zip _ _)
          have z99 : ∀ q ∈ L.caps.zip (ds.zip ws), q.1.2 < 99 := fun q hq => h99 q.1 (List.of_mem_zip (a := q.1) (b := q.2) hq).1
          refine ⟨L.caps.zip (ds.zip ws), ndz, fun q hq => ⟨z99 q hq, ?_⟩, fun fr => ?_⟩
          · obtain ⟨m, hm⟩ := List.mem_iff_getElem?.mp hq
            obtain ⟨m1, m2⟩ := List.getElem?_zip_eq_some.mp hm
            obtain ⟨j, hj', g1, g2, g3⟩ := paired_get hj m1
            obtain ⟨q2, hq2, g5, g6⟩ := paired_get hw hj'
            rw [m2] at hq2; cases hq2
            exact ⟨⟨j, g1, g5, g2, g3⟩, g6⟩
          · obtain ⟨S2, e2⟩ := sim_addK Xo (C := h.objs.size) S' ndz z99 fr
            obtain ⟨Bp, hBp⟩ : ∃ Bp, Bp = addK T h.objs.size (L.caps.zip (ds.zip ws)) B' := ⟨_, rfl⟩
            have inn := fun q hq => addK_in (T := T) (C := h.objs.size) (H := B') ndz q hq
            rw [← hBp] at S2 e2 inn
            have rc : Rep T Bp (clo i pl ds) (.ref f') := by
              subst hpl
              unfold clo Rep
              refine ⟨f', L.xs h.objs.size c', rfl, .inl (by rw [Xo.clo i L _ _ hL]; exact e2 _ _ h1), ?_⟩
              refine reps_celK ?_ (by rw [ld]; exact lc.symm) (Reps.mono e2 _ rd) inn
              unfold Rep
              exact ⟨c', [], rfl, .inl (by rw [Xo.cod i L _ _ hL]; exact e2 _ _ h2), reps_nil⟩
            exact k _ _ _ (e1.trans e2) (sim_outsT S (e1.trans e2) (S2.push rc) k1 eo)
      · cases e
    · cases e
  · cases e
def XC (T : Tab) (E : L2.St → XK) (lam : Nat → Option LamD) (C : Addr) (X : Unit → Cx) (kp : Nat → Bool) (ss : List Stmt) (f : MC) : Prop := ∃ t, PC (X ()) ss t ∧ SemC T lam C (fun L pl js => CapAt (X ()) C L pl js) kp t f
section
variable {E : L2.St → XK} {C : Addr} {X : Unit → Cx} {kp : Nat → Bool} {e c : Expr} {pos lpos : Pos} {st : Stmt} {a rest : List Stmt}
theorem xc_ret {m : M D} (h : XE T E X e m) : XC T E lam C X kp [.Return (some e) pos] (cRet m) := let ⟨_, a1, a2⟩ := h; ⟨_, pc_ret (a1 ()), semC_ret a2⟩
theorem xc_if {fc : M Bool} {f g : MC} (hc : XT T E X c fc) (h1 : XC T E lam C X kp a f) (h2 : XC T E lam C X kp rest g) : XC T E lam C X kp (.If c a [] pos :: rest) (cIf fc f g) := let ⟨_, c1, c2⟩ := hc; let ⟨_, a1, a2⟩ := h1; let ⟨_, b1, b2⟩ := h2; ⟨_, pc_if (c1 ()) a1 b1, semC_if c2 a2 b2⟩
theorem xc_seq {f : MS} {g : MC} (h1 : XS T E X kp st f) (h2 : XC T E lam C X kp rest g) : XC T E lam C X kp (st :: rest) (cSeq f g) := let ⟨_, a1, a2⟩ := h1; let ⟨_, b1, b2⟩ := h2; ⟨_, pc_seq (a1 ()) b1, semC_seq a2 b2⟩
theorem xc_lam {i : Nat} {L : LamD} {P : Addr} {pl js : List Nat} (hL : lam i = some L) (hA : LamAt (X ()) T P L.qual) (hK : CapAt (X ()) C L pl js) (hdef : defaultsOf L.params (X ()).env = ([], []) := by rfl) (hcl : cloFrom (X ()).env.cells L.scope.names [] = L.cl C := by rfl) (hfr : ∀ y ∈ L.scope.names, y.2 = .free → y.1 ∈ L.caps.map (·.1) := by decide +kernel) :
    XC T E lam C X kp [.Return (some (.Lambda L.params L.body L.scope lpos)) pos] (cLam i pl js) := by
  obtain ⟨c, g1, g2⟩ := hA.ex
  have caps : ∀ q ∈ L.caps, (X ()).env.cells.lookup q.1 = some (C + 1 + q.2) := fun q hq => by
    obtain ⟨m, hm⟩ := List.mem_iff_getElem?.mp hq
    obtain ⟨_, _, z⟩ := paired_get hK.2.2.2 hm
    exact z.2.2
  exact ⟨_, pc_ret (pe_lam g1 g2 hA.qual hdef (fun y hy e => by
    obtain ⟨q, hq, e2⟩ := List.mem_map.mp (hfr y hy e)
    rw [← e2]
    exact ⟨_, caps q hq⟩) hcl caps), semC_lam hL hA.hm hA.hq hK⟩
end
abbrev DoesM (P : Program) (w : World) (T : Tab) (mg : Str → Option Value) (base : Heap) (lam : Nat → Option LamD) (N : List Str) (qual : Str) (st : Stmt) (c : Addr) (k : Nat) (kp : Nat → Bool) (body : MC) : Prop :=
  ∀ (f : Addr) (A : Around) (outer : List Env) (s : Shared) (H : Hp) (E : XK), Room k (A.deeper (envOfC qual (defScope st) s.heap.objs.size f (.ref c))) → XC T (fun _ => E) lam s.heap.objs.size (CxD P w T mg base N qual st f (.ref c) A outer s H E) kp (defBody st) body
theorem fng_gM (Xo : XoOk T lam) (GF : ∀ i a, T.gf i a → ∃ (oc : Value) (od : Option Addr) (fd : FuncData) (sl : Array (Option Value)), T.K.lookup a = some ⟨oc, od, .func fd, sl⟩) {x : Str} {st : Stmt} {ps N : List Str} {c : Addr} {kp : Nat → Bool} {body : MC} (G : GFunC T mg x st ps c) (S : FnScope N ps (defScope st)) (h : DoesM P w T mg base lam N x st c k kp body) : FnG P w T mg base x ps.length (fnOfC ps.length N.length kp body) (k + 1) := by
  obtain ⟨f, fd, h1, h2, h3, h4⟩ := G
  refine ⟨f, fd, ps, h1, h2.kp, h3, ?_⟩
  obtain ⟨oc, od, kV, doc, pm, an, ct, osl, lk, hcd, rfl⟩ := fun_code h2 h4
  refine fnr_ofC Xo lk hcd S (fun vs H Q E h => h.1) fun A outer s H vs Q E hr KX hok hsp => ?_
  obtain ⟨t, a1, a2⟩ := h f A outer s H E hr
  exact ⟨t, a1, read_fnC Xo GF KX hok hsp a2 rfl (fun _ _ _ => trivial) fun _ _ _ _ _ _ => trivial⟩
end
end Fz
set_option Elab.async false
set_option linter.all false
set_option maxRecDepth 100000
set_option maxHeartbeats 4000000
namespace Fz
open PySem L2 PySem.Spec PyProof.Rows
def rCallE (lam : Nat → Option LamD) (n : Nat) (F : Fn) (ff : M D) (fa : M (List Arg)) : M R := fun st => match ff st with
  | some (.v d, s1) => if isFn lam d = true then bnd fa (fun xs => if xs.length + 1 = n then callF F (.v d :: xs) else fun _ => none) s1 else none
  | some (.x c, s1) => some (.x c, s1)
  | none => none
def tCallE (K : PySem.W.Frag) (sp : Sp) (E : L2.St → XK) (te : TE) (t : TA) : TE := fun σ H Q => te σ H fun v H1 => ∃ f, v = .ref f ∧ FnC K H1 f ∧ t σ H1 fun vs H2 => FnC K H2 f ∧ sp (.ref f :: vs) H2 Q (E σ)
section
variable {ι : Type} {T : Tab} {E : L2.St → XK} {X : ι → Cx} {lam : Nat → Option LamD} {pos p : Pos} {g e : Expr} {gs es : List Expr}
theorem semR_callE (Xo : XoOk T lam) (G : ∀ i a, T.gf i a → ∃ (oc : Value) (od : Option Addr) (fd : FuncData) (sl : Array (Option Value)), T.K.lookup a = some ⟨oc, od, .func fd, sl⟩) {n : Nat} {f : Fn} {ff : M D} {te : TE} {fa : M (List Arg)} {ta : TA} (hf : SemE T E te ff) (ha : SemAA T E ta fa) : SemR T E (tCallE T.K (spV T f) E te ta) (rCallE lam n f ff fa) := by
  intro st σ B F H S o s h Q hQ
  unfold rCallE at h
  split at h
  · rename_i d s1 ed
    split at h
    · rename_i hfn
      refine hf st σ B F H S _ _ ed _ fun B0 H0 x0 S0 v rd => ?_
      obtain ⟨fa', rfl, hc⟩ := isFn_at Xo G hfn S0.exB rd
      refine ⟨fa', rfl, hc, ?_⟩
      rcases bnd_some h with ⟨c, e1, rfl⟩ | ⟨as, s2, e1, e2⟩
      · exact ha s1 σ B0 F H0 S0 _ _ e1 _ fun d B2 H2 x2 S2 => hQ d B2 H2 (x0.trans x2) S2
      · refine ha s1 σ B0 F H0 S0 _ _ e1 _ fun B1 H1 x1 S1 vs hvs => ?_
        have hQ1 : Okr T (E σ) o s σ B1 F (fun v _ H' => Q v H') := by
          cases o with
          | v r => exact fun v B2 H2 x2 S2 => hQ v B2 H2 (x0.trans (x1.trans x2)) S2
          | x c => exact fun d B2 H2 x2 S2 => hQ d B2 H2 (x0.trans (x1.trans x2)) S2
        split at e2
        · have rd1 := Rep.mono x1 d rd
          obtain ⟨f2, e3, hc1⟩ := isFn_at Xo G hfn S1.exB rd1
          cases e3
          have hA : ArgsAre T B1 σ (.v d :: as) (.ref fa' :: vs) := .cons rd1 hvs
          exact ⟨hc1, okx_call S1 hA e2 hQ1⟩
        · cases e2
    · cases h
  · rename_i c s1 ed
    cases h
    exact hf st σ B F H S _ _ ed _ hQ
  · cases h
theorem arm_eval_CallE (g : Expr) (gs : List Expr) (gk : List Keyword) (p : Pos) (args : List Expr) (keywords : List Keyword) (pos : Pos) (env : Env) : eval (.Call (.Call g gs gk p) args keywords pos) env = (do
    callWith pos (← eval (.Call g gs gk p) env) [] (backTo pos (starEach args env)) (backToKw pos (keywordEach keywords env))) := rfl
theorem pe_callE {X : Cx} {CX : CXT} {k : Nat} {sp : Sp} {E : L2.St → XK} {te : TE} {t : TA} (F : FnV X.prog X.w X.K X.mg X.base CX k sp) (hr : Room k X.A) (hx : ∀ σ, PassesAt CX X σ (E σ)) (hf : PE X (.Call g gs [] p) te) (ha : PA X (e :: es) t)
    (he : starEach (e :: es) X.env = (false, eval e X.env) :: starEach es X.env := by rfl) (hpl : (backTo pos (starEach es X.env)).any (·.1) = false := by rfl) :
    PE X (.Call (.Call g gs [] p) (e :: es) [] pos) (tCallE X.K sp E te t) := by
  refine ⟨fun pins s σ H Q I h => ?_⟩
  rw [arm_eval_CallE]
  refine wpAny_bind (thn (hf.run pins s σ H _ I h) fun u s1 ⟨v, H1, I1, r1, q1⟩ => ?_)
  obtain ⟨f, ev, hc, ht⟩ := q1
  subst ev
  obtain rfl : u = Value.ref f := r1
  refine PySem.W.callWith_F (first := []) (fnC_at I1.hok I1.kIn hc) (thn (ha.run pos pins s1 σ H1 _ I1 ht) fun us s2 ⟨vs, H2, I2, r, h1, q⟩ => ⟨fnC_at I2.hok I2.kIn h1, ?_⟩) he hpl
  show wpAny _ _ (call (.ref f) us) _ _ _
  exact run_v F hr (hx σ) I2 r q
theorem xr_callE {n : Nat} {F : Fn} {ff : M D} {fl : M (List Arg)} (Xo : XoOk T lam) (G : ∀ i a, T.gf i a → ∃ (oc : Value) (od : Option Addr) (fd : FuncData) (sl : Array (Option Value)), T.K.lookup a = some ⟨oc, od, .func fd, sl⟩) (hv : ∀ j, ValAt (X j) T E lam F) (hf : XE T E X (.Call g gs [] p) ff) (ha : XAA T E X (e :: es) fl)
    (hK : ∀ j, (X j).K = T.K := by intro j; rfl)
    (he : ∀ j, starEach (e :: es) (X j).env = (false, eval e (X j).env) :: starEach es (X j).env := by intro j; rfl) (hpl : ∀ j, (backTo pos (starEach es (X j).env)).any (·.1) = false := by intro j; rfl) :
    XR T E X (.Call (.Call g gs [] p) (e :: es) [] pos) (rCallE lam n F ff fl) := by
  obtain ⟨t, a1, a2⟩ := ha
  obtain ⟨tf, b1, b2⟩ := hf
  refine ⟨tCallE T.K (spV T F) E tf t, fun j => ?_, semR_callE Xo G b2 a2⟩
  obtain ⟨CX, k, h1, h2, h3⟩ := (hv j).ex
  rw [← hK j]
  exact pe_callE h1 h2 h3 (b1 j) (a1 j) (he j) (hpl j)
end
end Fz
set_option Elab.async false
set_option linter.all false
set_option maxRecDepth 100000
set_option maxHeartbeats 4000000
namespace Fz
open PySem L2 PySem.Spec PyProof.Rows
def ifB : Stmt → List Stmt
  | .If _ b _ _ => b
  | _ => []
def stN (ss : List Stmt) (i : Nat) : Stmt := ss.getD i (.Pass ⟨0, 0, 0, 0⟩)
def retE : Stmt → Expr
  | .Return (some e) _ => e
  | _ => .Constant .none 0 ⟨0, 0, 0, 0⟩
def lamP (d : Arguments) : Expr → Arguments
  | .Lambda p _ _ _ => p
  | _ => d
def lamB : Expr → Expr
  | .Lambda _ b _ _ => b
  | e => e
def lamS (d : Scope) : Expr → Scope
  | .Lambda _ _ s _ => s
  | _ => d
def xoL (lam : Nat → Option LamD) (x0 : Nat → Addr → List V → HO) : Nat → Addr → List V → HO := fun k a xs =>
  if k < 800 then x0 k a xs else if k < 900 then .ext fun _ => False else if k = 900 then CelO a xs else if k < 1000 then CelB (k - 901) a xs
  else match lam ((k - 1000) / 2) with
    | some L => if k % 2 = 0 then CloO L a xs else CodeO a L.qual
    | none => x0 k a xs
theorem xoOk_of {T : Tab} {lam : Nat → Option LamD} {x0 : Nat → Addr → List V → HO} (e : T.xo = xoL lam x0) (hg : ∀ k a, T.gf k a → 800 ≤ k ∧ k < 900) : XoOk T lam := by
  refine ⟨fun i L f xs h => ?_, fun i L c xs h => ?_, fun c xs => ?_, fun j c xs h => ?_, hg, fun k a xs h1 h2 => ?_⟩
  · rw [e]; unfold xoL kClo
    rw [if_neg (by omega), if_neg (by omega), if_neg (by omega), if_neg (by omega), show (1000 + 2 * i - 1000) / 2 = i by omega, h]
    simp only []
    rw [if_pos (by omega)]
  · rw [e]; unfold xoL kCode
    rw [if_neg (by omega), if_neg (by omega), if_neg (by omega), if_neg (by omega), show (1001 + 2 * i - 1000) / 2 = i by omega, h]
    simp only []
    rw [if_neg (by omega)]
  · rw [e]; rfl
  · rw [e]; unfold xoL
    rw [if_neg (by omega), if_neg (by omega), if_neg (by omega), if_pos (by omega), show 901 + j - 901 = j by omega]
  · rw [e]; unfold xoL
    rw [if_neg (by omega), if_pos h2]
abbrev locL (x : Str) : Str := x ++ ".<locals>.<lambda>"
abbrev ttOf (K : PySem.W.Frag) (mk : List Str) : List (Addr × Str) := mk.map fun y => ((cpIn K y).2, locL y)
theorem tt_mem {K : PySem.W.Frag} {mk : List Str} {x : Str} (h : x ∈ mk) : ∃ p ∈ ttOf K mk, p.1 = (cpIn K x).2 := ⟨_, List.mem_map.mpr ⟨x, h, rfl⟩, rfl⟩
theorem tt_q {K : PySem.W.Frag} {mk : List Str} {x : Str} (h : x ∈ mk) (un : (mk.map fun y => (cpIn K y).2).Nodup) : ∀ p ∈ ttOf K mk, p.1 = (cpIn K x).2 → p.2 = locL x := fun p hp e => by
  obtain ⟨y, hy, rfl⟩ := List.mem_map.mp hp
  have : y = x := inj_of_nodup' un hy h e
  rw [this]
theorem tt_of {K : PySem.W.Frag} {mk : List Str} : ∀ p ∈ ttOf K mk, ∃ y ∈ mk, p.1 = (cpIn K y).2 := fun p hp => by
  obtain ⟨y, hy, rfl⟩ := List.mem_map.mp hp
  exact ⟨y, hy, rfl⟩
def unB (mk : List Str) (K : PySem.W.Frag) : Bool := decide (mk.map fun y => (cpIn K y).2).Nodup
section
variable {ι : Type} {T : Tab} {E : L2.St → XK} {X : ι → Cx} {lam : Nat → Option LamD} {e : Expr} {C : Addr} {kp : Nat → Bool} {ss : List Stmt}
theorem xe_neverL : XE T E X e (fun _ => none) := ⟨fun _ _ _ => False, fun j => ⟨fun _ _ _ _ _ _ h => h.elim⟩, fun st σ B F H S o s h => by cases h⟩
def cNever : MC := fun _ => none
theorem xc_never {X : Unit → Cx} : XC T E lam C X kp ss cNever := ⟨fun _ _ _ => False, ⟨fun _ _ _ _ _ _ h => h.elim⟩, fun st σ B F H S o s h => by cases h⟩
end
theorem gfOk_no {P : Program} {w : World} {T : Tab} {mg : Str → Option Value} {base : Heap} {k : Nat} (h : ∀ i a, ¬ T.gf i a) : GfOk P w T mg base (fun _ => none) k :=
  ⟨fun i F e => (nomatch e), fun i a z => (h i a z).elim, fun i F e => (nomatch e)⟩
def wk (m : MC) (st : Sl) (Q : RC → Sl → Prop) : Prop := match m st with
  | some (o, s) => Q o s
  | none => False
def oendC (kp : Nat → Bool) (rs : List R) (Q : Oc R → List R → Prop) : RC → Sl → Prop
  | .r d, s => wo (outs kp 0 rs s) (ko (.v (.d d)) Q)
  | .lam i pl js, s => wo (capC kp rs s js) fun ds => wo (outs kp 0 rs s) (ko (.v (.d (clo i pl ds))) Q)
def kOC (i : Nat) (pl : List Nat) (kp : Nat → Bool) (rs : List R) (s : Sl) (Q : Oc R → List R → Prop) : List D → Prop := fun ds => wo (outs kp 0 rs s) (ko (.v (.d (clo i pl ds))) Q)
theorem kOC_a (i : Nat) (pl : List Nat) (kp : Nat → Bool) (rs : List R) (s : Sl) (Q : Oc R → List R → Prop) (ds : List D) : kOC i pl kp rs s Q ds = wo (outs kp 0 rs s) (ko (.v (.d (clo i pl ds))) Q) := rfl
theorem n_oendC_r {kp : Nat → Bool} {rs : List R} {Q : Oc R → List R → Prop} {d : D} {s : Sl} : oendC kp rs Q (.r d) s = wo (outs kp 0 rs s) (ko (.v (.d d)) Q) := rfl
theorem n_oendC_l {kp : Nat → Bool} {rs : List R} {Q : Oc R → List R → Prop} {i : Nat} {pl js : List Nat} {s : Sl} : oendC kp rs Q (.lam i pl js) s = wo (capC kp rs s js) (kOC i pl kp rs s Q) := rfl
def kFnC (kp : Nat → Bool) (n N : Nat) (body : MC) (rs : List R) (Q : Oc R → List R → Prop) : Unit → Prop := fun _ => wk body (rs.map some ++ List.replicate (N - n) none) (oendC kp rs Q)
theorem kFnC_a (kp : Nat → Bool) (n N : Nat) (body : MC) (rs : List R) (Q : Oc R → List R → Prop) : kFnC kp n N body rs Q () = wk body (rs.map some ++ List.replicate (N - n) none) (oendC kp rs Q) := rfl
theorem n_fnOfC {n N : Nat} {kp : Nat → Bool} {body : MC} {rs : List R} {Q : Oc R → List R → Prop} : wf (fnOfC n N kp body) rs Q = wc (rs.length = n) (kFnC kp n N body rs Q) := by
  unfold wf fnOfC wc wa kFnC wk
  by_cases h : rs.length = n
  · rw [if_pos h]
    cases body (rs.map some ++ List.replicate (N - n) none) with
    | none => simp
    | some p =>
      obtain ⟨o, s⟩ := p
      cases o with
      | r d =>
        simp only [h, true_and]
        unfold oendC wo fnEnd ko
        cases e : outs kp 0 rs s with
        | none => simp [e]
        | some qs => simp [e]
      | lam i pl js =>
        simp only [h, true_and]
        unfold oendC wo fnEnd ko
        cases e1 : capC kp rs s js with
        | none => simp [e1]
        | some ds =>
          simp only []
          cases e : outs kp 0 rs s with
          | none => simp [e, e1]
          | some qs => simp [e, e1]
  · rw [if_neg h]; simp [h]
section
variable {st : Sl} {QK : RC → Sl → Prop} {QR : Oc R → Sl → Prop} {Q : Oc D → Sl → Prop}
def kCr (Q : RC → Sl → Prop) : Oc D → Sl → Prop
  | .v d, s => Q (.r d) s
  | .x _, _ => False
theorem kCr_v (Q : RC → Sl → Prop) (d : D) (s : Sl) : kCr Q (.v d) s = Q (.r d) s := rfl
theorem n_cRet {m : M D} : wk (cRet m) st QK = wp m st (kCr QK) := by
  unfold wk cRet wp kCr
  cases m st with
  | none => rfl
  | some p => obtain ⟨o, s⟩ := p; cases o <;> rfl
theorem n_cLam {i : Nat} {pl js : List Nat} : wk (cLam i pl js) st QK = QK (.lam i pl js) st := rfl
def kCif (f g : MC) (Q : RC → Sl → Prop) : Oc Bool → Sl → Prop
  | .v b, s => wd b fun b => if b = true then wk f s Q else wk g s Q
  | .x _, _ => False
def kCd (f g : MC) (Q : RC → Sl → Prop) (s : Sl) : Bool → Prop := fun b => if b = true then wk f s Q else wk g s Q
theorem kCd_t (f g : MC) (Q : RC → Sl → Prop) (s : Sl) : kCd f g Q s true = wk f s Q := rfl
theorem kCd_f (f g : MC) (Q : RC → Sl → Prop) (s : Sl) : kCd f g Q s false = wk g s Q := rfl
theorem kCif_v (f g : MC) (Q : RC → Sl → Prop) (b : Bool) (s : Sl) : kCif f g Q (.v b) s = wd b (kCd f g Q s) := rfl
theorem n_cIf {c : M Bool} {f g : MC} : wk (cIf c f g) st QK = wp c st (kCif f g QK) := by
  unfold wk cIf wp kCif wd
  cases c st with
  | none => rfl
  | some p =>
    obtain ⟨o, s⟩ := p
    cases o with
    | v b => cases b <;> rfl
    | x c => rfl
def kCsq (g : MC) (Q : RC → Sl → Prop) : Fl → Sl → Prop
  | .nx, s => wk g s Q
  | _, _ => False
theorem kCsq_nx (g : MC) (Q : RC → Sl → Prop) (s : Sl) : kCsq g Q .nx s = wk g s Q := rfl
theorem n_cSeq {f : MS} {g : MC} : wk (cSeq f g) st QK = ws f st (kCsq g QK) := by
  unfold wk cSeq ws kCsq
  cases f st with
  | none => rfl
  | some p => obtain ⟨o, s⟩ := p; cases o <;> rfl
def kCv (i n : Nat) (F : Fn) (fa : M (List Arg)) (Q : Oc R → Sl → Prop) (st : Sl) : Unit → Prop := fun _ => wp (rCall n F [] (aV (eVar i) fa)) st Q
theorem kCv_a (i n : Nat) (F : Fn) (fa : M (List Arg)) (Q : Oc R → Sl → Prop) (st : Sl) : kCv i n F fa Q st () = wp (rCall n F [] (aV (eVar i) fa)) st Q := rfl
theorem n_rCallV {lam : Nat → Option LamD} {i n : Nat} {F : Fn} {fa : M (List Arg)} : wp (rCallV lam i n F fa) st QR = wc (isFnS lam st[i]? = true) (kCv i n F fa QR st) := by
  unfold wp rCallV wc wa kCv
  by_cases h : isFnS lam st[i]? = true
  · rw [if_pos h]; simp only [h, true_and]; rfl
  · rw [if_neg h]; simp [h]
def kCe2 (F : Fn) (d : D) (Q : Oc R → Sl → Prop) (as : List Arg) (s : Sl) : Unit → Prop := fun _ => wp (callF F (.v d :: as)) s Q
theorem kCe2_a (F : Fn) (d : D) (Q : Oc R → Sl → Prop) (as : List Arg) (s : Sl) : kCe2 F d Q as s () = wp (callF F (.v d :: as)) s Q := rfl
def kCe1 (n : Nat) (F : Fn) (d : D) (Q : Oc R → Sl → Prop) : Oc (List Arg) → Sl → Prop := vx Q fun as s => wc (as.length + 1 = n) (kCe2 F d Q as s)
theorem kCe1_v (n : Nat) (F : Fn) (d : D) (Q : Oc R → Sl → Prop) (as : List Arg) (s : Sl) : kCe1 n F d Q (.v as) s = wc (as.length + 1 = n) (kCe2 F d Q as s) := rfl
theorem kCe1_x (n : Nat) (F : Fn) (d : D) (Q : Oc R → Sl → Prop) (c : Nat) (s : Sl) : kCe1 n F d Q (.x c) s = Q (.x c) s := rfl
def kCe0 (n : Nat) (F : Fn) (d : D) (fa : M (List Arg)) (Q : Oc R → Sl → Prop) (s : Sl) : Unit → Prop := fun _ => wp fa s (kCe1 n F d Q)
theorem kCe0_a (n : Nat) (F : Fn) (d : D) (fa : M (List Arg)) (Q : Oc R → Sl → Prop) (s : Sl) : kCe0 n F d fa Q s () = wp fa s (kCe1 n F d Q) := rfl
def kCe (lam : Nat → Option LamD) (n : Nat) (F : Fn) (fa : M (List Arg)) (Q : Oc R → Sl → Prop) : Oc D → Sl → Prop := vx Q fun d s => wc (isFn lam d = true) (kCe0 n F d fa Q s)
theorem kCe_v (lam : Nat → Option LamD) (n : Nat) (F : Fn) (fa : M (List Arg)) (Q : Oc R → Sl → Prop) (d : D) (s : Sl) : kCe lam n F fa Q (.v d) s = wc (isFn lam d = true) (kCe0 n F d fa Q s) := rfl
theorem kCe_x (lam : Nat → Option LamD) (n : Nat) (F : Fn) (fa : M (List Arg)) (Q : Oc R → Sl → Prop) (c : Nat) (s : Sl) : kCe lam n F fa Q (.x c) s = Q (.x c) s := rfl
theorem n_rCallE {lam : Nat → Option LamD} {n : Nat} {F : Fn} {ff : M D} {fa : M (List Arg)} : wp (rCallE lam n F ff fa) st QR = wp ff st (kCe lam n F fa QR) := by
  unfold wp rCallE kCe vx
  cases ff st with
  | none => rfl
  | some p =>
    obtain ⟨o, s⟩ := p
    cases o with
    | x c => rfl
    | v d =>
      simp only []
      by_cases h : isFn lam d = true
      · rw [if_pos h]
        unfold wc wa kCe0 wp kCe1 vx bnd
        simp only [h, true_and]
        cases fa s with
        | none => rfl
        | some p =>
          obtain ⟨o, s2⟩ := p
          cases o with
          | x c => rfl
          | v as =>
            simp only []
            unfold wc wa kCe2 wp
            by_cases h2 : as.length + 1 = n
            · rw [if_pos h2]; simp [h2]
            · rw [if_neg h2]; simp [h2]
      · rw [if_neg h]; unfold wc wa; simp [h]
theorem n_eLam {i : Nat} : wp (eLam i) st Q = Q (.v (clo i [] [])) st := rfl
end
theorem capsOf_clo {i : Nat} : ∀ {caps : List (Str × Nat)} {ds : List D}, ds.length = caps.length → capsOf i caps (((caps.map (·.2)).zip ds).map (fun p => cel p.1 p.2) ++ [.ext (kCode i) []]) = some ds
  | [], [], _ => by unfold capsOf; simp
  | [], _ :: _, h => by simp at h
  | _ :: _, [], h => by simp at h
  | p :: caps, d :: ds, h => by
    have ih := capsOf_clo (i := i) (caps := caps) (ds := ds) (by simpa using h)
    unfold capsOf
    simp only [List.map_cons, List.zip_cons_cons, List.cons_append]
    unfold cel
    simp only [if_true]
    rw [show (List.map (fun (p : Nat × D) => D.ext (celK p.1 p.2) [p.2]) ((caps.map (·.2)).zip ds) ++ [D.ext (kCode i) []]) = ((caps.map (·.2)).zip ds).map (fun p => cel p.1 p.2) ++ [.ext (kCode i) []] from rfl, ih]
    rfl
theorem appF_clo {lam : Nat → Option LamD} {gfs : Nat → Option (Nat × Fn)} {bd : Nat → M D} {i : Nat} {L : LamD} {ds : List D} {args : List R} {x : D} {s' : Sl} (hL : lam i = some L) (hl : ds.length = L.caps.length) (ok : okEs lam ds = true) (im : args.all immA = true) (ha : args.length = L.ps.length)
    (hb : bd i (args.map some ++ ds.map fun d => some (.d d)) = some (.v x, s')) {pl : List Nat} (hpl : pl = L.caps.map (·.2)) : appF lam gfs bd (.d (clo i pl ds) :: args) = some (.v (.d x), .d (clo i pl ds) :: args) := by
  subst hpl
  unfold clo appF
  simp only []
  unfold kClo
  rw [if_neg (by omega), if_pos (by omega), show (1000 + 2 * i - 1000) / 2 = i by omega, hL]
  simp only []
  rw [capsOf_clo hl]
  simp only []
  rw [if_pos ⟨ok, im, ha⟩, hb]
theorem isFn_clo {lam : Nat → Option LamD} {i : Nat} {pl : List Nat} {ds : List D} (h : (lam i).isSome = true) : isFn lam (clo i pl ds) = true := by
  unfold clo isFn kClo
  simp only [Bool.or_eq_true, Bool.and_eq_true, decide_eq_true_eq]
  exact .inr ⟨by omega, by omega, by rw [show (1000 + 2 * i - 1000) / 2 = i by omega]; exact h⟩
theorem okE_clo {lam : Nat → Option LamD} {i : Nat} {pl : List Nat} {ds : List D} (h : (lam i).isSome = true) (hp : ∀ p ∈ pl, p < 99) (ok : okEs lam ds = true) : okE lam (clo i pl ds) = true := by
  have cells : ∀ (pl : List Nat) (ds : List D), (∀ p ∈ pl, p < 99) → okEs lam ds = true → okEs lam ((pl.zip ds).map (fun p => cel p.1 p.2) ++ [.ext (kCode i) []]) = true := by
    intro pl
    induction pl with
    | nil =>
      intro ds _ _
      show (okE lam (.ext (kCode i) []) && true) = true
      unfold okE kindOk kCode okEs
      rw [if_neg (by omega), if_neg (by omega), if_neg (by omega), if_neg (by omega), show (1001 + 2 * i - 1000) / 2 = i by omega, h]
      rfl
    | cons p pl ih =>
      intro ds hp ok
      cases ds with
      | nil =>
        show (okE lam (.ext (kCode i) []) && true) = true
        unfold okE kindOk kCode okEs
        rw [if_neg (by omega), if_neg (by omega), if_neg (by omega), if_neg (by omega), show (1001 + 2 * i - 1000) / 2 = i by omega, h]
        rfl
      | cons d ds =>
        have ok2 := (Bool.and_eq_true _ _).mp (show (okE lam d && okEs lam ds) = true from by unfold okEs at ok; exact ok)
        show (okE lam (cel p d) && okEs lam ((pl.zip ds).map (fun p => cel p.1 p.2) ++ [.ext (kCode i) []])) = true
        rw [ih ds (fun q hq => hp q (.tail _ hq)) ok2.2, Bool.and_true]
        unfold cel okE
        have h9 := hp p (.head _)
        have e2 : okEs lam [d] = true := by unfold okEs okEs; rw [ok2.1]; rfl
        rw [e2, Bool.and_true]
        unfold kindOk celK
        by_cases im : imm d = true
        · rw [if_pos im, if_neg (by omega), if_pos rfl]
          show (imm d && true) = true
          rw [im]; rfl
        · rw [if_neg im, if_neg (by omega), if_neg (by omega), if_pos (by omega)]
  unfold clo okE
  rw [cells pl ds hp ok, Bool.and_true]
  unfold kindOk kClo
  rw [if_neg (by omega), if_neg (by omega), if_neg (by omega), if_pos (by omega), show (1000 + 2 * i - 1000) / 2 = i by omega, h]
theorem okE_imm {lam : Nat → Option LamD} {d : D} (h : imm d = true) : okE lam d = true := by
  cases d <;> first | exact h | (unfold okE; exact h) | cases h
section
variable {P : Program} {w : World} {T : Tab} {mg : Str → Option Value} {base : Heap} {N : List Str} {qual : Str} {st : Stmt} {f : Addr} {cdv : Value} {A : Around} {outer : List Env} {s : Shared} {H : Hp} {E : XK} {k j : Nat} {F : Fn} {x : Str}
theorem rm_lam {nf : NdefX.NF} {fa : Addr} (hr : Room k (A.deeper (NdefX.envF nf fa s.heap.objs.size))) : Rm (fun _ : Unit => NdefX.ncx (L2.CX P w) P w T.K mg base N nf fa A outer s H E0) := fun _ => by
  have h : (A.deeper (NdefX.envF nf fa s.heap.objs.size)).units + 16 * k + 200 < cLine := hr.un
  show (A.deeper (NdefX.envF nf fa s.heap.objs.size)).units + 65 < cLine
  omega
end
end Fz
set_option Elab.async false
set_option linter.all false
set_option maxRecDepth 100000
set_option maxHeartbeats 0
namespace K31
open PySem PySem.Spec PyProof.Rows L2 Fz
abbrev mkN : List Str := ["look_of_one", "look_of_two", "look_of"]
def topS (i : Nat) : Stmt := PySem.Challenge.pw_everwalk_k31_what_forms_read.main.body.getD i (.Pass ⟨0, 0, 0, 0⟩)
abbrev s_look_of_one : Stmt := topS 3
abbrev s_look_of_two : Stmt := topS 4
abbrev s_look_of : Stmt := topS 5
abbrev s_reads : Stmt := topS 6
abbrev s_goes_with : Stmt := topS 7
abbrev s_next_label : Stmt := topS 8
abbrev s_first_label : Stmt := topS 9
abbrev s_bells_rung : Stmt := topS 10
abbrev s__law_row : Stmt := topS 12
abbrev s__law_kept : Stmt := topS 13
abbrev s__law_mark : Stmt := topS 14
abbrev s__law_small : Stmt := topS 15
abbrev s__law_plain : Stmt := topS 16
abbrev s__law_parts : Stmt := topS 17
abbrev s__law_reads : Stmt := topS 18
abbrev s__law_goes : Stmt := topS 19
abbrev s__law_behind : Stmt := topS 20
abbrev s__law_rung : Stmt := topS 21
abbrev s__law_first : Stmt := topS 22
abbrev s__law_within : Stmt := topS 23
abbrev s__law_asked : Stmt := topS 24
abbrev s_law : Stmt := topS 25
def fns_0 : He.DefD := ⟨("look_of_one", none), "look_of_one", "look_of_one", defArgs s_look_of_one, defBody s_look_of_one, defScope s_look_of_one, [], []⟩
def fns_1 : He.DefD := ⟨("look_of_two", none), "look_of_two", "look_of_two", defArgs s_look_of_two, defBody s_look_of_two, defScope s_look_of_two, [], []⟩
def fns_2 : He.DefD := ⟨("look_of", none), "look_of", "look_of", defArgs s_look_of, defBody s_look_of, defScope s_look_of, [], []⟩
def fns_3 : He.DefD := ⟨("reads", none), "reads", "reads", defArgs s_reads, defBody s_reads, defScope s_reads, [], []⟩
def fns_4 : He.DefD := ⟨("goes_with", none), "goes_with", "goes_with", defArgs s_goes_with, defBody s_goes_with, defScope s_goes_with, [], []⟩
def fns_5 : He.DefD := ⟨("next_label", none), "next_label", "next_label", defArgs s_next_label, defBody s_next_label, defScope s_next_label, [], []⟩
def fns_6 : He.DefD := ⟨("first_label", none), "first_label", "first_label", defArgs s_first_label, defBody s_first_label, defScope s_first_label, [], []⟩
def fns_7 : He.DefD := ⟨("bells_rung", none), "bells_rung", "bells_rung", defArgs s_bells_rung, defBody s_bells_rung, defScope s_bells_rung, [], []⟩
def fns_8 : He.DefD := ⟨("_law_row", none), "_law_row", "_law_row", defArgs s__law_row, defBody s__law_row, defScope s__law_row, [], []⟩
def fns_9 : He.DefD := ⟨("_law_kept", none), "_law_kept", "_law_kept", defArgs s__law_kept, defBody s__law_kept, defScope s__law_kept, [], []⟩
def fns_10 : He.DefD := ⟨("_law_mark", none), "_law_mark", "_law_mark", defArgs s__law_mark, defBody s__law_mark, defScope s__law_mark, [], []⟩
def fns_11 : He.DefD := ⟨("_law_small", none), "_law_small", "_law_small", defArgs s__law_small, defBody s__law_small, defScope s__law_small, [], []⟩
def fns_12 : He.DefD := ⟨("_law_plain", none), "_law_plain", "_law_plain", defArgs s__law_plain, defBody s__law_plain, defScope s__law_plain, [], []⟩
def fns_13 : He.DefD := ⟨("_law_parts", none), "_law_parts", "_law_parts", defArgs s__law_parts, defBody s__law_parts, defScope s__law_parts, [], []⟩
def fns_14 : He.DefD := ⟨("_law_reads", none), "_law_reads", "_law_reads", defArgs s__law_reads, defBody s__law_reads, defScope s__law_reads, [], []⟩
def fns_15 : He.DefD := ⟨("_law_goes", none), "_law_goes", "_law_goes", defArgs s__law_goes, defBody s__law_goes, defScope s__law_goes, [], []⟩
def fns_16 : He.DefD := ⟨("_law_behind", none), "_law_behind", "_law_behind", defArgs s__law_behind, defBody s__law_behind, defScope s__law_behind, [], []⟩
def fns_17 : He.DefD := ⟨("_law_rung", none), "_law_rung", "_law_rung", defArgs s__law_rung, defBody s__law_rung, defScope s__law_rung, [], []⟩
def fns_18 : He.DefD := ⟨("_law_first", none), "_law_first", "_law_first", defArgs s__law_first, defBody s__law_first, defScope s__law_first, [], []⟩
def fns_19 : He.DefD := ⟨("_law_within", none), "_law_within", "_law_within", defArgs s__law_within, defBody s__law_within, defScope s__law_within, [], []⟩
def fns_20 : He.DefD := ⟨("_law_asked", none), "_law_asked", "_law_asked", defArgs s__law_asked, defBody s__law_asked, defScope s__law_asked, [], []⟩
def fns_21 : He.DefD := ⟨("law", none), "law", "law", defArgs s_law, defBody s_law, defScope s_law, [], []⟩
def fns0 : List He.DefD := [fns_0, fns_1, fns_2, fns_3, fns_4, fns_5, fns_6, fns_7, fns_8, fns_9, fns_10, fns_11, fns_12, fns_13, fns_14, fns_15, fns_16, fns_17, fns_18, fns_19]
def fns1 : List He.DefD := [fns_20, fns_21]
def fns : List He.DefD := fns0 ++ fns1
def fas_0 : PySem.W.Frag → Bool := (fun K => (He.Fa.glo "look_of_one").ok K)
def fas_1 : PySem.W.Frag → Bool := (fun K => (He.Fa.glo "look_of_two").ok K)
def fas_2 : PySem.W.Frag → Bool := (fun K => (He.Fa.glo "look_of").ok K)
def fas_3 : PySem.W.Frag → Bool := (fun K => (He.Fa.glo "reads").ok K)
def fas_4 : PySem.W.Frag → Bool := (fun K => (He.Fa.glo "goes_with").ok K)
def fas_5 : PySem.W.Frag → Bool := (fun K => (He.Fa.glo "next_label").ok K)
def fas_6 : PySem.W.Frag → Bool := (fun K => (He.Fa.glo "first_label").ok K)
def fas_7 : PySem.W.Frag → Bool := (fun K => (He.Fa.glo "bells_rung").ok K)
def fas_8 : PySem.W.Frag → Bool := (fun K => (He.Fa.glo "_law_row").ok K)
def fas_9 : PySem.W.Frag → Bool := (fun K => (He.Fa.glo "_law_kept").ok K)
def fas_10 : PySem.W.Frag → Bool := (fun K => (He.Fa.glo "_law_mark").ok K)
def fas_11 : PySem.W.Frag → Bool := (fun K => (He.Fa.glo "_law_small").ok K)
def fas_12 : PySem.W.Frag → Bool := (fun K => (He.Fa.glo "_law_plain").ok K)
def fas_13 : PySem.W.Frag → Bool := (fun K => (He.Fa.glo "_law_parts").ok K)
def fas_14 : PySem.W.Frag → Bool := (fun K => (He.Fa.glo "_law_reads").ok K)
def fas_15 : PySem.W.Frag → Bool := (fun K => (He.Fa.glo "_law_goes").ok K)
def fas_16 : PySem.W.Frag → Bool := (fun K => (He.Fa.glo "_law_behind").ok K)
def fas_17 : PySem.W.Frag → Bool := (fun K => (He.Fa.glo "_law_rung").ok K)
def fas_18 : PySem.W.Frag → Bool := (fun K => (He.Fa.glo "_law_first").ok K)
def fas_19 : PySem.W.Frag → Bool := (fun K => (He.Fa.glo "_law_within").ok K)
def fas_20 : PySem.W.Frag → Bool := (fun K => (He.Fa.glo "_law_asked").ok K)
def fas_21 : PySem.W.Frag → Bool := (fun K => (He.Fa.glo "law").ok K)
def fas_22 : PySem.W.Frag → Bool := codB "look_of_one"
def fas_23 : PySem.W.Frag → Bool := codB "look_of_two"
def fas_24 : PySem.W.Frag → Bool := codB "look_of"
def fas_25 : PySem.W.Frag → Bool := unB mkN
def fas_26 : PySem.W.Frag → Bool := (fun K => (He.Fa.free "bool").ok K)
def fas_27 : PySem.W.Frag → Bool := (fun K => (He.Fa.free "enumerate").ok K)
def fas_28 : PySem.W.Frag → Bool := (fun K => (He.Fa.free "int").ok K)
def fas_29 : PySem.W.Frag → Bool := (fun K => (He.Fa.free "isinstance").ok K)
def fas_30 : PySem.W.Frag → Bool := (fun K => (He.Fa.free "len").ok K)
def fas_31 : PySem.W.Frag → Bool := (fun K => (He.Fa.free "list").ok K)
def fas_32 : PySem.W.Frag → Bool := (fun K => (He.Fa.free "range").ok K)
def fas_33 : PySem.W.Frag → Bool := (fun K => (He.Fa.free "set").ok K)
def fas_34 : PySem.W.Frag → Bool := (fun K => (He.Fa.free "sorted").ok K)
def fas_35 : PySem.W.Frag → Bool := (fun K => (He.Fa.free "str").ok K)
def fas_36 : PySem.W.Frag → Bool := (fun K => (He.Fa.free "tuple").ok K)
def fas_37 : PySem.W.Frag → Bool := (fun K => (He.Fa.glo "LOOKING_ON").ok K)
def fas_38 : PySem.W.Frag → Bool := (fun K => He.lstB K "LOOKING_ON" ((["next", "until", "frees"] : List Str).map He.Dv.str))
def fas_39 : PySem.W.Frag → Bool := (fun K => (He.Fa.glo "RINGING").ok K)
def fas_40 : PySem.W.Frag → Bool := (fun K => He.lstB K "RINGING" ((["until", "frees"] : List Str).map He.Dv.str))
def fas0 : List (PySem.W.Frag → Bool) := [fas_0, fas_1, fas_2, fas_3, fas_4, fas_5, fas_6, fas_7, fas_8, fas_9, fas_10, fas_11, fas_12, fas_13, fas_14, fas_15, fas_16, fas_17, fas_18, fas_19]
def fas1 : List (PySem.W.Frag → Bool) := [fas_20, fas_21, fas_22, fas_23, fas_24, fas_25, fas_26, fas_27, fas_28, fas_29, fas_30, fas_31, fas_32, fas_33, fas_34, fas_35, fas_36, fas_37, fas_38, fas_39]
def fas2 : List (PySem.W.Frag → Bool) := [fas_40]
def fas : List (PySem.W.Frag → Bool) := fas0 ++ fas1 ++ fas2
def chk (K : PySem.W.Frag) : Bool := fas.all fun f => f K
def tss : List He.Tab := []
def nms0 : List PySem.Str := ["LOOKING_ON", "RINGING", "look_of_one", "look_of_two", "look_of", "reads", "goes_with", "next_label", "first_label", "bells_rung", "_law_row", "_law_kept", "_law_mark", "_law_small", "_law_plain", "_law_parts", "_law_reads", "_law_goes", "_law_behind", "_law_rung"]
def nms1 : List PySem.Str := ["_law_first", "_law_within", "_law_asked"]
def nms : List PySem.Str := nms0 ++ nms1
abbrev Rw : PySem.W.OpenRow := PySem.W.OpenLaw.row PySem.Challenge.rw_everwalk_k31_what_forms_read
def asL : List Addr := [3, 15, 16, 23, 30, 37, 44, 51, 58, 63, 68, 75, 82, 87, 94, 101, 106, 113, 120, 127, 134, 139, 146, 151, 156, 22, 29, 36, 43, 50] ++ [57, 62, 67, 74, 81, 86, 93, 100, 105, 112, 119, 126, 133, 138, 145, 150, 155]
abbrev hk : PySem.W.Hook := hookLT mkN asL chk fns tss
def obH (s : PySem.W.SharedT) : AlC := obsLT mkN asL chk fns tss (HandSHeadRun.getT s)
theorem obH_eq (s : PySem.W.SharedT) : obH s = hk.obs s.abs := obsLT_eq (HandSHeadRun.getT_eq s)
noncomputable abbrev endH (w : World) (os : OsState) : Option PySem.W.SharedT := HandSHeadRun.endF (HandSHeadRun.stepQ (HandSHeadRun.denQ HandSHeadRun.tabQ) Rw.prog w) 30000 Rw.prog w os
theorem runH1 (w : World) : ∀ os : OsState, (endH w os).map (fun s => HandSHeadRun.looksF Rw.prog (PySem.W.boot_heap w.params) s.abs) = some true := by
  refine PySem.W.byRow2 "special-get-raises" (P := fun w => ∀ os : OsState, (endH w os).map (fun s => HandSHeadRun.looksF Rw.prog (PySem.W.boot_heap w.params) s.abs) = some true) (fun w os => ?_) (fun w os => ?_) w
  · kernel_rfl
  · kernel_rfl
theorem runH2 (w : World) : ∀ os : OsState, (endH w os).map (fun s => HandSHeadRun.seenQ (PySem.W.view Rw.prog [25]) nms (importedModules Rw.prog.main.body) (fun s => PySem.W.xlAt (PySem.W.view Rw.prog [25]) [] s && PySem.W.recOk Rw.toRowW.records s) s.abs) = some (PySem.W.openGood (PySem.W.view Rw.prog [25]) nms) := by
  refine PySem.W.byRow2 "special-get-raises" (P := fun w => ∀ os : OsState, (endH w os).map (fun s => HandSHeadRun.seenQ (PySem.W.view Rw.prog [25]) nms (importedModules Rw.prog.main.body) (fun s => PySem.W.xlAt (PySem.W.view Rw.prog [25]) [] s && PySem.W.recOk Rw.toRowW.records s) s.abs) = some (PySem.W.openGood (PySem.W.view Rw.prog [25]) nms)) (fun w os => ?_) (fun w os => ?_) w
  · kernel_rfl
  · kernel_rfl
theorem runH3 (w : World) : ∀ os : OsState, (endH w os).map obH = some (hk.val w) := by
  refine PySem.W.byRow2 "special-get-raises" (P := fun w => ∀ os : OsState, (endH w os).map obH = some (hk.val w)) (fun w os => ?_) (fun w os => ?_) w
  · kernel_rfl
  · kernel_rfl
theorem runH (w : World) : HandSHeadRun.RunEq Rw (PySem.W.view Rw.prog [25]) hk obH 30000 nms w := fun os => Fz.map3 (runH1 w os) (runH2 w os) (runH3 w os)
end K31
set_option Elab.async false
set_option linter.all false
set_option maxRecDepth 100000
set_option maxHeartbeats 0
namespace K31
open PySem L2 PySem.Spec PyProof.Rows Fz
abbrev N_look_of_one : List Str := ["word", "first"]
abbrev P_look_of_one : List Str := ["word", "first"]
theorem sc_look_of_one : FnScope N_look_of_one P_look_of_one (defScope s_look_of_one) := ⟨rfl, rfl, rfl, by decide +kernel, rfl, by decide +kernel, by decide +kernel⟩
abbrev N_look_of_two : List Str := ["tree", "parts", "first", "second", "at"]
abbrev P_look_of_two : List Str := ["tree", "parts", "first", "second"]
theorem sc_look_of_two : FnScope N_look_of_two P_look_of_two (defScope s_look_of_two) := ⟨rfl, rfl, rfl, by decide +kernel, rfl, by decide +kernel, by decide +kernel⟩
abbrev N_look_of : List Str := ["tree", "parts", "at"]
abbrev P_look_of : List Str := ["tree", "parts"]
theorem sc_look_of : FnScope N_look_of P_look_of (defScope s_look_of) := ⟨rfl, rfl, rfl, by decide +kernel, rfl, by decide +kernel, by decide +kernel⟩
abbrev N_reads : List Str := ["tree", "moment", "label", "guess", "parts"]
abbrev P_reads : List Str := ["tree", "moment", "label", "guess", "parts"]
theorem sc_reads : FnScope N_reads P_reads (defScope s_reads) := ⟨rfl, rfl, rfl, by decide +kernel, rfl, by decide +kernel, by decide +kernel⟩
abbrev N_goes_with : List Str := ["moment", "label", "guess", "parts", "at", "part", "asked"]
abbrev P_goes_with : List Str := ["moment", "label", "guess", "parts"]
theorem sc_goes_with : FnScope N_goes_with P_goes_with (defScope s_goes_with) := ⟨rfl, rfl, rfl, by decide +kernel, rfl, by decide +kernel, by decide +kernel⟩
abbrev N_next_label : List Str := ["moment", "label", "guess", "parts", "found", "at", "part"]
abbrev P_next_label : List Str := ["moment", "label", "guess", "parts"]
theorem sc_next_label : FnScope N_next_label P_next_label (defScope s_next_label) := ⟨rfl, rfl, rfl, by decide +kernel, rfl, by decide +kernel, by decide +kernel⟩
abbrev N_first_label : List Str := ["parts", "part"]
abbrev P_first_label : List Str := ["parts"]
theorem sc_first_label : FnScope N_first_label P_first_label (defScope s_first_label) := ⟨rfl, rfl, rfl, by decide +kernel, rfl, by decide +kernel, by decide +kernel⟩
abbrev N_bells_rung : List Str := ["moment", "label", "guess", "parts", "found", "number", "part", "whole", "second"]
abbrev P_bells_rung : List Str := ["moment", "label", "guess", "parts"]
theorem sc_bells_rung : FnScope N_bells_rung P_bells_rung (defScope s_bells_rung) := ⟨rfl, rfl, rfl, by decide +kernel, rfl, by decide +kernel, by decide +kernel⟩
abbrev N__law_row : List Str := ["_law_script", "_law_many", "_law_found", "_law_more", "_law_k", "_law_cell"]
abbrev P__law_row : List Str := ["_law_script", "_law_many"]
theorem sc__law_row : FnScope N__law_row P__law_row (defScope s__law_row) := ⟨rfl, rfl, rfl, by decide +kernel, rfl, by decide +kernel, by decide +kernel⟩
abbrev N__law_kept : List Str := ["_law_first_here"]
abbrev P__law_kept : List Str := []
theorem sc__law_kept : FnScope N__law_kept P__law_kept (defScope s__law_kept) := ⟨rfl, rfl, rfl, by decide +kernel, rfl, by decide +kernel, by decide +kernel⟩
abbrev N__law_mark : List Str := ["_law_base", "_law_turn", "_law_some", "_law_signs", "_law_way", "_law_found", "_law_size", "_law_at", "_law_k"]
abbrev P__law_mark : List Str := ["_law_base", "_law_turn"]
theorem sc__law_mark : FnScope N__law_mark P__law_mark (defScope s__law_mark) := ⟨rfl, rfl, rfl, by decide +kernel, rfl, by decide +kernel, by decide +kernel⟩
abbrev N__law_small : List Str := ["_law_row_here", "_law_marks", "_law_most", "_law_ones", "_law_twos", "_law_pile", "_law_left", "_law_number", "_law_way", "_law_place", "_law_leaf"]
abbrev P__law_small : List Str := ["_law_row_here", "_law_marks", "_law_most"]
theorem sc__law_small : FnScope N__law_small P__law_small (defScope s__law_small) := ⟨rfl, rfl, rfl, by decide +kernel, rfl, by decide +kernel, by decide +kernel⟩
abbrev N__law_plain : List Str := ["_law_tree", "_law_first_here"]
abbrev P__law_plain : List Str := ["_law_tree"]
theorem sc__law_plain : FnScope N__law_plain P__law_plain (defScope s__law_plain) := ⟨rfl, rfl, rfl, by decide +kernel, rfl, by decide +kernel, by decide +kernel⟩
abbrev N__law_parts : List Str := ["_law_tree", "_law_found", "_law_part", "_law_one"]
abbrev P__law_parts : List Str := ["_law_tree"]
theorem sc__law_parts : FnScope N__law_parts P__law_parts (defScope s__law_parts) := ⟨rfl, rfl, rfl, by decide +kernel, rfl, by decide +kernel, by decide +kernel⟩
abbrev N__law_reads : List Str := ["_law_tree", "_law_moment", "_law_label", "_law_guess", "_law_parts_here", "_law_word", "_law_first_here", "_law_second", "_law_other"]
abbrev P__law_reads : List Str := ["_law_tree", "_law_moment", "_law_label", "_law_guess", "_law_parts_here"]
theorem sc__law_reads : FnScope N__law_reads P__law_reads (defScope s__law_reads) := ⟨rfl, rfl, rfl, by decide +kernel, rfl, by decide +kernel, by decide +kernel⟩
abbrev N__law_goes : List Str := ["_law_moment", "_law_label", "_law_guess", "_law_parts_here", "_law_k", "_law_asked_here"]
abbrev P__law_goes : List Str := ["_law_moment", "_law_label", "_law_guess", "_law_parts_here"]
theorem sc__law_goes : FnScope N__law_goes P__law_goes (defScope s__law_goes) := ⟨rfl, rfl, rfl, by decide +kernel, rfl, by decide +kernel, by decide +kernel⟩
abbrev N__law_behind : List Str := ["_law_moment", "_law_label", "_law_guess", "_law_parts_here", "_law_found", "_law_k", "_law_asked_here"]
abbrev P__law_behind : List Str := ["_law_moment", "_law_label", "_law_guess", "_law_parts_here"]
theorem sc__law_behind : FnScope N__law_behind P__law_behind (defScope s__law_behind) := ⟨rfl, rfl, rfl, by decide +kernel, rfl, by decide +kernel, by decide +kernel⟩
abbrev N__law_rung : List Str := ["_law_moment", "_law_label", "_law_guess", "_law_parts_here", "_law_found", "_law_number", "_law_part", "_law_whole", "_law_second"]
abbrev P__law_rung : List Str := ["_law_moment", "_law_label", "_law_guess", "_law_parts_here"]
theorem sc__law_rung : FnScope N__law_rung P__law_rung (defScope s__law_rung) := ⟨rfl, rfl, rfl, by decide +kernel, rfl, by decide +kernel, by decide +kernel⟩
abbrev N__law_first : List Str := ["_law_parts_here", "_law_part"]
abbrev P__law_first : List Str := ["_law_parts_here"]
theorem sc__law_first : FnScope N__law_first P__law_first (defScope s__law_first) := ⟨rfl, rfl, rfl, by decide +kernel, rfl, by decide +kernel, by decide +kernel⟩
abbrev N__law_within : List Str := ["_law_tree", "_law_found", "_law_part"]
abbrev P__law_within : List Str := ["_law_tree"]
theorem sc__law_within : FnScope N__law_within P__law_within (defScope s__law_within) := ⟨rfl, rfl, rfl, by decide +kernel, rfl, by decide +kernel, by decide +kernel⟩
abbrev N__law_asked : List Str := ["_law_way", "_law_tree", "_law_moment", "_law_label", "_law_guess", "_law_parts_here", "_law_found", "_law_one"]
abbrev P__law_asked : List Str := ["_law_way", "_law_tree", "_law_moment", "_law_label", "_law_guess", "_law_parts_here"]
theorem sc__law_asked : FnScope N__law_asked P__law_asked (defScope s__law_asked) := ⟨rfl, rfl, rfl, by decide +kernel, rfl, by decide +kernel, by decide +kernel⟩
abbrev N_law : List Str := ["_law_script", "_law_row_here", "_law_marks", "_law_tree", "_law_parts_here", "_law_foreign", "_law_some", "_law_moment", "_law_label", "_law_guess", "_law_handed", "_law_turn", "_law_way", "_law_mark_here", "_law_k"]
abbrev P_law : List Str := ["_law_script"]
theorem sc_law : FnScope N_law P_law (defScope s_law) := ⟨rfl, rfl, rfl, by decide +kernel, rfl, by decide +kernel, by decide +kernel⟩
def clsN : Nat → Str
  | _ => ""
def flds : Nat → List Str
  | _ => []
abbrev nf : Nat → Nat := fun c => (flds c).length
def lam_0 : LamD := { params := lamP (defArgs s_look_of_one) (retE (stN (ifB (stN (defBody s_look_of_one) 0)) 0)), body := lamB (retE (stN (ifB (stN (defBody s_look_of_one) 0)) 0)), scope := lamS (defScope s_look_of_one) (retE (stN (ifB (stN (defBody s_look_of_one) 0)) 0)), qual := locL "look_of_one", ps := ["moment", "label", "guess"], caps := [("first", 0)] }
def lam_1 : LamD := { params := lamP (defArgs s_look_of_two) (retE (stN (ifB (stN (defBody s_look_of_two) 0)) 0)), body := lamB (retE (stN (ifB (stN (defBody s_look_of_two) 0)) 0)), scope := lamS (defScope s_look_of_two) (retE (stN (ifB (stN (defBody s_look_of_two) 0)) 0)), qual := locL "look_of_two", ps := ["moment", "label", "guess"], caps := [("second", 1), ("first", 0)] }
def lam_2 : LamD := { params := lamP (defArgs s_look_of_two) (retE (stN (ifB (stN (defBody s_look_of_two) 1)) 0)), body := lamB (retE (stN (ifB (stN (defBody s_look_of_two) 1)) 0)), scope := lamS (defScope s_look_of_two) (retE (stN (ifB (stN (defBody s_look_of_two) 1)) 0)), qual := locL "look_of_two", ps := ["moment", "label", "guess"], caps := [("second", 1), ("first", 0)] }
def lam_3 : LamD := { params := lamP (defArgs s_look_of_two) (retE (stN (ifB (stN (defBody s_look_of_two) 3)) 0)), body := lamB (retE (stN (ifB (stN (defBody s_look_of_two) 3)) 0)), scope := lamS (defScope s_look_of_two) (retE (stN (ifB (stN (defBody s_look_of_two) 3)) 0)), qual := locL "look_of_two", ps := ["moment", "label", "guess"], caps := [("second", 1), ("first", 0), ("at", 2)] }
def lam_4 : LamD := { params := lamP (defArgs s_look_of_two) (retE (stN (ifB (stN (defBody s_look_of_two) 4)) 0)), body := lamB (retE (stN (ifB (stN (defBody s_look_of_two) 4)) 0)), scope := lamS (defScope s_look_of_two) (retE (stN (ifB (stN (defBody s_look_of_two) 4)) 0)), qual := locL "look_of_two", ps := ["moment", "label", "guess"], caps := [("second", 1), ("first", 0), ("at", 2)] }
def lam_5 : LamD := { params := lamP (defArgs s_look_of_two) (retE (stN (ifB (stN (defBody s_look_of_two) 5)) 0)), body := lamB (retE (stN (ifB (stN (defBody s_look_of_two) 5)) 0)), scope := lamS (defScope s_look_of_two) (retE (stN (ifB (stN (defBody s_look_of_two) 5)) 0)), qual := locL "look_of_two", ps := ["moment", "label", "guess"], caps := [("second", 1), ("first", 0), ("at", 2)] }
def lam_6 : LamD := { params := lamP (defArgs s_look_of_two) (retE (stN (defBody s_look_of_two) 6)), body := lamB (retE (stN (defBody s_look_of_two) 6)), scope := lamS (defScope s_look_of_two) (retE (stN (defBody s_look_of_two) 6)), qual := locL "look_of_two", ps := ["moment", "label", "guess"], caps := [("second", 1), ("first", 0), ("at", 2)] }
def lam_7 : LamD := { params := lamP (defArgs s_look_of) (retE (stN (ifB (stN (defBody s_look_of) 0)) 0)), body := lamB (retE (stN (ifB (stN (defBody s_look_of) 0)) 0)), scope := lamS (defScope s_look_of) (retE (stN (ifB (stN (defBody s_look_of) 0)) 0)), qual := locL "look_of", ps := ["moment", "label", "guess"], caps := [] }
def lam_8 : LamD := { params := lamP (defArgs s_look_of) (retE (stN (ifB (stN (defBody s_look_of) 1)) 0)), body := lamB (retE (stN (ifB (stN (defBody s_look_of) 1)) 0)), scope := lamS (defScope s_look_of) (retE (stN (ifB (stN (defBody s_look_of) 1)) 0)), qual := locL "look_of", ps := ["moment", "label", "guess"], caps := [] }
def lam_9 : LamD := { params := lamP (defArgs s_look_of) (retE (stN (ifB (stN (defBody s_look_of) 2)) 0)), body := lamB (retE (stN (ifB (stN (defBody s_look_of) 2)) 0)), scope := lamS (defScope s_look_of) (retE (stN (ifB (stN (defBody s_look_of) 2)) 0)), qual := locL "look_of", ps := ["moment", "label", "guess"], caps := [("tree", 0)] }
def lam_10 : LamD := { params := lamP (defArgs s_look_of) (retE (stN (ifB (stN (defBody s_look_of) 3)) 1)), body := lamB (retE (stN (ifB (stN (defBody s_look_of) 3)) 1)), scope := lamS (defScope s_look_of) (retE (stN (ifB (stN (defBody s_look_of) 3)) 1)), qual := locL "look_of", ps := ["moment", "label", "guess"], caps := [("at", 1)] }
def lam_11 : LamD := { params := lamP (defArgs s_look_of) (retE (stN (ifB (stN (defBody s_look_of) 4)) 1)), body := lamB (retE (stN (ifB (stN (defBody s_look_of) 4)) 1)), scope := lamS (defScope s_look_of) (retE (stN (ifB (stN (defBody s_look_of) 4)) 1)), qual := locL "look_of", ps := ["moment", "label", "guess"], caps := [("at", 1)] }
def lamQ : Nat → Option LamD
  | 0 => some lam_0
  | 1 => some lam_1
  | 2 => some lam_2
  | 3 => some lam_3
  | 4 => some lam_4
  | 5 => some lam_5
  | 6 => some lam_6
  | 7 => some lam_7
  | 8 => some lam_8
  | 9 => some lam_9
  | 10 => some lam_10
  | 11 => some lam_11
  | _ => none
abbrev tb (w : World) (K : PySem.W.Frag) : Tab := { K := K, cls := fun c => He.ga K (clsN c), flds := flds, xo := xoL lamQ (xoT K clsN), w := w, tt := ttOf K mkN }
def c_LOOKING_ON : D := (.lst [(.str "next"), (.str "until"), (.str "frees")])
def c_RINGING : D := (.lst [(.str "until"), (.str "frees")])
abbrev k0 : Nat → Bool := fun i => i == 0
abbrev k1 : Nat → Bool := fun i => i == 1
abbrev k2_3 : Nat → Bool := fun i => i == 2 || i == 3
abbrev kNo : Nat → Bool := fun _ => false
def bl_0 (f : Fn) : M D := (eNot (eFz nf (rCallV lamQ 3 4 f (aV (eVar 0) (aV (eVar 1) (aV (eVar 2) aNil))))))
def bl_1 (f : Fn) : M D := (eAnd (eFz nf (rCallV lamQ 4 4 f (aV (eVar 0) (aV (eVar 1) (aV (eVar 2) aNil))))) (eFz nf (rCallV lamQ 3 4 f (aV (eVar 0) (aV (eVar 1) (aV (eVar 2) aNil))))))
def bl_2 (f : Fn) : M D := (eOr (eFz nf (rCallV lamQ 4 4 f (aV (eVar 0) (aV (eVar 1) (aV (eVar 2) aNil))))) (eFz nf (rCallV lamQ 3 4 f (aV (eVar 0) (aV (eVar 1) (aV (eVar 2) aNil))))))
def bl_3 (f : Fn) : M D := (eOr (eFz nf (rCallV lamQ 3 4 f (aV (eVar 0) (aV (eVar 1) (aV (eVar 2) aNil))))) (eAnd (eFz nf (rCallV lamQ 4 4 f (aV (eVar 0) (aV (eVar 1) (aV (eVar 2) aNil))))) (eBin dIx (eVar 2) (eVar 5))))
def bl_4 (f : Fn) : M D := (eAnd (eFz nf (rCallV lamQ 3 4 f (aV (eVar 0) (aV (eVar 1) (aV (eVar 2) aNil))))) (eOr (eFz nf (rCallV lamQ 4 4 f (aV (eVar 0) (aV (eVar 1) (aV (eVar 2) aNil))))) (eBin dIx (eVar 2) (eVar 5))))
def bl_5 (f : Fn) : M D := (eOr (eFz nf (rCallV lamQ 3 4 f (aV (eVar 0) (aV (eVar 1) (aV (eVar 2) aNil))))) (eAnd (eFz nf (rCallV lamQ 4 4 f (aV (eVar 0) (aV (eVar 1) (aV (eVar 2) aNil))))) (eBin dIx (eVar 1) (eVar 5))))
def bl_6 (f : Fn) : M D := (eAnd (eFz nf (rCallV lamQ 3 4 f (aV (eVar 0) (aV (eVar 1) (aV (eVar 2) aNil))))) (eOr (eFz nf (rCallV lamQ 4 4 f (aV (eVar 0) (aV (eVar 1) (aV (eVar 2) aNil))))) (eBin dIx (eVar 1) (eVar 5))))
def bl_7 (f : Fn) : M D := (ret (.bl true))
def bl_8 (f : Fn) : M D := (ret (.bl false))
def bl_9 (f : Fn) : M D := (eBin dIn (eBin dIx (eVar 3) (ret (.int 1))) (eVar 0))
def bl_10 (f : Fn) : M D := (eBin dIx (eVar 2) (eVar 3))
def bl_11 (f : Fn) : M D := (eBin dIx (eVar 1) (eVar 3))
def bdQ (f : Fn) : Nat → M D
  | 0 => bl_0 f
  | 1 => bl_1 f
  | 2 => bl_2 f
  | 3 => bl_3 f
  | 4 => bl_4 f
  | 5 => bl_5 f
  | 6 => bl_6 f
  | 7 => bl_7 f
  | 8 => bl_8 f
  | 9 => bl_9 f
  | 10 => bl_10 f
  | 11 => bl_11 f
  | _ => fun _ => none
abbrev gfQ : Nat → Option (Nat × Fn) := fun _ => none
def F_app : Nat → Fn
  | 0 => appF lamQ gfQ (fun _ _ => none)
  | n + 1 => appF lamQ gfQ (bdQ (F_app n))
def b_look_of_one : MC := (cIf (eTst (eBin dEq (eVar 0) (ret (.str "not")))) (cLam 0 [0] [1]) (cRet (eVar 1)))
def F_look_of_one : Fn := fnOfC 2 2 k1 b_look_of_one
def b_look_of_two : MC := (cIf (eTst (eBin dEq (eBin dIx (eVar 0) (ret (.int 0))) (ret (.str "and")))) (cLam 1 [1, 0] [3, 2]) (cIf (eTst (eBin dEq (eBin dIx (eVar 0) (ret (.int 0))) (ret (.str "or")))) (cLam 2 [1, 0] [3, 2]) (cSeq (sSet 4 (rD (eMt "list" dLIndex (eVar 1) (eCons (eVar 0) eNil)))) (cIf (eTst (eBin dEq (eBin dIx (eVar 0) (ret (.int 0))) (ret (.str "until")))) (cLam 3 [1, 0, 2] [3, 2, 4]) (cIf (eTst (eBin dEq (eBin dIx (eVar 0) (ret (.int 0))) (ret (.str "frees")))) (cLam 4 [1, 0, 2] [3, 2, 4]) (cIf (eTst (eBin dEq (eBin dIx (eVar 0) (ret (.int 0))) (ret (.str "since")))) (cLam 5 [1, 0, 2] [3, 2, 4]) (cLam 6 [1, 0, 2] [3, 2, 4])))))))
def F_look_of_two : Fn := fnOfC 4 5 k2_3 b_look_of_two
def b_look_of (f : Fn) : MC := (cIf (eTst (eBin dEq (eBin dIx (eVar 0) (ret (.int 0))) (ret (.str "yes")))) (cLam 7 [] []) (cIf (eTst (eBin dEq (eBin dIx (eVar 0) (ret (.int 0))) (ret (.str "no")))) (cLam 8 [] []) (cIf (eTst (eBin dEq (eBin dIx (eVar 0) (ret (.int 0))) (ret (.str "now")))) (cLam 9 [0] [0]) (cIf (eTst (eBin dEq (eBin dIx (eVar 0) (ret (.int 0))) (ret (.str "next")))) (cSeq (sSet 2 (rD (eMt "list" dLIndex (eVar 1) (eCons (eVar 0) eNil)))) (cLam 10 [1] [2])) (cIf (cOr (eTst (eBin dEq (eBin dIx (eVar 0) (ret (.int 0))) (ret (.str "before")))) (eTst (eBin dEq (eBin dIx (eVar 0) (ret (.int 0))) (ret (.str "early"))))) (cSeq (sSet 2 (rD (eMt "list" dLIndex (eVar 1) (eCons (eVar 0) eNil)))) (cLam 11 [1] [2])) (cIf (eTst (eBin dEq (eOp dLen (eCons (eVar 0) eNil)) (ret (.int 2)))) (cRet (eFz nf (rCall 2 F_look_of_one [] (aV (eBin dIx (eVar 0) (ret (.int 0))) (aV (eFz nf (rCall 2 f [] (aV (eBin dIx (eVar 0) (ret (.int 1))) (aV (eVar 1) aNil)))) aNil))))) (cRet (eFz nf (rCall 4 F_look_of_two [] (aV (eVar 0) (aV (eVar 1) (aV (eFz nf (rCall 2 f [] (aV (eBin dIx (eVar 0) (ret (.int 1))) (aV (eVar 1) aNil)))) (aV (eFz nf (rCall 2 f [] (aV (eBin dIx (eVar 0) (ret (.int 2))) (aV (eVar 1) aNil)))) aNil)))))))))))))
def F_look_of : Nat → Fn
  | 0 => fnOfC 2 3 k0 cNever
  | n + 1 => fnOfC 2 3 k0 (b_look_of (F_look_of n))
def b_reads : MS := (sRet (rCallE lamQ 4 (F_app 40) (eFz nf (rCall 2 (F_look_of 40) [] (aV (eVar 0) (aV (eVar 4) aNil)))) (aV (eVar 1) (aV (eVar 2) (aV (eVar 3) aNil)))))
def F_reads : Fn := fnOf 5 5 kNo b_reads
def b_goes_with : MS := (sSeq (sFor (iEn (eCons (eVar 3) eNil)) (gT 2 (gsC (gN 4) (gsC (gN 5) gsN))) (sSeq (sIf (eTst (eBin dNotIn (eBin dIx (eVar 5) (ret (.int 0))) (ret c_LOOKING_ON))) sCt sNext) (sSeq (sSet 6 (rD (eVar 5))) (sSeq (sIf (eTst (eBin dEq (eBin dIx (eVar 5) (ret (.int 0))) (ret (.str "next")))) (sSet 6 (rD (eBin dIx (eVar 5) (ret (.int 1))))) sNext) (sIf (eTst (eBin dNe (eFz nf (rCall 5 F_reads [] (aV (eVar 6) (aV (eVar 0) (aV (eVar 1) (aV (eVar 2) (aV (eVar 3) aNil))))))) (eBin dIx (eVar 1) (eVar 4)))) (sRet (rD (ret (.bl false)))) sNext))))) (sRet (rD (ret (.bl true)))))
def F_goes_with : Fn := fnOf 4 7 kNo b_goes_with
def b_next_label : MS := (sSeq (sSet 4 (rLst eNil)) (sSeq (sFor (iEn (eCons (eVar 3) eNil)) (gT 2 (gsC (gN 5) (gsC (gN 6) gsN))) (sIf (eTst (eBin dIn (eBin dIx (eVar 6) (ret (.int 0))) (ret c_LOOKING_ON))) (sApp' 4 (eBin dIx (eVar 2) (eVar 5))) (sIf (eTst (eBin dEq (eOp dLen (eCons (eVar 6) eNil)) (ret (.int 2)))) (sApp' 4 (eFz nf (rCall 5 F_reads [] (aV (eBin dIx (eVar 6) (ret (.int 1))) (aV (eVar 0) (aV (eVar 1) (aV (eVar 2) (aV (eVar 3) aNil)))))))) (sApp' 4 (eFz nf (rCall 5 F_reads [] (aV (eVar 6) (aV (eVar 0) (aV (eVar 1) (aV (eVar 2) (aV (eVar 3) aNil))))))))))) (sRet (rD (eOp dTuple (eCons (eVar 4) eNil))))))
def F_next_label : Fn := fnOf 4 7 kNo b_next_label
def b_first_label : MS := (sRet (rD (eOp dTuple (eCons (eFz nf (rLc (iLst (eVar 0)) (gN 1) cYes (eOr (eBin dEq (eBin dIx (eVar 1) (ret (.int 0))) (ret (.str "early"))) (eBin dEq (eBin dIx (eVar 1) (ret (.int 0))) (ret (.str "held")))) [1])) eNil))))
def F_first_label : Fn := fnOf 1 2 kNo b_first_label
def b_bells_rung : MS := (sSeq (sSet 4 (rLst eNil)) (sSeq (sFor (iEn (eCons (eFz nf (rLc (iLst (eVar 3)) (gN 6) (eTst (eBin dIn (eBin dIx (eVar 6) (ret (.int 0))) (ret c_RINGING))) (eVar 6) [6])) eNil)) (gT 2 (gsC (gN 5) (gsC (gN 6) gsN))) (sSeq (sSet 7 (rCall 5 F_reads [] (aV (eVar 6) (aV (eVar 0) (aV (eVar 1) (aV (eVar 2) (aV (eVar 3) aNil))))))) (sSeq (sSet 8 (rCall 5 F_reads [] (aV (eBin dIx (eVar 6) (ret (.int 2))) (aV (eVar 0) (aV (eVar 1) (aV (eVar 2) (aV (eVar 3) aNil))))))) (sIf (cOr (cAnd (eTst (eBin dEq (eBin dIx (eVar 6) (ret (.int 0))) (ret (.str "until")))) (cOr (cNot (eTst (eVar 7))) (eTst (eVar 8)))) (cAnd (eTst (eBin dEq (eBin dIx (eVar 6) (ret (.int 0))) (ret (.str "frees")))) (cOr (eTst (eVar 7)) (cNot (eTst (eVar 8)))))) (sApp' 4 (eVar 5)) sNext)))) (sRet (rD (eOp dTuple (eCons (eVar 4) eNil))))))
def F_bells_rung : Fn := fnOf 4 9 kNo b_bells_rung
def b__law_row : MS := (sSeq (sSet 2 (rLst eNil)) (sSeq (sSet 3 (rD (ret (.int 7)))) (sSeq (sFor (iR1 (eCons (eVar 1) eNil)) (gN 4) (sSeq (sSet 5 (rD (ret (.int 0)))) (sSeq (sIf (eTst (eBin dGt (eOp dLen (eCons (eVar 0) eNil)) (ret (.int 0)))) (sSet 5 (rD (eBin dIx (eVar 0) (eBin dMod (eVar 4) (eOp dLen (eCons (eVar 0) eNil)))))) sNext) (sSeq (sSet 3 (rD (eBin dMod (eBin dAdd (eBin dAdd (eBin dMul (eVar 3) (ret (.int 48271))) (eVar 5)) (eVar 4)) (ret (.int 2147483647))))) (sApp' 2 (eBin dMod (eBin dAdd (eBin dMul (eVar 3) (eVar 3)) (eBin dMul (ret (.int 16807)) (eVar 3))) (ret (.int 2147483629)))))))) (sRet (rMv 2)))))
def F__law_row : Fn := fnOf 2 6 kNo b__law_row
def b__law_kept : MS := (sSeq (sSet 0 (rLst (eCons (ret (.str "yes")) (eCons (ret (.str "no")) (eCons (ret (.str "not")) (eCons (ret (.str "and")) (eCons (ret (.str "or")) (eCons (ret (.str "then")) (eCons (ret (.str "until")) (eCons (ret (.str "since")) (eCons (ret (.str "frees")) (eCons (ret (.str "held")) eNil)))))))))))) (sRet (rBin gCat (eVar 0) (eFz nf (rLst (eCons (ret (.str "next")) (eCons (ret (.str "before")) (eCons (ret (.str "early")) (eCons (ret (.str "soon")) (eCons (ret (.str "ever")) (eCons (ret (.str "once")) (eCons (ret (.str "sofar")) (eCons (ret (.str "again")) (eCons (ret (.str "settles")) eNil))))))))))))))
def F__law_kept : Fn := fnOf 0 1 kNo b__law_kept
def b__law_mark : MS := (sSeq (sSet 2 (rD (ret (.str "abcdefghijklmnopqrstuvwxyz0123456789")))) (sSeq (sSet 3 (rLc (iR1 (eCons (ret (.int 8)) eNil)) (gN 8) cYes (eBin dIx (eVar 2) (eBin dMod (eBin dAdd (eBin dAdd (eBin dDiv (eVar 0) (ret (.int 64))) (eBin dMul (ret (.int 11)) (eVar 8))) (eBin dMul (eBin dDiv (eVar 0) (ret (.int 99991))) (eVar 8))) (ret (.int 36)))) [8])) (sSeq (sSub 3 (ret (.int 0)) (eBin dIx (eVar 2) (eBin dMod (eBin dDiv (eVar 0) (ret (.int 16))) (ret (.int 26))))) (sSeq (sSet 4 (rD (eBin dMod (eVar 0) (ret (.int 4))))) (sSeq (sIf (cAnd (eTst (eBin dEq (eVar 4) (ret (.int 0)))) (eTst (eBin dLt (eVar 1) (ret (.int 8))))) (sSet 5 (rD (eFull nf (eMt "str" dJoin (ret (.str "")) (eCons (eFz nf (rSlL' (eVar 3) oNone (oSome (eBin dAdd (ret (.int 1)) (eVar 1))))) eNil))))) (sIf (eTst (eBin dEq (eVar 4) (ret (.int 1)))) (sSet 5 (rD (eBin dAdd (eSl (eBin dIx (eFz nf (rCall 0 F__law_kept [] aNil)) (eBin dMod (eBin dDiv (eVar 0) (ret (.int 4))) (ret (.int 19)))) oNone (oSome (eBin dAdd (ret (.int 1)) (eBin dMod (eBin dDiv (eVar 0) (ret (.int 7))) (ret (.int 7)))))) (eBin dIx (ret (.str "0123456789x")) (eBin dMod (eVar 1) (ret (.int 11))))))) (sIf (cOr (eTst (eBin dEq (eVar 4) (ret (.int 2)))) (eTst (eBin dGt (eVar 1) (ret (.int 25))))) (sSet 5 (rD (eFull nf (eBin dAdd (eMt "str" dJoin (ret (.str "")) (eCons (eFz nf (rSlL' (eVar 3) oNone (oSome (eBin dAdd (ret (.int 1)) (eBin dMod (eBin dDiv (eVar 0) (ret (.int 3))) (ret (.int 5))))))) eNil)) (eOp dStr (eCons (eVar 1) eNil)))))) (sSeq (sSet 6 (rD (eBin dAdd (ret (.int 1)) (eBin dMod (eBin dDiv (eVar 0) (ret (.int 3))) (ret (.int 8)))))) (sSeq (sSet 7 (rD (eBin dMod (eBin dDiv (eVar 0) (ret (.int 61))) (eVar 6)))) (sSeq (sSub 3 (eVar 7) (eBin dIx (eVar 2) (eBin dMod (eBin dAdd (eBin dDiv (eVar 0) (ret (.int 2311))) (eVar 1)) (eBin dIx (eFz nf (rLst (eCons (ret (.int 36)) (eCons (ret (.int 26)) eNil)))) (eOp dInt (eCons (eBin dEq (eVar 7) (ret (.int 0))) eNil)))))) (sSet 5 (rD (eMt "str" dJoin (ret (.str "")) (eCons (eFz nf (rSlL' (eVar 3) oNone (oSome (eVar 6)))) eNil)))))))))) (sSeq (sIf (eTst (eBin dIn (eVar 5) (eFz nf (rCall 0 F__law_kept [] aNil)))) (sSet 5 (rD (eBin dAdd (eVar 5) (ret (.str "x"))))) sNext) (sRet (rD (eVar 5)))))))))
def F__law_mark : Fn := fnOf 2 9 kNo b__law_mark
def b__law_small : MS := (sSeq (sSet 3 (rLst (eCons (ret (.str "not")) (eCons (ret (.str "next")) (eCons (ret (.str "before")) (eCons (ret (.str "early")) (eCons (ret (.str "soon")) (eCons (ret (.str "ever")) (eCons (ret (.str "once")) (eCons (ret (.str "sofar")) (eCons (ret (.str "again")) (eCons (ret (.str "settles")) eNil)))))))))))) (sSeq (sSet 4 (rLst (eCons (ret (.str "and")) (eCons (ret (.str "or")) (eCons (ret (.str "then")) (eCons (ret (.str "until")) (eCons (ret (.str "since")) (eCons (ret (.str "frees")) (eCons (ret (.str "held")) eNil))))))))) (sSeq (sSet 5 (rLst eNil)) (sSeq (sSet 6 (rD (eVar 2))) (sSeq (sFor (iLst (eVar 0)) (gN 7) (sSeq (sSet 8 (rD (eBin dMod (eVar 7) (ret (.int 5))))) (sIf (tFull nf (cAnd (eTst (eBin dLt (eVar 8) (ret (.int 2)))) (eTst (eBin dGt (eOp dLen (eCons (eVar 5) eNil)) (ret (.int 0)))))) (sSeq (sSet 9 (rD (eBin dMod (eBin dDiv (eVar 7) (ret (.int 5))) (ret (.int 10))))) (sSeq (sIf (eTst (eBin dGt (eBin dIx (eFz nf (rLst (eCons (ret (.int 0)) (eCons (ret (.int 1)) (eCons (ret (.int 1)) (eCons (ret (.int 1)) (eCons (ret (.int 1)) (eCons (ret (.int 1)) (eCons (ret (.int 1)) (eCons (ret (.int 1)) (eCons (ret (.int 2)) (eCons (ret (.int 2)) eNil)))))))))))) (eVar 9)) (eVar 6))) (sSet 9 (rD (ret (.int 0)))) sNext) (sSeq (sSet 6 (rD (eBin dSub (eVar 6) (eBin dIx (eFz nf (rLst (eCons (ret (.int 0)) (eCons (ret (.int 1)) (eCons (ret (.int 1)) (eCons (ret (.int 1)) (eCons (ret (.int 1)) (eCons (ret (.int 1)) (eCons (ret (.int 1)) (eCons (ret (.int 1)) (eCons (ret (.int 2)) (eCons (ret (.int 2)) eNil)))))))))))) (eVar 9))))) (sSet 5 (rFull nf (rBin gCat (eFz nf (rSlL' (eVar 5) oNone (oSome (eUn dNeg (ret (.int 1)))))) (eFz nf (rLst (eCons (eTup (eCons (eBin dIx (eVar 3) (eVar 9)) (eCons (eIxO 5 (eUn dNeg (ret (.int 1)))) eNil))) eNil))))))))) (sIf (tFull nf (cAnd (eTst (eBin dEq (eVar 8) (ret (.int 2)))) (eTst (eBin dGt (eOp dLen (eCons (eVar 5) eNil)) (ret (.int 1)))))) (sSeq (sSet 9 (rD (eBin dMod (eBin dDiv (eVar 7) (ret (.int 5))) (eBin dIx (eFz nf (rLst (eCons (ret (.int 3)) (eCons (ret (.int 7)) eNil)))) (eOp dInt (eCons (eBin dGt (eVar 6) (ret (.int 0))) eNil)))))) (sSeq (sSet 6 (rD (eBin dSub (eVar 6) (eOp dInt (eCons (eBin dGt (eVar 9) (ret (.int 2))) eNil))))) (sSet 5 (rFull nf (rBin gCat (eFz nf (rSlL' (eVar 5) oNone (oSome (eUn dNeg (ret (.int 2)))))) (eFz nf (rLst (eCons (eTup (eCons (eBin dIx (eVar 4) (eVar 9)) (eCons (eIxO 5 (eUn dNeg (ret (.int 2)))) (eCons (eIxO 5 (eUn dNeg (ret (.int 1)))) eNil)))) eNil)))))))) (sSeq (sSet 10 (rD (eTup (eCons (ret (.str "now")) (eCons (eBin dIx (eVar 1) (eBin dMod (eBin dDiv (eVar 7) (ret (.int 5))) (eOp dLen (eCons (eVar 1) eNil)))) eNil))))) (sApp' 5 (eBin dIx (eFz nf (rLst (eCons (eVar 10) (eCons (eVar 10) (eCons (eVar 10) (eCons (eVar 10) (eCons (eTup (eCons (ret (.str "yes")) eNil)) (eCons (eTup (eCons (ret (.str "no")) eNil)) eNil)))))))) (eBin dMod (eBin dDiv (eVar 7) (ret (.int 31))) (ret (.int 6)))))))))) (sSeq (whileL (eTst (eBin dGt (eOp dLen (eCons (eVar 5) eNil)) (ret (.int 1)))) (sSet 5 (rBin gCat (eFz nf (rSlL' (eVar 5) oNone (oSome (eUn dNeg (ret (.int 2)))))) (eFz nf (rLst (eCons (eTup (eCons (eBin dIx (eVar 4) (eBin dMod (eBin dDiv (eBin dIx (eVar 0) (ret (.int 0))) (ret (.int 5))) (ret (.int 3)))) (eCons (eIxO 5 (eUn dNeg (ret (.int 2)))) (eCons (eIxO 5 (eUn dNeg (ret (.int 1)))) eNil)))) eNil))))) 100) (sRet (rD (eIxO 5 (ret (.int 0)))))))))))
def F__law_small : Fn := fnOf 3 11 kNo b__law_small
def b__law_plain (f : Fn) : MS := (sSeq (sIf (cOr (eTst (eBin dEq (eOp dLen (eCons (eVar 0) eNil)) (ret (.int 1)))) (eTst (eBin dEq (eBin dIx (eVar 0) (ret (.int 0))) (ret (.str "now"))))) (sRet (rD (eVar 0))) sNext) (sSeq (sSet 1 (rCall 1 f [] (aV (eBin dIx (eVar 0) (ret (.int 1))) aNil))) (sSeq (sIf (eTst (eBin dEq (eBin dIx (eVar 0) (ret (.int 0))) (ret (.str "soon")))) (sRet (rD (eTup (eCons (ret (.str "until")) (eCons (eTup (eCons (ret (.str "yes")) eNil)) (eCons (eVar 1) eNil)))))) sNext) (sSeq (sIf (eTst (eBin dEq (eBin dIx (eVar 0) (ret (.int 0))) (ret (.str "ever")))) (sRet (rD (eTup (eCons (ret (.str "frees")) (eCons (eTup (eCons (ret (.str "no")) eNil)) (eCons (eVar 1) eNil)))))) sNext) (sSeq (sIf (eTst (eBin dEq (eBin dIx (eVar 0) (ret (.int 0))) (ret (.str "once")))) (sRet (rD (eTup (eCons (ret (.str "since")) (eCons (eTup (eCons (ret (.str "yes")) eNil)) (eCons (eVar 1) eNil)))))) sNext) (sSeq (sIf (eTst (eBin dEq (eBin dIx (eVar 0) (ret (.int 0))) (ret (.str "sofar")))) (sRet (rD (eTup (eCons (ret (.str "held")) (eCons (eTup (eCons (ret (.str "no")) eNil)) (eCons (eVar 1) eNil)))))) sNext) (sSeq (sIf (eTst (eBin dEq (eBin dIx (eVar 0) (ret (.int 0))) (ret (.str "again")))) (sRet (rD (eTup (eCons (ret (.str "frees")) (eCons (eTup (eCons (ret (.str "no")) eNil)) (eCons (eTup (eCons (ret (.str "until")) (eCons (eTup (eCons (ret (.str "yes")) eNil)) (eCons (eVar 1) eNil)))) eNil)))))) sNext) (sSeq (sIf (eTst (eBin dEq (eBin dIx (eVar 0) (ret (.int 0))) (ret (.str "settles")))) (sRet (rD (eTup (eCons (ret (.str "until")) (eCons (eTup (eCons (ret (.str "yes")) eNil)) (eCons (eTup (eCons (ret (.str "frees")) (eCons (eTup (eCons (ret (.str "no")) eNil)) (eCons (eVar 1) eNil)))) eNil)))))) sNext) (sSeq (sIf (eTst (eBin dEq (eBin dIx (eVar 0) (ret (.int 0))) (ret (.str "then")))) (sRet (rD (eTup (eCons (ret (.str "or")) (eCons (eTup (eCons (ret (.str "not")) (eCons (eVar 1) eNil))) (eCons (eFz nf (rCall 1 f [] (aV (eBin dIx (eVar 0) (ret (.int 2))) aNil))) eNil)))))) sNext) (sSeq (sIf (eTst (eBin dEq (eOp dLen (eCons (eVar 0) eNil)) (ret (.int 2)))) (sRet (rD (eTup (eCons (eBin dIx (eVar 0) (ret (.int 0))) (eCons (eVar 1) eNil))))) sNext) (sRet (rD (eTup (eCons (eBin dIx (eVar 0) (ret (.int 0))) (eCons (eVar 1) (eCons (eFz nf (rCall 1 f [] (aV (eBin dIx (eVar 0) (ret (.int 2))) aNil))) eNil))))))))))))))))
def F__law_plain : Nat → Fn
  | 0 => fnOf 1 2 kNo sNever
  | n + 1 => fnOf 1 2 kNo (b__law_plain (F__law_plain n))
def b__law_parts (f : Fn) : MS := (sSeq (sSet 1 (rLst eNil)) (sSeq (sIf (eTst (eBin dNe (eBin dIx (eVar 0) (ret (.int 0))) (ret (.str "now")))) (sFor (iTupl (eSl (eVar 0) (oSome (ret (.int 1))) oNone)) (gN 2) (sSet 1 (rBin gCat (eVar 1) (eFz nf (rLc (iLst (eFz nf (rCall 1 f [] (aV (eVar 2) aNil)))) (gN 3) (eTst (eBin dNotIn (eVar 3) (eVar 1))) (eVar 3) [3]))))) sNext) (sSeq (sIf (cAnd (eTst (eBin dIn (eBin dIx (eVar 0) (ret (.int 0))) (eFz nf (rLst (eCons (ret (.str "next")) (eCons (ret (.str "until")) (eCons (ret (.str "frees")) (eCons (ret (.str "before")) (eCons (ret (.str "early")) (eCons (ret (.str "since")) (eCons (ret (.str "held")) eNil))))))))))) (eTst (eBin dNotIn (eVar 0) (eVar 1)))) (sSet 1 (rBin gCat (eVar 1) (eFz nf (rLst (eCons (eVar 0) eNil))))) sNext) (sRet (rMv 1)))))
def F__law_parts : Nat → Fn
  | 0 => fnOf 1 4 kNo sNever
  | n + 1 => fnOf 1 4 kNo (b__law_parts (F__law_parts n))
def b__law_reads (f : Fn) : MS := (sSeq (sSet 5 (rD (eBin dIx (eVar 0) (ret (.int 0))))) (sSeq (sIf (cOr (eTst (eBin dEq (eVar 5) (ret (.str "yes")))) (eTst (eBin dEq (eVar 5) (ret (.str "no"))))) (sRet (rD (eBin dEq (eVar 5) (ret (.str "yes"))))) sNext) (sSeq (sIf (eTst (eBin dEq (eVar 5) (ret (.str "now")))) (sRet (rD (eBin dIn (eBin dIx (eVar 0) (ret (.int 1))) (eVar 1)))) sNext) (sSeq (sIf (eTst (eBin dEq (eVar 5) (ret (.str "next")))) (sRet (rD (eBin dIx (eVar 3) (eMt "list" dLIndex (eVar 4) (eCons (eVar 0) eNil))))) sNext) (sSeq (sIf (cOr (eTst (eBin dEq (eVar 5) (ret (.str "before")))) (eTst (eBin dEq (eVar 5) (ret (.str "early"))))) (sRet (rD (eBin dIx (eVar 2) (eMt "list" dLIndex (eVar 4) (eCons (eVar 0) eNil))))) sNext) (sSeq (sSet 6 (rCall 5 f [] (aV (eBin dIx (eVar 0) (ret (.int 1))) (aV (eVar 1) (aV (eVar 2) (aV (eVar 3) (aV (eVar 4) aNil))))))) (sSeq (sIf (eTst (eBin dEq (eVar 5) (ret (.str "not")))) (sRet (rD (eNot (eVar 6)))) sNext) (sSeq (sSet 7 (rCall 5 f [] (aV (eBin dIx (eVar 0) (ret (.int 2))) (aV (eVar 1) (aV (eVar 2) (aV (eVar 3) (aV (eVar 4) aNil))))))) (sSeq (sIf (cOr (eTst (eBin dEq (eVar 5) (ret (.str "and")))) (eTst (eBin dEq (eVar 5) (ret (.str "or"))))) (sRet (rD (eBin dIx (eFz nf (rLst (eCons (eOr (eVar 6) (eVar 7)) (eCons (eAnd (eVar 6) (eVar 7)) eNil)))) (eOp dInt (eCons (eBin dEq (eVar 5) (ret (.str "and"))) eNil))))) sNext) (sSeq (sSet 8 (rD (eBin dIx (eVar 3) (eMt "list" dLIndex (eVar 4) (eCons (eVar 0) eNil))))) (sSeq (sIf (cOr (eTst (eBin dEq (eVar 5) (ret (.str "since")))) (eTst (eBin dEq (eVar 5) (ret (.str "held"))))) (sSet 8 (rD (eBin dIx (eVar 2) (eMt "list" dLIndex (eVar 4) (eCons (eVar 0) eNil))))) sNext) (sSeq (sIf (cOr (eTst (eBin dEq (eVar 5) (ret (.str "until")))) (eTst (eBin dEq (eVar 5) (ret (.str "since"))))) (sRet (rD (eOr (eVar 7) (eAnd (eVar 6) (eVar 8))))) sNext) (sRet (rD (eAnd (eVar 7) (eOr (eVar 6) (eVar 8)))))))))))))))))
def F__law_reads : Nat → Fn
  | 0 => fnOf 5 9 kNo sNever
  | n + 1 => fnOf 5 9 kNo (b__law_reads (F__law_reads n))
def b__law_goes : MS := (sSeq (sFor (iR1 (eCons (eOp dLen (eCons (eVar 3) eNil)) eNil)) (gN 4) (sSeq (sSet 5 (rD (eBin dIx (eVar 3) (eVar 4)))) (sSeq (sIf (eTst (eBin dEq (eBin dIx (eBin dIx (eVar 3) (eVar 4)) (ret (.int 0))) (ret (.str "next")))) (sSet 5 (rD (eBin dIx (eBin dIx (eVar 3) (eVar 4)) (ret (.int 1))))) sNext) (sIf (eTst (eBin dIn (eBin dIx (eBin dIx (eVar 3) (eVar 4)) (ret (.int 0))) (eFz nf (rLst (eCons (ret (.str "next")) (eCons (ret (.str "until")) (eCons (ret (.str "frees")) eNil))))))) (sIf (eTst (eBin dNe (eFz nf (rCall 5 (F__law_reads 40) [] (aV (eVar 5) (aV (eVar 0) (aV (eVar 1) (aV (eVar 2) (aV (eVar 3) aNil))))))) (eBin dIx (eVar 1) (eVar 4)))) (sRet (rD (ret (.bl false)))) sNext) sNext)))) (sRet (rD (ret (.bl true)))))
def F__law_goes : Fn := fnOf 4 6 kNo b__law_goes
def b__law_behind : MS := (sSeq (sSet 4 (rLst eNil)) (sSeq (sFor (iR1 (eCons (eOp dLen (eCons (eVar 3) eNil)) eNil)) (gN 5) (sIf (eTst (eBin dIn (eBin dIx (eBin dIx (eVar 3) (eVar 5)) (ret (.int 0))) (eFz nf (rLst (eCons (ret (.str "next")) (eCons (ret (.str "until")) (eCons (ret (.str "frees")) eNil))))))) (sApp' 4 (eBin dIx (eVar 2) (eVar 5))) (sSeq (sSet 6 (rD (eBin dIx (eVar 3) (eVar 5)))) (sSeq (sIf (cOr (eTst (eBin dEq (eBin dIx (eBin dIx (eVar 3) (eVar 5)) (ret (.int 0))) (ret (.str "before")))) (eTst (eBin dEq (eBin dIx (eBin dIx (eVar 3) (eVar 5)) (ret (.int 0))) (ret (.str "early"))))) (sSet 6 (rD (eBin dIx (eBin dIx (eVar 3) (eVar 5)) (ret (.int 1))))) sNext) (sApp' 4 (eFz nf (rCall 5 (F__law_reads 40) [] (aV (eVar 6) (aV (eVar 0) (aV (eVar 1) (aV (eVar 2) (aV (eVar 3) aNil)))))))))))) (sRet (rD (eOp dTuple (eCons (eVar 4) eNil))))))
def F__law_behind : Fn := fnOf 4 7 kNo b__law_behind
def b__law_rung : MS := (sSeq (sSet 4 (rLst eNil)) (sSeq (sSet 5 (rD (ret (.int 0)))) (sSeq (sFor (iLst (eVar 3)) (gN 6) (sIf (cOr (eTst (eBin dEq (eBin dIx (eVar 6) (ret (.int 0))) (ret (.str "until")))) (eTst (eBin dEq (eBin dIx (eVar 6) (ret (.int 0))) (ret (.str "frees"))))) (sSeq (sSet 7 (rCall 5 (F__law_reads 40) [] (aV (eVar 6) (aV (eVar 0) (aV (eVar 1) (aV (eVar 2) (aV (eVar 3) aNil))))))) (sSeq (sSet 8 (rCall 5 (F__law_reads 40) [] (aV (eBin dIx (eVar 6) (ret (.int 2))) (aV (eVar 0) (aV (eVar 1) (aV (eVar 2) (aV (eVar 3) aNil))))))) (sSeq (sIf (cOr (eTst (eBin dEq (eVar 8) (eBin dEq (eBin dIx (eVar 6) (ret (.int 0))) (ret (.str "until"))))) (eTst (eBin dEq (eVar 7) (eBin dEq (eBin dIx (eVar 6) (ret (.int 0))) (ret (.str "frees")))))) (sApp' 4 (eVar 5)) sNext) (sSet 5 (rD (eBin dAdd (eVar 5) (ret (.int 1)))))))) sNext)) (sRet (rD (eOp dTuple (eCons (eVar 4) eNil)))))))
def F__law_rung : Fn := fnOf 4 9 kNo b__law_rung
def b__law_first : MS := (sRet (rD (eOp dTuple (eCons (eFz nf (rLc (iLst (eVar 0)) (gN 1) cYes (eBin dIn (eBin dIx (eVar 1) (ret (.int 0))) (eFz nf (rLst (eCons (ret (.str "early")) (eCons (ret (.str "held")) eNil))))) [1])) eNil))))
def F__law_first : Fn := fnOf 1 2 kNo b__law_first
def b__law_within (f : Fn) : MS := (sSeq (sSet 1 (rLst (eCons (eVar 0) eNil))) (sSeq (sIf (eTst (eBin dNe (eBin dIx (eVar 0) (ret (.int 0))) (ret (.str "now")))) (sFor (iTupl (eSl (eVar 0) (oSome (ret (.int 1))) oNone)) (gN 2) (sSet 1 (rBin gCat (eVar 1) (eFz nf (rCall 1 f [] (aV (eVar 2) aNil)))))) sNext) (sRet (rMv 1))))
def F__law_within : Nat → Fn
  | 0 => fnOf 1 3 kNo sNever
  | n + 1 => fnOf 1 3 kNo (b__law_within (F__law_within n))
def b__law_asked : MS := (sSeq (sIf (eTst (eBin dEq (eVar 0) (ret (.int 0)))) (sSeq (sSet 6 (rLc (iLst (eFz nf (rBin gCat (eFz nf (rCall 1 (F__law_within 40) [] (aV (eVar 1) aNil))) (eVar 5)))) (gN 7) cYes (eFz nf (rCall 5 F_reads [] (aV (eVar 7) (aV (eVar 2) (aV (eVar 3) (aV (eVar 4) (aV (eVar 5) aNil))))))) [7])) (sSeq (sIf (eTst (eBin dNeL (eFz nf (rLc (iSeq (eVar 6)) (gN 7) (cNot (eTst (eUn (dIsi "bool") (eVar 7)))) (eVar 7) [7])) (eFz nf (rLst eNil)))) (sRet (rD (ret (.bl false)))) sNext) (sRet (rD (eBin dEq (eVar 6) (eFz nf (rLc (iLst (eFz nf (rBin gCat (eFz nf (rCall 1 (F__law_within 40) [] (aV (eVar 1) aNil))) (eVar 5)))) (gN 7) cYes (eFz nf (rCall 5 (F__law_reads 40) [] (aV (eVar 7) (aV (eVar 2) (aV (eVar 3) (aV (eVar 4) (aV (eVar 5) aNil))))))) [7]))))))) sNext) (sSeq (sIf (eTst (eBin dEq (eVar 0) (ret (.int 1)))) (sSeq (sSet 6 (rCall 4 F_goes_with [] (aV (eVar 2) (aV (eVar 3) (aV (eVar 4) (aV (eVar 5) aNil)))))) (sRet (rD (eAnd (eUn (dIsi "bool") (eVar 6)) (eBin dEq (eVar 6) (eFz nf (rCall 4 F__law_goes [] (aV (eVar 2) (aV (eVar 3) (aV (eVar 4) (aV (eVar 5) aNil))))))))))) sNext) (sSeq (sIf (eTst (eBin dEq (eVar 0) (ret (.int 2)))) (sSeq (sSet 6 (rCall 4 F_next_label [] (aV (eVar 2) (aV (eVar 3) (aV (eVar 4) (aV (eVar 5) aNil)))))) (sSeq (sIf (cOr (cNot (eTst (eUn (dIsi "tuple") (eVar 6)))) (eTst (eBin dNeL (eFz nf (rLc (iSeq (eVar 6)) (gN 7) (cNot (eTst (eUn (dIsi "bool") (eVar 7)))) (eVar 7) [7])) (eFz nf (rLst eNil))))) (sRet (rD (ret (.bl false)))) sNext) (sRet (rD (eBin dEq (eVar 6) (eFz nf (rCall 4 F__law_behind [] (aV (eVar 2) (aV (eVar 3) (aV (eVar 4) (aV (eVar 5) aNil))))))))))) sNext) (sSeq (sIf (eTst (eBin dEq (eVar 0) (ret (.int 3)))) (sSeq (sSet 6 (rCall 1 F_first_label [] (aV (eVar 5) aNil))) (sSeq (sIf (cOr (cNot (eTst (eUn (dIsi "tuple") (eVar 6)))) (eTst (eBin dNeL (eFz nf (rLc (iSeq (eVar 6)) (gN 7) (cNot (eTst (eUn (dIsi "bool") (eVar 7)))) (eVar 7) [7])) (eFz nf (rLst eNil))))) (sRet (rD (ret (.bl false)))) sNext) (sRet (rD (eBin dEq (eVar 6) (eFz nf (rCall 1 F__law_first [] (aV (eVar 5) aNil)))))))) sNext) (sSeq (sSet 6 (rCall 4 F_bells_rung [] (aV (eVar 2) (aV (eVar 3) (aV (eVar 4) (aV (eVar 5) aNil)))))) (sSeq (sIf (cOr (cNot (eTst (eUn (dIsi "tuple") (eVar 6)))) (eTst (eBin dNeL (eFz nf (rLc (iSeq (eVar 6)) (gN 7) (eTst (eUn (dIsi "bool") (eVar 7))) (eVar 7) [7])) (eFz nf (rLst eNil))))) (sRet (rD (ret (.bl false)))) sNext) (sRet (rD (eBin dEq (eVar 6) (eFz nf (rCall 4 F__law_rung [] (aV (eVar 2) (aV (eVar 3) (aV (eVar 4) (aV (eVar 5) aNil)))))))))))))))
def F__law_asked : Fn := fnOf 6 8 kNo b__law_asked
def b_law : MS := (sSeq (sSet 1 (rCall 2 F__law_row [] (aV (eVar 0) (aV (ret (.int 28)) aNil)))) (sSeq (sSet 2 (rOp gSortSet (eCons (eFz nf (rLc (iR1 (eCons (eBin dAdd (ret (.int 1)) (eBin dMod (eBin dIx (eVar 1) (ret (.int 21))) (ret (.int 3)))) eNil)) (gN 11) cYes (eFz nf (rCall 2 F__law_mark [] (aV (eBin dIx (eVar 1) (ret (.int 20))) (aV (eVar 11) aNil)))) [11])) eNil))) (sSeq (sSet 3 (rCall 1 (F__law_plain 40) [] (aV (eFz nf (rCall 3 F__law_small [] (aV (eFz nf (rSlL' (eVar 1) oNone (oSome (eBin dAdd (ret (.int 1)) (eBin dMod (eBin dIx (eVar 1) (ret (.int 22))) (ret (.int 8))))))) (aV (eVar 2) (aV (eBin dMod (eBin dDiv (eBin dIx (eVar 1) (ret (.int 22))) (ret (.int 8))) (ret (.int 5))) aNil))))) aNil))) (sSeq (sSet 4 (rCall 1 (F__law_parts 40) [] (aV (eVar 3) aNil))) (sSeq (sSet 5 (rD (eBin dIx (eFz nf (rLc (iLst (eFz nf (rLst (eCons (ret (.str "zz")) (eCons (ret (.str "z1")) (eCons (ret (.str "a0")) (eCons (ret (.str "z2")) eNil))))))) (gN 13) (eTst (eBin dNotIn (eVar 13) (eVar 2))) (eVar 13) [13])) (ret (.int 0))))) (sSeq (sSet 6 (rOp gSorted (eCons (eFz nf (rBin gCat (eVar 2) (eFz nf (rLst (eCons (eVar 5) eNil))))) eNil))) (sSeq (sSet 7 (rD (eOp dTuple (eCons (eFz nf (rLc (iR1 (eCons (eOp dLen (eCons (eVar 6) eNil)) eNil)) (gN 14) (eTst (eBin dEq (eBin dMod (eBin dDiv (eBin dIx (eVar 1) (ret (.int 23))) (eBin dIx (eFz nf (rLst (eCons (ret (.int 1)) (eCons (ret (.int 2)) (eCons (ret (.int 4)) (eCons (ret (.int 8)) eNil)))))) (eVar 14))) (ret (.int 2))) (ret (.int 0)))) (eBin dIx (eVar 6) (eVar 14)) [14])) eNil)))) (sSeq (sSet 8 (rD (eOp dTuple (eCons (eFz nf (rLc (iR1 (eCons (eOp dLen (eCons (eVar 4) eNil)) eNil)) (gN 14) cYes (eBin dEq (eBin dMod (eBin dDiv (eBin dIx (eVar 1) (ret (.int 24))) (eBin dIx (eFz nf (rLst (eCons (ret (.int 1)) (eCons (ret (.int 2)) (eCons (ret (.int 4)) (eCons (ret (.int 8)) eNil)))))) (eBin dMod (eVar 14) (ret (.int 4))))) (ret (.int 2))) (ret (.int 1))) [14])) eNil)))) (sSeq (sSet 9 (rD (eOp dTuple (eCons (eFz nf (rLc (iR1 (eCons (eOp dLen (eCons (eVar 4) eNil)) eNil)) (gN 14) cYes (eBin dEq (eBin dMod (eBin dDiv (eBin dIx (eVar 1) (ret (.int 25))) (eBin dIx (eFz nf (rLst (eCons (ret (.int 1)) (eCons (ret (.int 2)) (eCons (ret (.int 4)) (eCons (ret (.int 8)) eNil)))))) (eBin dMod (eVar 14) (ret (.int 4))))) (ret (.int 2))) (ret (.int 1))) [14])) eNil)))) (sSeq (sSet 10 (rOp dList (eCons (eVar 4) eNil))) (sSeq (sFor (iR1 (eCons (ret (.int 6)) eNil)) (gN 11) (sSeq (sSet 12 (rD (eBin dMod (eBin dAdd (eBin dIx (eVar 1) (ret (.int 26))) (eBin dMul (eVar 11) (eBin dIx (eFz nf (rLst (eCons (ret (.int 1)) (eCons (ret (.int 2)) (eCons (ret (.int 3)) (eCons (ret (.int 4)) eNil)))))) (eBin dMod (eBin dIx (eVar 1) (ret (.int 27))) (ret (.int 4)))))) (ret (.int 5))))) (sIf (cNot (eTst (eFz nf (rCall 6 F__law_asked [] (aV (eVar 12) (aV (eVar 3) (aV (eVar 7) (aV (eVar 8) (aV (eVar 9) (aV (eVar 10) aNil)))))))))) (sRet (rD (ret (.bl false)))) sNext))) (sRet (rD (eBin dEq (eVar 10) (eVar 4)))))))))))))))
def F_law : Fn := fnOf 1 15 kNo b_law
structure Vx (w : World) (K : PySem.W.Frag) (mg : Str → Option Value) : Prop where
  n_bool : mg "bool" = none
  n_enumerate : mg "enumerate" = none
  n_int : mg "int" = none
  n_isinstance : mg "isinstance" = none
  n_len : mg "len" = none
  n_list : mg "list" = none
  n_range : mg "range" = none
  n_set : mg "set" = none
  n_sorted : mg "sorted" = none
  n_str : mg "str" = none
  n_tuple : mg "tuple" = none
  c_LOOKING_ON : GlobD (tb w K) mg "LOOKING_ON" c_LOOKING_ON
  c_RINGING : GlobD (tb w K) mg "RINGING" c_RINGING
  f_look_of_one : GFun (tb w K) mg "look_of_one" s_look_of_one P_look_of_one
  f_look_of_two : GFun (tb w K) mg "look_of_two" s_look_of_two P_look_of_two
  f_look_of : GFun (tb w K) mg "look_of" s_look_of P_look_of
  f_reads : GFun (tb w K) mg "reads" s_reads P_reads
  f_goes_with : GFun (tb w K) mg "goes_with" s_goes_with P_goes_with
  f_next_label : GFun (tb w K) mg "next_label" s_next_label P_next_label
  f_first_label : GFun (tb w K) mg "first_label" s_first_label P_first_label
  f_bells_rung : GFun (tb w K) mg "bells_rung" s_bells_rung P_bells_rung
  f__law_row : GFun (tb w K) mg "_law_row" s__law_row P__law_row
  f__law_kept : GFun (tb w K) mg "_law_kept" s__law_kept P__law_kept
  f__law_mark : GFun (tb w K) mg "_law_mark" s__law_mark P__law_mark
  f__law_small : GFun (tb w K) mg "_law_small" s__law_small P__law_small
  f__law_plain : GFun (tb w K) mg "_law_plain" s__law_plain P__law_plain
  f__law_parts : GFun (tb w K) mg "_law_parts" s__law_parts P__law_parts
  f__law_reads : GFun (tb w K) mg "_law_reads" s__law_reads P__law_reads
  f__law_goes : GFun (tb w K) mg "_law_goes" s__law_goes P__law_goes
  f__law_behind : GFun (tb w K) mg "_law_behind" s__law_behind P__law_behind
  f__law_rung : GFun (tb w K) mg "_law_rung" s__law_rung P__law_rung
  f__law_first : GFun (tb w K) mg "_law_first" s__law_first P__law_first
  f__law_within : GFun (tb w K) mg "_law_within" s__law_within P__law_within
  f__law_asked : GFun (tb w K) mg "_law_asked" s__law_asked P__law_asked
  f_law : GFun (tb w K) mg "law" s_law P_law
  fc_look_of_one : GFunC (tb w K) mg "look_of_one" s_look_of_one P_look_of_one (cpIn K "look_of_one").1
  fc_look_of_two : GFunC (tb w K) mg "look_of_two" s_look_of_two P_look_of_two (cpIn K "look_of_two").1
  fc_look_of : GFunC (tb w K) mg "look_of" s_look_of P_look_of (cpIn K "look_of").1
  un : (mkN.map fun y => (cpIn K y).2).Nodup
structure Vy (w : World) (K : PySem.W.Frag) (mg : Str → Option Value) (base : Heap) : Prop extends Vx w K mg where
  tb_ : ∀ y ∈ mkN, LamX.TabB base mg (cpIn K y).1 (cpIn K y).2
section
variable {P : Program} {w : World} {K : PySem.W.Frag} {mg : Str → Option Value} {base : Heap}
theorem gf_rng (w : World) (K : PySem.W.Frag) : ∀ k a, (tb w K).gf k a → 800 ≤ k ∧ k < 900 := fun _ _ h => h.elim
theorem xo_ok (w : World) (K : PySem.W.Frag) : XoOk (tb w K) lamQ := xoOk_of rfl (gf_rng w K)
theorem gf_at (w : World) (K : PySem.W.Frag) : ∀ i a, (tb w K).gf i a → ∃ (oc : Value) (od : Option Addr) (fd : FuncData) (sl : Array (Option Value)), (tb w K).K.lookup a = some ⟨oc, od, .func fd, sl⟩ := fun _ _ h => h.elim
theorem la_look_of_one (V : Vy w K mg base) {f : Addr} {A : Around} {outer : List Env} {s : Shared} {H : Hp} {E : XK} : LamAt (CxD P w (tb w K) mg base N_look_of_one "look_of_one" s_look_of_one f (.ref (cpIn K "look_of_one").1) A outer s H E ()) (tb w K) (cpIn K "look_of_one").2 (locL "look_of_one") :=
  ⟨⟨_, V.tb_ "look_of_one" (by decide +kernel), rfl⟩, by show (("look_of_one" : Str) ++ ".<locals>." ++ "<lambda>") = _; decide +kernel, tt_mem (by decide +kernel), tt_q (by decide +kernel) V.un⟩
theorem la_look_of_two (V : Vy w K mg base) {f : Addr} {A : Around} {outer : List Env} {s : Shared} {H : Hp} {E : XK} : LamAt (CxD P w (tb w K) mg base N_look_of_two "look_of_two" s_look_of_two f (.ref (cpIn K "look_of_two").1) A outer s H E ()) (tb w K) (cpIn K "look_of_two").2 (locL "look_of_two") :=
  ⟨⟨_, V.tb_ "look_of_two" (by decide +kernel), rfl⟩, by show (("look_of_two" : Str) ++ ".<locals>." ++ "<lambda>") = _; decide +kernel, tt_mem (by decide +kernel), tt_q (by decide +kernel) V.un⟩
theorem la_look_of (V : Vy w K mg base) {f : Addr} {A : Around} {outer : List Env} {s : Shared} {H : Hp} {E : XK} : LamAt (CxD P w (tb w K) mg base N_look_of "look_of" s_look_of f (.ref (cpIn K "look_of").1) A outer s H E ()) (tb w K) (cpIn K "look_of").2 (locL "look_of") :=
  ⟨⟨_, V.tb_ "look_of" (by decide +kernel), rfl⟩, by show (("look_of" : Str) ++ ".<locals>." ++ "<lambda>") = _; decide +kernel, tt_mem (by decide +kernel), tt_q (by decide +kernel) V.un⟩
theorem lok_0 : LamOk lam_0 := ⟨NdefX.nscope_by (by decide +kernel), fun cl pm cv ctv us hl => match us, hl with | [_, _, _], _ => rfl, by decide +kernel, by decide +kernel, by decide +kernel⟩
theorem dl_0 (V : Vy w K mg base) (f : Fn) (n : Nat) (HV : FnV P w K mg base (L2.CX P w) (1 + n) (spV (tb w K) f)) : DoesL P w (tb w K) mg base (1 + n) lam_0 (bl_0 f) := by
  intro C c' fa A outer s H hr
  unfold bl_0
  exact (xe_not (xe_fz (xr_callV (i := 3) (xo_ok w K) (gf_at w K) (HV.l hr (by omega)) (xaa_v (xe_var 0) (xaa_v (xe_var 1) (xaa_v (xe_var 2) xaa_nil))))))
theorem lok_1 : LamOk lam_1 := ⟨NdefX.nscope_by (by decide +kernel), fun cl pm cv ctv us hl => match us, hl with | [_, _, _], _ => rfl, by decide +kernel, by decide +kernel, by decide +kernel⟩
theorem dl_1 (V : Vy w K mg base) (f : Fn) (n : Nat) (HV : FnV P w K mg base (L2.CX P w) (1 + n) (spV (tb w K) f)) : DoesL P w (tb w K) mg base (1 + n) lam_1 (bl_1 f) := by
  intro C c' fa A outer s H hr
  unfold bl_1
  exact (xe_and (xe_fz (xr_callV (i := 4) (xo_ok w K) (gf_at w K) (HV.l hr (by omega)) (xaa_v (xe_var 0) (xaa_v (xe_var 1) (xaa_v (xe_var 2) xaa_nil))))) (xe_one (xe_fz (xr_callV (i := 3) (xo_ok w K) (gf_at w K) (HV.l hr (by omega)) (xaa_v (xe_var 0) (xaa_v (xe_var 1) (xaa_v (xe_var 2) xaa_nil)))))))
theorem lok_2 : LamOk lam_2 := ⟨NdefX.nscope_by (by decide +kernel), fun cl pm cv ctv us hl => match us, hl with | [_, _, _], _ => rfl, by decide +kernel, by decide +kernel, by decide +kernel⟩
theorem dl_2 (V : Vy w K mg base) (f : Fn) (n : Nat) (HV : FnV P w K mg base (L2.CX P w) (1 + n) (spV (tb w K) f)) : DoesL P w (tb w K) mg base (1 + n) lam_2 (bl_2 f) := by
  intro C c' fa A outer s H hr
  unfold bl_2
  exact (xe_or (xe_fz (xr_callV (i := 4) (xo_ok w K) (gf_at w K) (HV.l hr (by omega)) (xaa_v (xe_var 0) (xaa_v (xe_var 1) (xaa_v (xe_var 2) xaa_nil))))) (xe_one (xe_fz (xr_callV (i := 3) (xo_ok w K) (gf_at w K) (HV.l hr (by omega)) (xaa_v (xe_var 0) (xaa_v (xe_var 1) (xaa_v (xe_var 2) xaa_nil)))))))
theorem lok_3 : LamOk lam_3 := ⟨NdefX.nscope_by (by decide +kernel), fun cl pm cv ctv us hl => match us, hl with | [_, _, _], _ => rfl, by decide +kernel, by decide +kernel, by decide +kernel⟩
theorem dl_3 (V : Vy w K mg base) (f : Fn) (n : Nat) (HV : FnV P w K mg base (L2.CX P w) (1 + n) (spV (tb w K) f)) : DoesL P w (tb w K) mg base (1 + n) lam_3 (bl_3 f) := by
  intro C c' fa A outer s H hr
  unfold bl_3
  exact (xe_or (xe_fz (xr_callV (i := 3) (xo_ok w K) (gf_at w K) (HV.l hr (by omega)) (xaa_v (xe_var 0) (xaa_v (xe_var 1) (xaa_v (xe_var 2) xaa_nil))))) (xe_one (xe_and (xe_fz (xr_callV (i := 4) (xo_ok w K) (gf_at w K) (HV.l hr (by omega)) (xaa_v (xe_var 0) (xaa_v (xe_var 1) (xaa_v (xe_var 2) xaa_nil))))) (xe_one (xe_ix (ha := (xe_var 2)) (hb := (xe_var 5)))))))
theorem lok_4 : LamOk lam_4 := ⟨NdefX.nscope_by (by decide +kernel), fun cl pm cv ctv us hl => match us, hl with | [_, _, _], _ => rfl, by decide +kernel, by decide +kernel, by decide +kernel⟩
theorem dl_4 (V : Vy w K mg base) (f : Fn) (n : Nat) (HV : FnV P w K mg base (L2.CX P w) (1 + n) (spV (tb w K) f)) : DoesL P w (tb w K) mg base (1 + n) lam_4 (bl_4 f) := by
  intro C c' fa A outer s H hr
  unfold bl_4
  exact (xe_and (xe_fz (xr_callV (i := 3) (xo_ok w K) (gf_at w K) (HV.l hr (by omega)) (xaa_v (xe_var 0) (xaa_v (xe_var 1) (xaa_v (xe_var 2) xaa_nil))))) (xe_one (xe_or (xe_fz (xr_callV (i := 4) (xo_ok w K) (gf_at w K) (HV.l hr (by omega)) (xaa_v (xe_var 0) (xaa_v (xe_var 1) (xaa_v (xe_var 2) xaa_nil))))) (xe_one (xe_ix (ha := (xe_var 2)) (hb := (xe_var 5)))))))
theorem lok_5 : LamOk lam_5 := ⟨NdefX.nscope_by (by decide +kernel), fun cl pm cv ctv us hl => match us, hl with | [_, _, _], _ => rfl, by decide +kernel, by decide +kernel, by decide +kernel⟩
theorem dl_5 (V : Vy w K mg base) (f : Fn) (n : Nat) (HV : FnV P w K mg base (L2.CX P w) (1 + n) (spV (tb w K) f)) : DoesL P w (tb w K) mg base (1 + n) lam_5 (bl_5 f) := by
  intro C c' fa A outer s H hr
  unfold bl_5
  exact (xe_or (xe_fz (xr_callV (i := 3) (xo_ok w K) (gf_at w K) (HV.l hr (by omega)) (xaa_v (xe_var 0) (xaa_v (xe_var 1) (xaa_v (xe_var 2) xaa_nil))))) (xe_one (xe_and (xe_fz (xr_callV (i := 4) (xo_ok w K) (gf_at w K) (HV.l hr (by omega)) (xaa_v (xe_var 0) (xaa_v (xe_var 1) (xaa_v (xe_var 2) xaa_nil))))) (xe_one (xe_ix (ha := (xe_var 1)) (hb := (xe_var 5)))))))
theorem lok_6 : LamOk lam_6 := ⟨NdefX.nscope_by (by decide +kernel), fun cl pm cv ctv us hl => match us, hl with | [_, _, _], _ => rfl, by decide +kernel, by decide +kernel, by decide +kernel⟩
theorem dl_6 (V : Vy w K mg base) (f : Fn) (n : Nat) (HV : FnV P w K mg base (L2.CX P w) (1 + n) (spV (tb w K) f)) : DoesL P w (tb w K) mg base (1 + n) lam_6 (bl_6 f) := by
  intro C c' fa A outer s H hr
  unfold bl_6
  exact (xe_and (xe_fz (xr_callV (i := 3) (xo_ok w K) (gf_at w K) (HV.l hr (by omega)) (xaa_v (xe_var 0) (xaa_v (xe_var 1) (xaa_v (xe_var 2) xaa_nil))))) (xe_one (xe_or (xe_fz (xr_callV (i := 4) (xo_ok w K) (gf_at w K) (HV.l hr (by omega)) (xaa_v (xe_var 0) (xaa_v (xe_var 1) (xaa_v (xe_var 2) xaa_nil))))) (xe_one (xe_ix (ha := (xe_var 1)) (hb := (xe_var 5)))))))
theorem lok_7 : LamOk lam_7 := ⟨NdefX.nscope_by (by decide +kernel), fun cl pm cv ctv us hl => match us, hl with | [_, _, _], _ => rfl, by decide +kernel, by decide +kernel, by decide +kernel⟩
theorem dl_7 (V : Vy w K mg base) (f : Fn) (n : Nat) (HV : FnV P w K mg base (L2.CX P w) (1 + n) (spV (tb w K) f)) : DoesL P w (tb w K) mg base (1 + n) lam_7 (bl_7 f) := by
  intro C c' fa A outer s H hr
  unfold bl_7
  exact xe_bl
theorem lok_8 : LamOk lam_8 := ⟨NdefX.nscope_by (by decide +kernel), fun cl pm cv ctv us hl => match us, hl with | [_, _, _], _ => rfl, by decide +kernel, by decide +kernel, by decide +kernel⟩
theorem dl_8 (V : Vy w K mg base) (f : Fn) (n : Nat) (HV : FnV P w K mg base (L2.CX P w) (1 + n) (spV (tb w K) f)) : DoesL P w (tb w K) mg base (1 + n) lam_8 (bl_8 f) := by
  intro C c' fa A outer s H hr
  unfold bl_8
  exact xe_bl
theorem lok_9 : LamOk lam_9 := ⟨NdefX.nscope_by (by decide +kernel), fun cl pm cv ctv us hl => match us, hl with | [_, _, _], _ => rfl, by decide +kernel, by decide +kernel, by decide +kernel⟩
theorem dl_9 (V : Vy w K mg base) (f : Fn) (n : Nat) (HV : FnV P w K mg base (L2.CX P w) (1 + n) (spV (tb w K) f)) : DoesL P w (tb w K) mg base (1 + n) lam_9 (bl_9 f) := by
  intro C c' fa A outer s H hr
  unfold bl_9
  exact (xe_in (rm_lam hr) (ha := (xe_ix (ha := (xe_var 3)) (hb := xe_int))) (hb := (xe_var 0)))
theorem lok_10 : LamOk lam_10 := ⟨NdefX.nscope_by (by decide +kernel), fun cl pm cv ctv us hl => match us, hl with | [_, _, _], _ => rfl, by decide +kernel, by decide +kernel, by decide +kernel⟩
theorem dl_10 (V : Vy w K mg base) (f : Fn) (n : Nat) (HV : FnV P w K mg base (L2.CX P w) (1 + n) (spV (tb w K) f)) : DoesL P w (tb w K) mg base (1 + n) lam_10 (bl_10 f) := by
  intro C c' fa A outer s H hr
  unfold bl_10
  exact (xe_ix (ha := (xe_var 2)) (hb := (xe_var 3)))
theorem lok_11 : LamOk lam_11 := ⟨NdefX.nscope_by (by decide +kernel), fun cl pm cv ctv us hl => match us, hl with | [_, _, _], _ => rfl, by decide +kernel, by decide +kernel, by decide +kernel⟩
theorem dl_11 (V : Vy w K mg base) (f : Fn) (n : Nat) (HV : FnV P w K mg base (L2.CX P w) (1 + n) (spV (tb w K) f)) : DoesL P w (tb w K) mg base (1 + n) lam_11 (bl_11 f) := by
  intro C c' fa A outer s H hr
  unfold bl_11
  exact (xe_ix (ha := (xe_var 1)) (hb := (xe_var 3)))
theorem fv (V : Vy w K mg base) : ∀ n, FnV P w K mg base (L2.CX P w) (1 + n) (spV (tb w K) (F_app n))
  | 0 => fnv_app (k := 0) (xo_ok w K) (gfOk_no fun _ _ h => h) (by
    intro i L h
    unfold lamQ at h
    split at h
    · cases h; exact ⟨lok_0, fun _ _ _ _ _ _ _ _ => xe_neverL⟩
    · cases h; exact ⟨lok_1, fun _ _ _ _ _ _ _ _ => xe_neverL⟩
    · cases h; exact ⟨lok_2, fun _ _ _ _ _ _ _ _ => xe_neverL⟩
    · cases h; exact ⟨lok_3, fun _ _ _ _ _ _ _ _ => xe_neverL⟩
    · cases h; exact ⟨lok_4, fun _ _ _ _ _ _ _ _ => xe_neverL⟩
    · cases h; exact ⟨lok_5, fun _ _ _ _ _ _ _ _ => xe_neverL⟩
    · cases h; exact ⟨lok_6, fun _ _ _ _ _ _ _ _ => xe_neverL⟩
    · cases h; exact ⟨lok_7, fun _ _ _ _ _ _ _ _ => xe_neverL⟩
    · cases h; exact ⟨lok_8, fun _ _ _ _ _ _ _ _ => xe_neverL⟩
    · cases h; exact ⟨lok_9, fun _ _ _ _ _ _ _ _ => xe_neverL⟩
    · cases h; exact ⟨lok_10, fun _ _ _ _ _ _ _ _ => xe_neverL⟩
    · cases h; exact ⟨lok_11, fun _ _ _ _ _ _ _ _ => xe_neverL⟩
    · cases h)
  | n + 1 => fnv_app (k := 1 + n) (xo_ok w K) (gfOk_no fun _ _ h => h) (by
    intro i L h
    unfold lamQ at h
    split at h
    · cases h; exact ⟨lok_0, dl_0 V _ n (fv V n)⟩
    · cases h; exact ⟨lok_1, dl_1 V _ n (fv V n)⟩
    · cases h; exact ⟨lok_2, dl_2 V _ n (fv V n)⟩
    · cases h; exact ⟨lok_3, dl_3 V _ n (fv V n)⟩
    · cases h; exact ⟨lok_4, dl_4 V _ n (fv V n)⟩
    · cases h; exact ⟨lok_5, dl_5 V _ n (fv V n)⟩
    · cases h; exact ⟨lok_6, dl_6 V _ n (fv V n)⟩
    · cases h; exact ⟨lok_7, dl_7 V _ n (fv V n)⟩
    · cases h; exact ⟨lok_8, dl_8 V _ n (fv V n)⟩
    · cases h; exact ⟨lok_9, dl_9 V _ n (fv V n)⟩
    · cases h; exact ⟨lok_10, dl_10 V _ n (fv V n)⟩
    · cases h; exact ⟨lok_11, dl_11 V _ n (fv V n)⟩
    · cases h)
theorem does_look_of_one (V : Vy w K mg base) : DoesM P w (tb w K) mg base lamQ N_look_of_one "look_of_one" s_look_of_one (cpIn K "look_of_one").1 41 k1 b_look_of_one := by
  intro f A outer s H E hr
  unfold b_look_of_one
  exact (xc_if (xt_eq (rm_def hr) (ha := (xe_var 0)) (hb := xe_str)) (xc_lam (i := 0) (L := lam_0) rfl (la_look_of_one V) ⟨rfl, by decide +kernel, by decide +kernel, (.cons ⟨rfl, .inl rfl, rfl⟩ .nil)⟩) (xc_ret (xe_var 1)))
theorem ok_look_of_one (V : Vy w K mg base) : FnG P w (tb w K) mg base "look_of_one" 2 F_look_of_one 42 := fng_gM (xo_ok w K) (gf_at w K) V.fc_look_of_one sc_look_of_one (does_look_of_one V)
theorem does_look_of_two (V : Vy w K mg base) : DoesM P w (tb w K) mg base lamQ N_look_of_two "look_of_two" s_look_of_two (cpIn K "look_of_two").1 41 k2_3 b_look_of_two := by
  intro f A outer s H E hr
  unfold b_look_of_two
  exact (xc_if (xt_eq (rm_def hr) (ha := (xe_ix (ha := (xe_var 0)) (hb := xe_int))) (hb := xe_str)) (xc_lam (i := 1) (L := lam_1) rfl (la_look_of_two V) ⟨rfl, by decide +kernel, by decide +kernel, (.cons ⟨rfl, .inl rfl, rfl⟩ (.cons ⟨rfl, .inl rfl, rfl⟩ .nil))⟩) (xc_if (xt_eq (rm_def hr) (ha := (xe_ix (ha := (xe_var 0)) (hb := xe_int))) (hb := xe_str)) (xc_lam (i := 2) (L := lam_2) rfl (la_look_of_two V) ⟨rfl, by decide +kernel, by decide +kernel, (.cons ⟨rfl, .inl rfl, rfl⟩ (.cons ⟨rfl, .inl rfl, rfl⟩ .nil))⟩) (xc_seq (xs_set 4 (fun _ => sc_look_of_two.nd) (xr_d (xe_lindex (rm_def hr) (xe_var 1) (xa_cons (xe_var 0) xa_nil)))) (xc_if (xt_eq (rm_def hr) (ha := (xe_ix (ha := (xe_var 0)) (hb := xe_int))) (hb := xe_str)) (xc_lam (i := 3) (L := lam_3) rfl (la_look_of_two V) ⟨rfl, by decide +kernel, by decide +kernel, (.cons ⟨rfl, .inl rfl, rfl⟩ (.cons ⟨rfl, .inl rfl, rfl⟩ (.cons ⟨rfl, .inl rfl, rfl⟩ .nil)))⟩) (xc_if (xt_eq (rm_def hr) (ha := (xe_ix (ha := (xe_var 0)) (hb := xe_int))) (hb := xe_str)) (xc_lam (i := 4) (L := lam_4) rfl (la_look_of_two V) ⟨rfl, by decide +kernel, by decide +kernel, (.cons ⟨rfl, .inl rfl, rfl⟩ (.cons ⟨rfl, .inl rfl, rfl⟩ (.cons ⟨rfl, .inl rfl, rfl⟩ .nil)))⟩) (xc_if (xt_eq (rm_def hr) (ha := (xe_ix (ha := (xe_var 0)) (hb := xe_int))) (hb := xe_str)) (xc_lam (i := 5) (L := lam_5) rfl (la_look_of_two V) ⟨rfl, by decide +kernel, by decide +kernel, (.cons ⟨rfl, .inl rfl, rfl⟩ (.cons ⟨rfl, .inl rfl, rfl⟩ (.cons ⟨rfl, .inl rfl, rfl⟩ .nil)))⟩) (xc_lam (i := 6) (L := lam_6) rfl (la_look_of_two V) ⟨rfl, by decide +kernel, by decide +kernel, (.cons ⟨rfl, .inl rfl, rfl⟩ (.cons ⟨rfl, .inl rfl, rfl⟩ (.cons ⟨rfl, .inl rfl, rfl⟩ .nil)))⟩)))))))
theorem ok_look_of_two (V : Vy w K mg base) : FnG P w (tb w K) mg base "look_of_two" 4 F_look_of_two 42 := fng_gM (xo_ok w K) (gf_at w K) V.fc_look_of_two sc_look_of_two (does_look_of_two V)
theorem does_look_of (V : Vy w K mg base) (f : Fn) (n : Nat) (H_look_of : FnG P w (tb w K) mg base "look_of" 2 f (43 + n)) : DoesM P w (tb w K) mg base lamQ N_look_of "look_of" s_look_of (cpIn K "look_of").1 (43 + n) k0 (b_look_of f) := by
  intro f A outer s H E hr
  unfold b_look_of
  exact (xc_if (xt_eq (rm_def hr) (ha := (xe_ix (ha := (xe_var 0)) (hb := xe_int))) (hb := xe_str)) (xc_lam (i := 7) (L := lam_7) rfl (la_look_of V) ⟨rfl, by decide +kernel, by decide +kernel, .nil⟩) (xc_if (xt_eq (rm_def hr) (ha := (xe_ix (ha := (xe_var 0)) (hb := xe_int))) (hb := xe_str)) (xc_lam (i := 8) (L := lam_8) rfl (la_look_of V) ⟨rfl, by decide +kernel, by decide +kernel, .nil⟩) (xc_if (xt_eq (rm_def hr) (ha := (xe_ix (ha := (xe_var 0)) (hb := xe_int))) (hb := xe_str)) (xc_lam (i := 9) (L := lam_9) rfl (la_look_of V) ⟨rfl, by decide +kernel, by decide +kernel, (.cons ⟨rfl, .inl rfl, rfl⟩ .nil)⟩) (xc_if (xt_eq (rm_def hr) (ha := (xe_ix (ha := (xe_var 0)) (hb := xe_int))) (hb := xe_str)) (xc_seq (xs_set 2 (fun _ => sc_look_of.nd) (xr_d (xe_lindex (rm_def hr) (xe_var 1) (xa_cons (xe_var 0) xa_nil)))) (xc_lam (i := 10) (L := lam_10) rfl (la_look_of V) ⟨rfl, by decide +kernel, by decide +kernel, (.cons ⟨rfl, .inl rfl, rfl⟩ .nil)⟩)) (xc_if (xt_w (xw_or (xt_eq (rm_def hr) (ha := (xe_ix (ha := (xe_var 0)) (hb := xe_int))) (hb := xe_str)) (xw_or1 (xt_eq (rm_def hr) (ha := (xe_ix (ha := (xe_var 0)) (hb := xe_int))) (hb := xe_str))))) (xc_seq (xs_set 2 (fun _ => sc_look_of.nd) (xr_d (xe_lindex (rm_def hr) (xe_var 1) (xa_cons (xe_var 0) xa_nil)))) (xc_lam (i := 11) (L := lam_11) rfl (la_look_of V) ⟨rfl, by decide +kernel, by decide +kernel, (.cons ⟨rfl, .inl rfl, rfl⟩ .nil)⟩)) (xc_if (xt_eq (rm_def hr) (ha := (xe_len (fun _ => V.n_len) (xa_cons (xe_var 0) xa_nil))) (hb := xe_int)) (xc_ret (xe_fz (xr_call (dvs := []) (dd := []) ((ok_look_of_one V).d hr (by omega)) .nil (fun _ => reps_nil) (xaa_v (xe_ix (ha := (xe_var 0)) (hb := xe_int)) (xaa_v (xe_fz (xr_call (dvs := []) (dd := []) (H_look_of.d hr (by omega)) .nil (fun _ => reps_nil) (xaa_v (xe_ix (ha := (xe_var 0)) (hb := xe_int)) (xaa_v (xe_var 1) xaa_nil)))) xaa_nil))))) (xc_ret (xe_fz (xr_call (dvs := []) (dd := []) ((ok_look_of_two V).d hr (by omega)) .nil (fun _ => reps_nil) (xaa_v (xe_var 0) (xaa_v (xe_var 1) (xaa_v (xe_fz (xr_call (dvs := []) (dd := []) (H_look_of.d hr (by omega)) .nil (fun _ => reps_nil) (xaa_v (xe_ix (ha := (xe_var 0)) (hb := xe_int)) (xaa_v (xe_var 1) xaa_nil)))) (xaa_v (xe_fz (xr_call (dvs := []) (dd := []) (H_look_of.d hr (by omega)) .nil (fun _ => reps_nil) (xaa_v (xe_ix (ha := (xe_var 0)) (hb := xe_int)) (xaa_v (xe_var 1) xaa_nil)))) xaa_nil)))))))))))))
theorem ok_look_of (V : Vy w K mg base) : ∀ n, FnG P w (tb w K) mg base "look_of" 2 (F_look_of n) (43 + n)
  | 0 => (fng_gM (k := 42) (xo_ok w K) (gf_at w K) V.fc_look_of sc_look_of (fun _ _ _ _ _ _ _ => xc_never)).mono (by omega)
  | n + 1 => (fng_gM (xo_ok w K) (gf_at w K) V.fc_look_of sc_look_of (does_look_of V _ n (ok_look_of V n)))
theorem does_reads (V : Vy w K mg base) : Does P w (tb w K) mg base N_reads "reads" s_reads 83 kNo b_reads := by
  intro f cdv A outer s H E hr
  unfold b_reads
  exact (xss_one (xs_ret (xr_callE (xo_ok w K) (gf_at w K) ((fv V 40).d hr (by omega)) (xe_fz (xr_call (dvs := []) (dd := []) ((ok_look_of V 40).d hr (by omega)) .nil (fun _ => reps_nil) (xaa_v (xe_var 0) (xaa_v (xe_var 4) xaa_nil)))) (xaa_v (xe_var 1) (xaa_v (xe_var 2) (xaa_v (xe_var 3) xaa_nil))))))
theorem ok_reads (V : Vy w K mg base) : FnG P w (tb w K) mg base "reads" 5 F_reads 84 := fng_g V.f_reads sc_reads (does_reads V)
theorem does_goes_with (V : Vy w K mg base) : Does P w (tb w K) mg base N_goes_with "goes_with" s_goes_with 84 kNo b_goes_with := by
  intro f cdv A outer s H E hr
  unfold b_goes_with
  exact (xss_cons (xs_for (xi_en (hm := (fun _ => V.n_enumerate)) (h := (xa_cons (xe_var 3) xa_nil))) (xg_tup (n := 2) (h := (xgs_cons (xg_name 4 (hN := (fun _ => sc_goes_with.nd))) (xgs_cons (xg_name 5 (hN := (fun _ => sc_goes_with.nd))) xgs_nil)))) (xss_cons (xs_if (xt_notIn (rm_def hr) (ha := (xe_ix (ha := (xe_var 5)) (hb := xe_int))) (hb := (xe_gd V.c_LOOKING_ON))) (xss_one xs_ct) xss_nil) (xss_cons (xs_set 6 (fun _ => sc_goes_with.nd) (xr_d (xe_var 5))) (xss_cons (xs_if (xt_eq (rm_def hr) (ha := (xe_ix (ha := (xe_var 5)) (hb := xe_int))) (hb := xe_str)) (xss_one (xs_set 6 (fun _ => sc_goes_with.nd) (xr_d (xe_ix (ha := (xe_var 5)) (hb := xe_int))))) xss_nil) (xss_one (xs_if (xt_ne (rm_def hr) (ha := (xe_fz (xr_call (dvs := []) (dd := []) ((ok_reads V).d hr (by omega)) .nil (fun _ => reps_nil) (xaa_v (xe_var 6) (xaa_v (xe_var 0) (xaa_v (xe_var 1) (xaa_v (xe_var 2) (xaa_v (xe_var 3) xaa_nil)))))))) (hb := (xe_ix (ha := (xe_var 1)) (hb := (xe_var 4))))) (xss_one (xs_ret (xr_d xe_bl))) xss_nil))))) own_def) (xss_one (xs_ret (xr_d xe_bl))))
theorem ok_goes_with (V : Vy w K mg base) : FnG P w (tb w K) mg base "goes_with" 4 F_goes_with 85 := fng_g V.f_goes_with sc_goes_with (does_goes_with V)
theorem does_next_label (V : Vy w K mg base) : Does P w (tb w K) mg base N_next_label "next_label" s_next_label 84 kNo b_next_label := by
  intro f cdv A outer s H E hr
  unfold b_next_label
  exact (xss_cons (xs_set 4 (fun _ => sc_next_label.nd) (xr_lst xa_nil)) (xss_cons (xs_for (xi_en (hm := (fun _ => V.n_enumerate)) (h := (xa_cons (xe_var 3) xa_nil))) (xg_tup (n := 2) (h := (xgs_cons (xg_name 5 (hN := (fun _ => sc_next_label.nd))) (xgs_cons (xg_name 6 (hN := (fun _ => sc_next_label.nd))) xgs_nil)))) (xss_one (xs_if (xt_in (rm_def hr) (ha := (xe_ix (ha := (xe_var 6)) (hb := xe_int))) (hb := (xe_gd V.c_LOOKING_ON))) (xss_one (xs_app 4 (xe_ix (ha := (xe_var 2)) (hb := (xe_var 5))))) (xss_one (xs_if (xt_eq (rm_def hr) (ha := (xe_len (fun _ => V.n_len) (xa_cons (xe_var 6) xa_nil))) (hb := xe_int)) (xss_one (xs_app 4 (xe_fz (xr_call (dvs := []) (dd := []) ((ok_reads V).d hr (by omega)) .nil (fun _ => reps_nil) (xaa_v (xe_ix (ha := (xe_var 6)) (hb := xe_int)) (xaa_v (xe_var 0) (xaa_v (xe_var 1) (xaa_v (xe_var 2) (xaa_v (xe_var 3) xaa_nil))))))))) (xss_one (xs_app 4 (xe_fz (xr_call (dvs := []) (dd := []) ((ok_reads V).d hr (by omega)) .nil (fun _ => reps_nil) (xaa_v (xe_var 6) (xaa_v (xe_var 0) (xaa_v (xe_var 1) (xaa_v (xe_var 2) (xaa_v (xe_var 3) xaa_nil))))))))))))) own_def) (xss_one (xs_ret (xr_d (xe_tuple (fun _ => V.n_tuple) (xa_cons (xe_var 4) xa_nil)))))))
theorem ok_next_label (V : Vy w K mg base) : FnG P w (tb w K) mg base "next_label" 4 F_next_label 85 := fng_g V.f_next_label sc_next_label (does_next_label V)
theorem does_first_label (V : Vy w K mg base) : Does P w (tb w K) mg base N_first_label "first_label" s_first_label 0 kNo b_first_label := by
  intro f cdv A outer s H E hr
  unfold b_first_label
  exact (xss_one (xs_ret (xr_d (xe_tuple (fun _ => V.n_tuple) (xa_cons (xe_fz (xr_lc (own := [("part", 1)]) (fun _ => sc_first_label.nd) (xi_lst (h := (xe_var 0))) (fun _ => show BlkOk N_first_label (defScope s_first_label) _ _ from blkOk_by (by decide +kernel)) (xgb_name 1 (by simp) (fun _ => sc_first_label.nd)) xts_nil (xe_or (xe_eq (rm_blk (rm_def hr)) (ha := (xe_ix (ha := (xe_var 1)) (hb := xe_int))) (hb := xe_str)) (xe_one (xe_eq (rm_blk (rm_def hr)) (ha := (xe_ix (ha := (xe_var 1)) (hb := xe_int))) (hb := xe_str)))))) xa_nil)))))
theorem ok_first_label (V : Vy w K mg base) : FnG P w (tb w K) mg base "first_label" 1 F_first_label 1 := fng_g V.f_first_label sc_first_label (does_first_label V)
theorem does_bells_rung (V : Vy w K mg base) : Does P w (tb w K) mg base N_bells_rung "bells_rung" s_bells_rung 84 kNo b_bells_rung := by
  intro f cdv A outer s H E hr
  unfold b_bells_rung
  exact (xss_cons (xs_set 4 (fun _ => sc_bells_rung.nd) (xr_lst xa_nil)) (xss_cons (xs_for (xi_en (hm := (fun _ => V.n_enumerate)) (h := (xa_cons (xe_fz (xr_lc (own := [("part", 6)]) (fun _ => sc_bells_rung.nd) (xi_lst (h := (xe_var 3))) (fun _ => show BlkOk N_bells_rung (defScope s_bells_rung) _ _ from blkOk_by (by decide +kernel)) (xgb_name 6 (by simp) (fun _ => sc_bells_rung.nd)) (xts_one (xt_in (rm_blk (rm_def hr)) (ha := (xe_ix (ha := (xe_var 6)) (hb := xe_int))) (hb := (xe_gd V.c_RINGING)))) (xe_var 6))) xa_nil))) (xg_tup (n := 2) (h := (xgs_cons (xg_name 5 (hN := (fun _ => sc_bells_rung.nd))) (xgs_cons (xg_name 6 (hN := (fun _ => sc_bells_rung.nd))) xgs_nil)))) (xss_cons (xs_set 7 (fun _ => sc_bells_rung.nd) (xr_call (dvs := []) (dd := []) ((ok_reads V).d hr (by omega)) .nil (fun _ => reps_nil) (xaa_v (xe_var 6) (xaa_v (xe_var 0) (xaa_v (xe_var 1) (xaa_v (xe_var 2) (xaa_v (xe_var 3) xaa_nil))))))) (xss_cons (xs_set 8 (fun _ => sc_bells_rung.nd) (xr_call (dvs := []) (dd := []) ((ok_reads V).d hr (by omega)) .nil (fun _ => reps_nil) (xaa_v (xe_ix (ha := (xe_var 6)) (hb := xe_int)) (xaa_v (xe_var 0) (xaa_v (xe_var 1) (xaa_v (xe_var 2) (xaa_v (xe_var 3) xaa_nil))))))) (xss_one (xs_if (xt_w (xw_or (xt_w (xw_and (xt_eq (rm_def hr) (ha := (xe_ix (ha := (xe_var 6)) (hb := xe_int))) (hb := xe_str)) (xw_and1 (xt_w (xw_or (xt_not (xt_val (xe_var 7))) (xw_or1 (xt_val (xe_var 8)))))))) (xw_or1 (xt_w (xw_and (xt_eq (rm_def hr) (ha := (xe_ix (ha := (xe_var 6)) (hb := xe_int))) (hb := xe_str)) (xw_and1 (xt_w (xw_or (xt_val (xe_var 7)) (xw_or1 (xt_not (xt_val (xe_var 8)))))))))))) (xss_one (xs_app 4 (xe_var 5))) xss_nil)))) own_def) (xss_one (xs_ret (xr_d (xe_tuple (fun _ => V.n_tuple) (xa_cons (xe_var 4) xa_nil)))))))
theorem ok_bells_rung (V : Vy w K mg base) : FnG P w (tb w K) mg base "bells_rung" 4 F_bells_rung 85 := fng_g V.f_bells_rung sc_bells_rung (does_bells_rung V)
theorem does__law_row (V : Vy w K mg base) : Does P w (tb w K) mg base N__law_row "_law_row" s__law_row 0 kNo b__law_row := by
  intro f cdv A outer s H E hr
  unfold b__law_row
  exact (xss_cons (xs_set 2 (fun _ => sc__law_row.nd) (xr_lst xa_nil)) (xss_cons (xs_set 3 (fun _ => sc__law_row.nd) (xr_d xe_int)) (xss_cons (xs_for (xi_r1 (fun _ => V.n_range) (xa_cons (xe_var 1) xa_nil)) (xg_name 4 (hN := (fun _ => sc__law_row.nd))) (xss_cons (xs_set 5 (fun _ => sc__law_row.nd) (xr_d xe_int)) (xss_cons (xs_if (xt_gt (xe_len (fun _ => V.n_len) (xa_cons (xe_var 0) xa_nil)) xe_int) (xss_one (xs_set 5 (fun _ => sc__law_row.nd) (xr_d (xe_ix (ha := (xe_var 0)) (hb := (xe_mod (xe_var 4) (xe_len (fun _ => V.n_len) (xa_cons (xe_var 0) xa_nil)))))))) xss_nil) (xss_cons (xs_set 3 (fun _ => sc__law_row.nd) (xr_d (xe_mod (xe_add (ha := (xe_add (ha := (xe_mul (xe_var 3) xe_int)) (hb := (xe_var 5)))) (hb := (xe_var 4))) xe_int))) (xss_one (xs_app 2 (xe_mod (xe_add (ha := (xe_mul (xe_var 3) (xe_var 3))) (hb := (xe_mul xe_int (xe_var 3)))) xe_int)))))) own_def) (xss_one (xs_ret (xr_mv 2))))))
theorem ok__law_row (V : Vy w K mg base) : FnG P w (tb w K) mg base "_law_row" 2 F__law_row 1 := fng_g V.f__law_row sc__law_row (does__law_row V)
theorem does__law_kept (V : Vy w K mg base) : Does P w (tb w K) mg base N__law_kept "_law_kept" s__law_kept 0 kNo b__law_kept := by
  intro f cdv A outer s H E hr
  unfold b__law_kept
  exact (xss_cons (xs_set 0 (fun _ => sc__law_kept.nd) (xr_lst (xa_cons xe_str (xa_cons xe_str (xa_cons xe_str (xa_cons xe_str (xa_cons xe_str (xa_cons xe_str (xa_cons xe_str (xa_cons xe_str (xa_cons xe_str (xa_cons xe_str xa_nil)))))))))))) (xss_one (xs_ret (xr_cat (xe_var 0) (xe_fz (xr_lst (xa_cons xe_str (xa_cons xe_str (xa_cons xe_str (xa_cons xe_str (xa_cons xe_str (xa_cons xe_str (xa_cons xe_str (xa_cons xe_str (xa_cons xe_str xa_nil)))))))))))))))
theorem ok__law_kept (V : Vy w K mg base) : FnG P w (tb w K) mg base "_law_kept" 0 F__law_kept 1 := fng_g V.f__law_kept sc__law_kept (does__law_kept V)
theorem does__law_mark (V : Vy w K mg base) : Does P w (tb w K) mg base N__law_mark "_law_mark" s__law_mark 1 kNo b__law_mark := by
  intro f cdv A outer s H E hr
  unfold b__law_mark
  exact (xss_cons (xs_set 2 (fun _ => sc__law_mark.nd) (xr_d xe_str)) (xss_cons (xs_setLc 3 (own := [("_law_k", 8)]) (fun _ => sc__law_mark.nd) (xi_r1 (fun _ => V.n_range) (xa_cons xe_int xa_nil)) (fun _ => show BlkOk N__law_mark (defScope s__law_mark) _ _ from blkOk_by (by decide +kernel)) (xgb_name 8 (by simp) (fun _ => sc__law_mark.nd)) xts_nil (xe_ix (ha := (xe_var 2)) (hb := (xe_mod (xe_add (ha := (xe_add (ha := (xe_div (xe_var 0) xe_int)) (hb := (xe_mul xe_int (xe_var 8))))) (hb := (xe_mul (xe_div (xe_var 0) xe_int) (xe_var 8)))) xe_int))) (fun _ => sw_true rfl rfl rfl (by decide +kernel))) (xss_cons (xs_sub 3 (xe_ix (ha := (xe_var 2)) (hb := (xe_mod (xe_div (xe_var 0) xe_int) xe_int))) xe_int) (xss_cons (xs_set 4 (fun _ => sc__law_mark.nd) (xr_d (xe_mod (xe_var 0) xe_int))) (xss_cons (xs_if (xt_w (xw_and (xt_eq (rm_def hr) (ha := (xe_var 4)) (hb := xe_int)) (xw_and1 (xt_lt (xe_var 1) xe_int)))) (xss_one (xs_set 5 (fun _ => sc__law_mark.nd) (xr_d (xe_full (xe_join xe_str (xa_cons (xe_fz (xr_sl (ha := (xe_var 3)) (hl := xo_none) (hh := (xo_some (xe_add (ha := xe_int) (hb := (xe_var 1))))))) xa_nil)))))) (xss_one (xs_if (xt_eq (rm_def hr) (ha := (xe_var 4)) (hb := xe_int)) (xss_one (xs_set 5 (fun _ => sc__law_mark.nd) (xr_d (xe_add (ha := (xe_sl (ha := (xe_ix (ha := (xe_fz (xr_call0 (dvs := []) (dd := []) ((ok__law_kept V).d hr (by omega)) .nil (fun _ => reps_nil)))) (hb := (xe_mod (xe_div (xe_var 0) xe_int) xe_int)))) (hl := xo_none) (hh := (xo_some (xe_add (ha := xe_int) (hb := (xe_mod (xe_div (xe_var 0) xe_int) xe_int))))))) (hb := (xe_ix (ha := xe_str) (hb := (xe_mod (xe_var 1) xe_int)))))))) (xss_one (xs_if (xt_w (xw_or (xt_eq (rm_def hr) (ha := (xe_var 4)) (hb := xe_int)) (xw_or1 (xt_gt (xe_var 1) xe_int)))) (xss_one (xs_set 5 (fun _ => sc__law_mark.nd) (xr_d (xe_full (xe_add (ha := (xe_join xe_str (xa_cons (xe_fz (xr_sl (ha := (xe_var 3)) (hl := xo_none) (hh := (xo_some (xe_add (ha := xe_int) (hb := (xe_mod (xe_div (xe_var 0) xe_int) xe_int))))))) xa_nil))) (hb := (xe_strc (fun _ => V.n_str) (xa_cons (xe_var 1) xa_nil)))))))) (xss_cons (xs_set 6 (fun _ => sc__law_mark.nd) (xr_d (xe_add (ha := xe_int) (hb := (xe_mod (xe_div (xe_var 0) xe_int) xe_int))))) (xss_cons (xs_set 7 (fun _ => sc__law_mark.nd) (xr_d (xe_mod (xe_div (xe_var 0) xe_int) (xe_var 6)))) (xss_cons (xs_sub 3 (xe_ix (ha := (xe_var 2)) (hb := (xe_mod (xe_add (ha := (xe_div (xe_var 0) xe_int)) (hb := (xe_var 1))) (xe_ix (ha := (xe_fz (xr_lst (xa_cons xe_int (xa_cons xe_int xa_nil))))) (hb := (xe_intc (fun _ => V.n_int) (xa_cons (xe_eq (rm_def hr) (ha := (xe_var 7)) (hb := xe_int)) xa_nil))))))) (xe_var 7)) (xss_one (xs_set 5 (fun _ => sc__law_mark.nd) (xr_d (xe_join xe_str (xa_cons (xe_fz (xr_sl (ha := (xe_var 3)) (hl := xo_none) (hh := (xo_some (xe_var 6))))) xa_nil))))))))))))) (xss_cons (xs_if (xt_in (rm_def hr) (ha := (xe_var 5)) (hb := (xe_fz (xr_call0 (dvs := []) (dd := []) ((ok__law_kept V).d hr (by omega)) .nil (fun _ => reps_nil))))) (xss_one (xs_set 5 (fun _ => sc__law_mark.nd) (xr_d (xe_add (ha := (xe_var 5)) (hb := xe_str))))) xss_nil) (xss_one (xs_ret (xr_d (xe_var 5))))))))))
theorem ok__law_mark (V : Vy w K mg base) : FnG P w (tb w K) mg base "_law_mark" 2 F__law_mark 2 := fng_g V.f__law_mark sc__law_mark (does__law_mark V)
theorem does__law_small (V : Vy w K mg base) : Does P w (tb w K) mg base N__law_small "_law_small" s__law_small 0 kNo b__law_small := by
  intro f cdv A outer s H E hr
  unfold b__law_small
  exact (xss_cons (xs_set 3 (fun _ => sc__law_small.nd) (xr_lst (xa_cons xe_str (xa_cons xe_str (xa_cons xe_str (xa_cons xe_str (xa_cons xe_str (xa_cons xe_str (xa_cons xe_str (xa_cons xe_str (xa_cons xe_str (xa_cons xe_str xa_nil)))))))))))) (xss_cons (xs_set 4 (fun _ => sc__law_small.nd) (xr_lst (xa_cons xe_str (xa_cons xe_str (xa_cons xe_str (xa_cons xe_str (xa_cons xe_str (xa_cons xe_str (xa_cons xe_str xa_nil))))))))) (xss_cons (xs_set 5 (fun _ => sc__law_small.nd) (xr_lst xa_nil)) (xss_cons (xs_set 6 (fun _ => sc__law_small.nd) (xr_d (xe_var 2))) (xss_cons (xs_for (xi_lst (h := (xe_var 0))) (xg_name 7 (hN := (fun _ => sc__law_small.nd))) (xss_cons (xs_set 8 (fun _ => sc__law_small.nd) (xr_d (xe_mod (xe_var 7) xe_int))) (xss_one (xs_if (xt_full (xt_w (xw_and (xt_lt (xe_var 8) xe_int) (xw_and1 (xt_gt (xe_len (fun _ => V.n_len) (xa_cons (xe_var 5) xa_nil)) xe_int))))) (xss_cons (xs_set 9 (fun _ => sc__law_small.nd) (xr_d (xe_mod (xe_div (xe_var 7) xe_int) xe_int))) (xss_cons (xs_if (xt_gt (xe_ix (ha := (xe_fz (xr_lst (xa_cons xe_int (xa_cons xe_int (xa_cons xe_int (xa_cons xe_int (xa_cons xe_int (xa_cons xe_int (xa_cons xe_int (xa_cons xe_int (xa_cons xe_int (xa_cons xe_int xa_nil))))))))))))) (hb := (xe_var 9))) (xe_var 6)) (xss_one (xs_set 9 (fun _ => sc__law_small.nd) (xr_d xe_int))) xss_nil) (xss_cons (xs_set 6 (fun _ => sc__law_small.nd) (xr_d (xe_sub (xe_var 6) (xe_ix (ha := (xe_fz (xr_lst (xa_cons xe_int (xa_cons xe_int (xa_cons xe_int (xa_cons xe_int (xa_cons xe_int (xa_cons xe_int (xa_cons xe_int (xa_cons xe_int (xa_cons xe_int (xa_cons xe_int xa_nil))))))))))))) (hb := (xe_var 9)))))) (xss_one (xs_set 5 (fun _ => sc__law_small.nd) (xr_full (xr_cat (xe_fz (xr_sl (ha := (xe_var 5)) (hl := xo_none) (hh := (xo_some (xe_neg xe_int))))) (xe_fz (xr_lst (xa_cons (xe_tup (xa_cons (xe_ix (ha := (xe_var 3)) (hb := (xe_var 9))) (xa_cons (xe_ixO 5 (xe_neg xe_int)) xa_nil))) xa_nil)))))))))) (xss_one (xs_if (xt_full (xt_w (xw_and (xt_eq (rm_def hr) (ha := (xe_var 8)) (hb := xe_int)) (xw_and1 (xt_gt (xe_len (fun _ => V.n_len) (xa_cons (xe_var 5) xa_nil)) xe_int))))) (xss_cons (xs_set 9 (fun _ => sc__law_small.nd) (xr_d (xe_mod (xe_div (xe_var 7) xe_int) (xe_ix (ha := (xe_fz (xr_lst (xa_cons xe_int (xa_cons xe_int xa_nil))))) (hb := (xe_intc (fun _ => V.n_int) (xa_cons (xe_gt (xe_var 6) xe_int) xa_nil))))))) (xss_cons (xs_set 6 (fun _ => sc__law_small.nd) (xr_d (xe_sub (xe_var 6) (xe_intc (fun _ => V.n_int) (xa_cons (xe_gt (xe_var 9) xe_int) xa_nil))))) (xss_one (xs_set 5 (fun _ => sc__law_small.nd) (xr_full (xr_cat (xe_fz (xr_sl (ha := (xe_var 5)) (hl := xo_none) (hh := (xo_some (xe_neg xe_int))))) (xe_fz (xr_lst (xa_cons (xe_tup (xa_cons (xe_ix (ha := (xe_var 4)) (hb := (xe_var 9))) (xa_cons (xe_ixO 5 (xe_neg xe_int)) (xa_cons (xe_ixO 5 (xe_neg xe_int)) xa_nil)))) xa_nil))))))))) (xss_cons (xs_set 10 (fun _ => sc__law_small.nd) (xr_d (xe_tup (xa_cons xe_str (xa_cons (xe_ix (ha := (xe_var 1)) (hb := (xe_mod (xe_div (xe_var 7) xe_int) (xe_len (fun _ => V.n_len) (xa_cons (xe_var 1) xa_nil))))) xa_nil))))) (xss_one (xs_app 5 (xe_ix (ha := (xe_fz (xr_lst (xa_cons (xe_var 10) (xa_cons (xe_var 10) (xa_cons (xe_var 10) (xa_cons (xe_var 10) (xa_cons (xe_tup (xa_cons xe_str xa_nil)) (xa_cons (xe_tup (xa_cons xe_str xa_nil)) xa_nil))))))))) (hb := (xe_mod (xe_div (xe_var 7) xe_int) xe_int))))))))))) own_def) (xss_cons (xs_while 100 (xt_gt (xe_len (fun _ => V.n_len) (xa_cons (xe_var 5) xa_nil)) xe_int) (xss_one (xs_set 5 (fun _ => sc__law_small.nd) (xr_cat (xe_fz (xr_sl (ha := (xe_var 5)) (hl := xo_none) (hh := (xo_some (xe_neg xe_int))))) (xe_fz (xr_lst (xa_cons (xe_tup (xa_cons (xe_ix (ha := (xe_var 4)) (hb := (xe_mod (xe_div (xe_ix (ha := (xe_var 0)) (hb := xe_int)) xe_int) xe_int))) (xa_cons (xe_ixO 5 (xe_neg xe_int)) (xa_cons (xe_ixO 5 (xe_neg xe_int)) xa_nil)))) xa_nil)))))) own_def) (xss_one (xs_ret (xr_d (xe_ixO 5 xe_int))))))))))
theorem ok__law_small (V : Vy w K mg base) : FnG P w (tb w K) mg base "_law_small" 3 F__law_small 1 := fng_g V.f__law_small sc__law_small (does__law_small V)
theorem does__law_plain (V : Vy w K mg base) (f : Fn) (n : Nat) (H__law_plain : FnG P w (tb w K) mg base "_law_plain" 1 f (1 + n)) : Does P w (tb w K) mg base N__law_plain "_law_plain" s__law_plain (1 + n) kNo (b__law_plain f) := by
  intro f cdv A outer s H E hr
  unfold b__law_plain
  exact (xss_cons (xs_if (xt_w (xw_or (xt_eq (rm_def hr) (ha := (xe_len (fun _ => V.n_len) (xa_cons (xe_var 0) xa_nil))) (hb := xe_int)) (xw_or1 (xt_eq (rm_def hr) (ha := (xe_ix (ha := (xe_var 0)) (hb := xe_int))) (hb := xe_str))))) (xss_one (xs_ret (xr_d (xe_var 0)))) xss_nil) (xss_cons (xs_set 1 (fun _ => sc__law_plain.nd) (xr_call (dvs := []) (dd := []) (H__law_plain.d hr (by omega)) .nil (fun _ => reps_nil) (xaa_v (xe_ix (ha := (xe_var 0)) (hb := xe_int)) xaa_nil))) (xss_cons (xs_if (xt_eq (rm_def hr) (ha := (xe_ix (ha := (xe_var 0)) (hb := xe_int))) (hb := xe_str)) (xss_one (xs_ret (xr_d (xe_tup (xa_cons xe_str (xa_cons (xe_tup (xa_cons xe_str xa_nil)) (xa_cons (xe_var 1) xa_nil))))))) xss_nil) (xss_cons (xs_if (xt_eq (rm_def hr) (ha := (xe_ix (ha := (xe_var 0)) (hb := xe_int))) (hb := xe_str)) (xss_one (xs_ret (xr_d (xe_tup (xa_cons xe_str (xa_cons (xe_tup (xa_cons xe_str xa_nil)) (xa_cons (xe_var 1) xa_nil))))))) xss_nil) (xss_cons (xs_if (xt_eq (rm_def hr) (ha := (xe_ix (ha := (xe_var 0)) (hb := xe_int))) (hb := xe_str)) (xss_one (xs_ret (xr_d (xe_tup (xa_cons xe_str (xa_cons (xe_tup (xa_cons xe_str xa_nil)) (xa_cons (xe_var 1) xa_nil))))))) xss_nil) (xss_cons (xs_if (xt_eq (rm_def hr) (ha := (xe_ix (ha := (xe_var 0)) (hb := xe_int))) (hb := xe_str)) (xss_one (xs_ret (xr_d (xe_tup (xa_cons xe_str (xa_cons (xe_tup (xa_cons xe_str xa_nil)) (xa_cons (xe_var 1) xa_nil))))))) xss_nil) (xss_cons (xs_if (xt_eq (rm_def hr) (ha := (xe_ix (ha := (xe_var 0)) (hb := xe_int))) (hb := xe_str)) (xss_one (xs_ret (xr_d (xe_tup (xa_cons xe_str (xa_cons (xe_tup (xa_cons xe_str xa_nil)) (xa_cons (xe_tup (xa_cons xe_str (xa_cons (xe_tup (xa_cons xe_str xa_nil)) (xa_cons (xe_var 1) xa_nil)))) xa_nil))))))) xss_nil) (xss_cons (xs_if (xt_eq (rm_def hr) (ha := (xe_ix (ha := (xe_var 0)) (hb := xe_int))) (hb := xe_str)) (xss_one (xs_ret (xr_d (xe_tup (xa_cons xe_str (xa_cons (xe_tup (xa_cons xe_str xa_nil)) (xa_cons (xe_tup (xa_cons xe_str (xa_cons (xe_tup (xa_cons xe_str xa_nil)) (xa_cons (xe_var 1) xa_nil)))) xa_nil))))))) xss_nil) (xss_cons (xs_if (xt_eq (rm_def hr) (ha := (xe_ix (ha := (xe_var 0)) (hb := xe_int))) (hb := xe_str)) (xss_one (xs_ret (xr_d (xe_tup (xa_cons xe_str (xa_cons (xe_tup (xa_cons xe_str (xa_cons (xe_var 1) xa_nil))) (xa_cons (xe_fz (xr_call (dvs := []) (dd := []) (H__law_plain.d hr (by omega)) .nil (fun _ => reps_nil) (xaa_v (xe_ix (ha := (xe_var 0)) (hb := xe_int)) xaa_nil))) xa_nil))))))) xss_nil) (xss_cons (xs_if (xt_eq (rm_def hr) (ha := (xe_len (fun _ => V.n_len) (xa_cons (xe_var 0) xa_nil))) (hb := xe_int)) (xss_one (xs_ret (xr_d (xe_tup (xa_cons (xe_ix (ha := (xe_var 0)) (hb := xe_int)) (xa_cons (xe_var 1) xa_nil)))))) xss_nil) (xss_one (xs_ret (xr_d (xe_tup (xa_cons (xe_ix (ha := (xe_var 0)) (hb := xe_int)) (xa_cons (xe_var 1) (xa_cons (xe_fz (xr_call (dvs := []) (dd := []) (H__law_plain.d hr (by omega)) .nil (fun _ => reps_nil) (xaa_v (xe_ix (ha := (xe_var 0)) (hb := xe_int)) xaa_nil))) xa_nil)))))))))))))))))
theorem ok__law_plain (V : Vy w K mg base) : ∀ n, FnG P w (tb w K) mg base "_law_plain" 1 (F__law_plain n) (1 + n)
  | 0 => (fng_g (k := 0) V.f__law_plain sc__law_plain (fun _ _ _ _ _ _ _ _ => xss_never)).mono (by omega)
  | n + 1 => (fng_g V.f__law_plain sc__law_plain (does__law_plain V _ n (ok__law_plain V n)))
theorem does__law_parts (V : Vy w K mg base) (f : Fn) (n : Nat) (H__law_parts : FnG P w (tb w K) mg base "_law_parts" 1 f (1 + n)) : Does P w (tb w K) mg base N__law_parts "_law_parts" s__law_parts (1 + n) kNo (b__law_parts f) := by
  intro f cdv A outer s H E hr
  unfold b__law_parts
  exact (xss_cons (xs_set 1 (fun _ => sc__law_parts.nd) (xr_lst xa_nil)) (xss_cons (xs_if (xt_ne (rm_def hr) (ha := (xe_ix (ha := (xe_var 0)) (hb := xe_int))) (hb := xe_str)) (xss_one (xs_for (xi_tup (h := (xe_sl (ha := (xe_var 0)) (hl := (xo_some xe_int)) (hh := xo_none)))) (xg_name 2 (hN := (fun _ => sc__law_parts.nd))) (xss_one (xs_set 1 (fun _ => sc__law_parts.nd) (xr_cat (xe_var 1) (xe_fz (xr_lc (own := [("_law_one", 3)]) (fun _ => sc__law_parts.nd) (xi_lst (h := (xe_fz (xr_call (dvs := []) (dd := []) (H__law_parts.d hr (by omega)) .nil (fun _ => reps_nil) (xaa_v (xe_var 2) xaa_nil))))) (fun _ => show BlkOk N__law_parts (defScope s__law_parts) _ _ from blkOk_by (by decide +kernel)) (xgb_name 3 (by simp) (fun _ => sc__law_parts.nd)) (xts_one (xt_notIn (rm_blk (rm_def hr)) (ha := (xe_var 3)) (hb := (xe_var 1)))) (xe_var 3)))))) own_def)) xss_nil) (xss_cons (xs_if (xt_w (xw_and (xt_in (rm_def hr) (ha := (xe_ix (ha := (xe_var 0)) (hb := xe_int))) (hb := (xe_fz (xr_lst (xa_cons xe_str (xa_cons xe_str (xa_cons xe_str (xa_cons xe_str (xa_cons xe_str (xa_cons xe_str (xa_cons xe_str xa_nil))))))))))) (xw_and1 (xt_notIn (rm_def hr) (ha := (xe_var 0)) (hb := (xe_var 1)))))) (xss_one (xs_set 1 (fun _ => sc__law_parts.nd) (xr_cat (xe_var 1) (xe_fz (xr_lst (xa_cons (xe_var 0) xa_nil)))))) xss_nil) (xss_one (xs_ret (xr_mv 1))))))
theorem ok__law_parts (V : Vy w K mg base) : ∀ n, FnG P w (tb w K) mg base "_law_parts" 1 (F__law_parts n) (1 + n)
  | 0 => (fng_g (k := 0) V.f__law_parts sc__law_parts (fun _ _ _ _ _ _ _ _ => xss_never)).mono (by omega)
  | n + 1 => (fng_g V.f__law_parts sc__law_parts (does__law_parts V _ n (ok__law_parts V n)))
theorem does__law_reads (V : Vy w K mg base) (f : Fn) (n : Nat) (H__law_reads : FnG P w (tb w K) mg base "_law_reads" 5 f (1 + n)) : Does P w (tb w K) mg base N__law_reads "_law_reads" s__law_reads (1 + n) kNo (b__law_reads f) := by
  intro f cdv A outer s H E hr
  unfold b__law_reads
  exact (xss_cons (xs_set 5 (fun _ => sc__law_reads.nd) (xr_d (xe_ix (ha := (xe_var 0)) (hb := xe_int)))) (xss_cons (xs_if (xt_w (xw_or (xt_eq (rm_def hr) (ha := (xe_var 5)) (hb := xe_str)) (xw_or1 (xt_eq (rm_def hr) (ha := (xe_var 5)) (hb := xe_str))))) (xss_one (xs_ret (xr_d (xe_eq (rm_def hr) (ha := (xe_var 5)) (hb := xe_str))))) xss_nil) (xss_cons (xs_if (xt_eq (rm_def hr) (ha := (xe_var 5)) (hb := xe_str)) (xss_one (xs_ret (xr_d (xe_in (rm_def hr) (ha := (xe_ix (ha := (xe_var 0)) (hb := xe_int))) (hb := (xe_var 1)))))) xss_nil) (xss_cons (xs_if (xt_eq (rm_def hr) (ha := (xe_var 5)) (hb := xe_str)) (xss_one (xs_ret (xr_d (xe_ix (ha := (xe_var 3)) (hb := (xe_lindex (rm_def hr) (xe_var 4) (xa_cons (xe_var 0) xa_nil))))))) xss_nil) (xss_cons (xs_if (xt_w (xw_or (xt_eq (rm_def hr) (ha := (xe_var 5)) (hb := xe_str)) (xw_or1 (xt_eq (rm_def hr) (ha := (xe_var 5)) (hb := xe_str))))) (xss_one (xs_ret (xr_d (xe_ix (ha := (xe_var 2)) (hb := (xe_lindex (rm_def hr) (xe_var 4) (xa_cons (xe_var 0) xa_nil))))))) xss_nil) (xss_cons (xs_set 6 (fun _ => sc__law_reads.nd) (xr_call (dvs := []) (dd := []) (H__law_reads.d hr (by omega)) .nil (fun _ => reps_nil) (xaa_v (xe_ix (ha := (xe_var 0)) (hb := xe_int)) (xaa_v (xe_var 1) (xaa_v (xe_var 2) (xaa_v (xe_var 3) (xaa_v (xe_var 4) xaa_nil))))))) (xss_cons (xs_if (xt_eq (rm_def hr) (ha := (xe_var 5)) (hb := xe_str)) (xss_one (xs_ret (xr_d (xe_not (xe_var 6))))) xss_nil) (xss_cons (xs_set 7 (fun _ => sc__law_reads.nd) (xr_call (dvs := []) (dd := []) (H__law_reads.d hr (by omega)) .nil (fun _ => reps_nil) (xaa_v (xe_ix (ha := (xe_var 0)) (hb := xe_int)) (xaa_v (xe_var 1) (xaa_v (xe_var 2) (xaa_v (xe_var 3) (xaa_v (xe_var 4) xaa_nil))))))) (xss_cons (xs_if (xt_w (xw_or (xt_eq (rm_def hr) (ha := (xe_var 5)) (hb := xe_str)) (xw_or1 (xt_eq (rm_def hr) (ha := (xe_var 5)) (hb := xe_str))))) (xss_one (xs_ret (xr_d (xe_ix (ha := (xe_fz (xr_lst (xa_cons (xe_or (xe_var 6) (xe_one (xe_var 7))) (xa_cons (xe_and (xe_var 6) (xe_one (xe_var 7))) xa_nil))))) (hb := (xe_intc (fun _ => V.n_int) (xa_cons (xe_eq (rm_def hr) (ha := (xe_var 5)) (hb := xe_str)) xa_nil))))))) xss_nil) (xss_cons (xs_set 8 (fun _ => sc__law_reads.nd) (xr_d (xe_ix (ha := (xe_var 3)) (hb := (xe_lindex (rm_def hr) (xe_var 4) (xa_cons (xe_var 0) xa_nil)))))) (xss_cons (xs_if (xt_w (xw_or (xt_eq (rm_def hr) (ha := (xe_var 5)) (hb := xe_str)) (xw_or1 (xt_eq (rm_def hr) (ha := (xe_var 5)) (hb := xe_str))))) (xss_one (xs_set 8 (fun _ => sc__law_reads.nd) (xr_d (xe_ix (ha := (xe_var 2)) (hb := (xe_lindex (rm_def hr) (xe_var 4) (xa_cons (xe_var 0) xa_nil))))))) xss_nil) (xss_cons (xs_if (xt_w (xw_or (xt_eq (rm_def hr) (ha := (xe_var 5)) (hb := xe_str)) (xw_or1 (xt_eq (rm_def hr) (ha := (xe_var 5)) (hb := xe_str))))) (xss_one (xs_ret (xr_d (xe_or (xe_var 7) (xe_one (xe_and (xe_var 6) (xe_one (xe_var 8)))))))) xss_nil) (xss_one (xs_ret (xr_d (xe_and (xe_var 7) (xe_one (xe_or (xe_var 6) (xe_one (xe_var 8))))))))))))))))))))
theorem ok__law_reads (V : Vy w K mg base) : ∀ n, FnG P w (tb w K) mg base "_law_reads" 5 (F__law_reads n) (1 + n)
  | 0 => (fng_g (k := 0) V.f__law_reads sc__law_reads (fun _ _ _ _ _ _ _ _ => xss_never)).mono (by omega)
  | n + 1 => (fng_g V.f__law_reads sc__law_reads (does__law_reads V _ n (ok__law_reads V n)))
theorem does__law_goes (V : Vy w K mg base) : Does P w (tb w K) mg base N__law_goes "_law_goes" s__law_goes 41 kNo b__law_goes := by
  intro f cdv A outer s H E hr
  unfold b__law_goes
  exact (xss_cons (xs_for (xi_r1 (fun _ => V.n_range) (xa_cons (xe_len (fun _ => V.n_len) (xa_cons (xe_var 3) xa_nil)) xa_nil)) (xg_name 4 (hN := (fun _ => sc__law_goes.nd))) (xss_cons (xs_set 5 (fun _ => sc__law_goes.nd) (xr_d (xe_ix (ha := (xe_var 3)) (hb := (xe_var 4))))) (xss_cons (xs_if (xt_eq (rm_def hr) (ha := (xe_ix (ha := (xe_ix (ha := (xe_var 3)) (hb := (xe_var 4)))) (hb := xe_int))) (hb := xe_str)) (xss_one (xs_set 5 (fun _ => sc__law_goes.nd) (xr_d (xe_ix (ha := (xe_ix (ha := (xe_var 3)) (hb := (xe_var 4)))) (hb := xe_int))))) xss_nil) (xss_one (xs_if (xt_in (rm_def hr) (ha := (xe_ix (ha := (xe_ix (ha := (xe_var 3)) (hb := (xe_var 4)))) (hb := xe_int))) (hb := (xe_fz (xr_lst (xa_cons xe_str (xa_cons xe_str (xa_cons xe_str xa_nil))))))) (xss_one (xs_if (xt_ne (rm_def hr) (ha := (xe_fz (xr_call (dvs := []) (dd := []) ((ok__law_reads V 40).d hr (by omega)) .nil (fun _ => reps_nil) (xaa_v (xe_var 5) (xaa_v (xe_var 0) (xaa_v (xe_var 1) (xaa_v (xe_var 2) (xaa_v (xe_var 3) xaa_nil)))))))) (hb := (xe_ix (ha := (xe_var 1)) (hb := (xe_var 4))))) (xss_one (xs_ret (xr_d xe_bl))) xss_nil)) xss_nil)))) own_def) (xss_one (xs_ret (xr_d xe_bl))))
theorem ok__law_goes (V : Vy w K mg base) : FnG P w (tb w K) mg base "_law_goes" 4 F__law_goes 42 := fng_g V.f__law_goes sc__law_goes (does__law_goes V)
theorem does__law_behind (V : Vy w K mg base) : Does P w (tb w K) mg base N__law_behind "_law_behind" s__law_behind 41 kNo b__law_behind := by
  intro f cdv A outer s H E hr
  unfold b__law_behind
  exact (xss_cons (xs_set 4 (fun _ => sc__law_behind.nd) (xr_lst xa_nil)) (xss_cons (xs_for (xi_r1 (fun _ => V.n_range) (xa_cons (xe_len (fun _ => V.n_len) (xa_cons (xe_var 3) xa_nil)) xa_nil)) (xg_name 5 (hN := (fun _ => sc__law_behind.nd))) (xss_one (xs_if (xt_in (rm_def hr) (ha := (xe_ix (ha := (xe_ix (ha := (xe_var 3)) (hb := (xe_var 5)))) (hb := xe_int))) (hb := (xe_fz (xr_lst (xa_cons xe_str (xa_cons xe_str (xa_cons xe_str xa_nil))))))) (xss_one (xs_app 4 (xe_ix (ha := (xe_var 2)) (hb := (xe_var 5))))) (xss_cons (xs_set 6 (fun _ => sc__law_behind.nd) (xr_d (xe_ix (ha := (xe_var 3)) (hb := (xe_var 5))))) (xss_cons (xs_if (xt_w (xw_or (xt_eq (rm_def hr) (ha := (xe_ix (ha := (xe_ix (ha := (xe_var 3)) (hb := (xe_var 5)))) (hb := xe_int))) (hb := xe_str)) (xw_or1 (xt_eq (rm_def hr) (ha := (xe_ix (ha := (xe_ix (ha := (xe_var 3)) (hb := (xe_var 5)))) (hb := xe_int))) (hb := xe_str))))) (xss_one (xs_set 6 (fun _ => sc__law_behind.nd) (xr_d (xe_ix (ha := (xe_ix (ha := (xe_var 3)) (hb := (xe_var 5)))) (hb := xe_int))))) xss_nil) (xss_one (xs_app 4 (xe_fz (xr_call (dvs := []) (dd := []) ((ok__law_reads V 40).d hr (by omega)) .nil (fun _ => reps_nil) (xaa_v (xe_var 6) (xaa_v (xe_var 0) (xaa_v (xe_var 1) (xaa_v (xe_var 2) (xaa_v (xe_var 3) xaa_nil))))))))))))) own_def) (xss_one (xs_ret (xr_d (xe_tuple (fun _ => V.n_tuple) (xa_cons (xe_var 4) xa_nil)))))))
theorem ok__law_behind (V : Vy w K mg base) : FnG P w (tb w K) mg base "_law_behind" 4 F__law_behind 42 := fng_g V.f__law_behind sc__law_behind (does__law_behind V)
theorem does__law_rung (V : Vy w K mg base) : Does P w (tb w K) mg base N__law_rung "_law_rung" s__law_rung 41 kNo b__law_rung := by
  intro f cdv A outer s H E hr
  unfold b__law_rung
  exact (xss_cons (xs_set 4 (fun _ => sc__law_rung.nd) (xr_lst xa_nil)) (xss_cons (xs_set 5 (fun _ => sc__law_rung.nd) (xr_d xe_int)) (xss_cons (xs_for (xi_lst (h := (xe_var 3))) (xg_name 6 (hN := (fun _ => sc__law_rung.nd))) (xss_one (xs_if (xt_w (xw_or (xt_eq (rm_def hr) (ha := (xe_ix (ha := (xe_var 6)) (hb := xe_int))) (hb := xe_str)) (xw_or1 (xt_eq (rm_def hr) (ha := (xe_ix (ha := (xe_var 6)) (hb := xe_int))) (hb := xe_str))))) (xss_cons (xs_set 7 (fun _ => sc__law_rung.nd) (xr_call (dvs := []) (dd := []) ((ok__law_reads V 40).d hr (by omega)) .nil (fun _ => reps_nil) (xaa_v (xe_var 6) (xaa_v (xe_var 0) (xaa_v (xe_var 1) (xaa_v (xe_var 2) (xaa_v (xe_var 3) xaa_nil))))))) (xss_cons (xs_set 8 (fun _ => sc__law_rung.nd) (xr_call (dvs := []) (dd := []) ((ok__law_reads V 40).d hr (by omega)) .nil (fun _ => reps_nil) (xaa_v (xe_ix (ha := (xe_var 6)) (hb := xe_int)) (xaa_v (xe_var 0) (xaa_v (xe_var 1) (xaa_v (xe_var 2) (xaa_v (xe_var 3) xaa_nil))))))) (xss_cons (xs_if (xt_w (xw_or (xt_eq (rm_def hr) (ha := (xe_var 8)) (hb := (xe_eq (rm_def hr) (ha := (xe_ix (ha := (xe_var 6)) (hb := xe_int))) (hb := xe_str)))) (xw_or1 (xt_eq (rm_def hr) (ha := (xe_var 7)) (hb := (xe_eq (rm_def hr) (ha := (xe_ix (ha := (xe_var 6)) (hb := xe_int))) (hb := xe_str))))))) (xss_one (xs_app 4 (xe_var 5))) xss_nil) (xss_one (xs_set 5 (fun _ => sc__law_rung.nd) (xr_d (xe_add (ha := (xe_var 5)) (hb := xe_int)))))))) xss_nil)) own_def) (xss_one (xs_ret (xr_d (xe_tuple (fun _ => V.n_tuple) (xa_cons (xe_var 4) xa_nil))))))))
theorem ok__law_rung (V : Vy w K mg base) : FnG P w (tb w K) mg base "_law_rung" 4 F__law_rung 42 := fng_g V.f__law_rung sc__law_rung (does__law_rung V)
theorem does__law_first (V : Vy w K mg base) : Does P w (tb w K) mg base N__law_first "_law_first" s__law_first 0 kNo b__law_first := by
  intro f cdv A outer s H E hr
  unfold b__law_first
  exact (xss_one (xs_ret (xr_d (xe_tuple (fun _ => V.n_tuple) (xa_cons (xe_fz (xr_lc (own := [("_law_part", 1)]) (fun _ => sc__law_first.nd) (xi_lst (h := (xe_var 0))) (fun _ => show BlkOk N__law_first (defScope s__law_first) _ _ from blkOk_by (by decide +kernel)) (xgb_name 1 (by simp) (fun _ => sc__law_first.nd)) xts_nil (xe_in (rm_blk (rm_def hr)) (ha := (xe_ix (ha := (xe_var 1)) (hb := xe_int))) (hb := (xe_fz (xr_lst (xa_cons xe_str (xa_cons xe_str xa_nil)))))))) xa_nil)))))
theorem ok__law_first (V : Vy w K mg base) : FnG P w (tb w K) mg base "_law_first" 1 F__law_first 1 := fng_g V.f__law_first sc__law_first (does__law_first V)
theorem does__law_within (V : Vy w K mg base) (f : Fn) (n : Nat) (H__law_within : FnG P w (tb w K) mg base "_law_within" 1 f (1 + n)) : Does P w (tb w K) mg base N__law_within "_law_within" s__law_within (1 + n) kNo (b__law_within f) := by
  intro f cdv A outer s H E hr
  unfold b__law_within
  exact (xss_cons (xs_set 1 (fun _ => sc__law_within.nd) (xr_lst (xa_cons (xe_var 0) xa_nil))) (xss_cons (xs_if (xt_ne (rm_def hr) (ha := (xe_ix (ha := (xe_var 0)) (hb := xe_int))) (hb := xe_str)) (xss_one (xs_for (xi_tup (h := (xe_sl (ha := (xe_var 0)) (hl := (xo_some xe_int)) (hh := xo_none)))) (xg_name 2 (hN := (fun _ => sc__law_within.nd))) (xss_one (xs_set 1 (fun _ => sc__law_within.nd) (xr_cat (xe_var 1) (xe_fz (xr_call (dvs := []) (dd := []) (H__law_within.d hr (by omega)) .nil (fun _ => reps_nil) (xaa_v (xe_var 2) xaa_nil)))))) own_def)) xss_nil) (xss_one (xs_ret (xr_mv 1)))))
theorem ok__law_within (V : Vy w K mg base) : ∀ n, FnG P w (tb w K) mg base "_law_within" 1 (F__law_within n) (1 + n)
  | 0 => (fng_g (k := 0) V.f__law_within sc__law_within (fun _ _ _ _ _ _ _ _ => xss_never)).mono (by omega)
  | n + 1 => (fng_g V.f__law_within sc__law_within (does__law_within V _ n (ok__law_within V n)))
theorem does__law_asked (V : Vy w K mg base) : Does P w (tb w K) mg base N__law_asked "_law_asked" s__law_asked 85 kNo b__law_asked := by
  intro f cdv A outer s H E hr
  unfold b__law_asked
  exact (xss_cons (xs_if (xt_eq (rm_def hr) (ha := (xe_var 0)) (hb := xe_int)) (xss_cons (xs_setLc 6 (own := [("_law_one", 7)]) (fun _ => sc__law_asked.nd) (xi_lst (h := (xe_fz (xr_cat (xe_fz (xr_call (dvs := []) (dd := []) ((ok__law_within V 40).d hr (by omega)) .nil (fun _ => reps_nil) (xaa_v (xe_var 1) xaa_nil))) (xe_var 5))))) (fun _ => show BlkOk N__law_asked (defScope s__law_asked) _ _ from blkOk_by (by decide +kernel)) (xgb_name 7 (by simp) (fun _ => sc__law_asked.nd)) xts_nil (xe_fz (xr_call (dvs := []) (dd := []) ((ok_reads V).b hr (by omega)) .nil (fun _ => reps_nil) (xaa_v (xe_var 7) (xaa_v (xe_var 2) (xaa_v (xe_var 3) (xaa_v (xe_var 4) (xaa_v (xe_var 5) xaa_nil))))))) (fun _ => sw_true rfl rfl rfl (by decide +kernel))) (xss_cons (xs_if (xt_neL (rm_def hr) (ha := (xe_fz (xr_lc (own := [("_law_one", 7)]) (fun _ => sc__law_asked.nd) (xi_seq (h := (xe_var 6))) (fun _ => show BlkOk N__law_asked (defScope s__law_asked) _ _ from blkOk_by (by decide +kernel)) (xgb_name 7 (by simp) (fun _ => sc__law_asked.nd)) (xts_one (xt_not (xt_val (xe_isi (c := "bool") (by decide) (by decide +kernel) (fun _ => V.n_isinstance) (fun _ => V.n_bool) (xe_var 7))))) (xe_var 7)))) (hb := (xe_fz (xr_lst xa_nil)))) (xss_one (xs_ret (xr_d xe_bl))) xss_nil) (xss_one (xs_ret (xr_d (xe_eq (rm_def hr) (ha := (xe_var 6)) (hb := (xe_fz (xr_lc (own := [("_law_one", 7)]) (fun _ => sc__law_asked.nd) (xi_lst (h := (xe_fz (xr_cat (xe_fz (xr_call (dvs := []) (dd := []) ((ok__law_within V 40).d hr (by omega)) .nil (fun _ => reps_nil) (xaa_v (xe_var 1) xaa_nil))) (xe_var 5))))) (fun _ => show BlkOk N__law_asked (defScope s__law_asked) _ _ from blkOk_by (by decide +kernel)) (xgb_name 7 (by simp) (fun _ => sc__law_asked.nd)) xts_nil (xe_fz (xr_call (dvs := []) (dd := []) ((ok__law_reads V 40).b hr (by omega)) .nil (fun _ => reps_nil) (xaa_v (xe_var 7) (xaa_v (xe_var 2) (xaa_v (xe_var 3) (xaa_v (xe_var 4) (xaa_v (xe_var 5) xaa_nil)))))))))))))))) xss_nil) (xss_cons (xs_if (xt_eq (rm_def hr) (ha := (xe_var 0)) (hb := xe_int)) (xss_cons (xs_set 6 (fun _ => sc__law_asked.nd) (xr_call (dvs := []) (dd := []) ((ok_goes_with V).d hr (by omega)) .nil (fun _ => reps_nil) (xaa_v (xe_var 2) (xaa_v (xe_var 3) (xaa_v (xe_var 4) (xaa_v (xe_var 5) xaa_nil)))))) (xss_one (xs_ret (xr_d (xe_and (xe_isi (c := "bool") (by decide) (by decide +kernel) (fun _ => V.n_isinstance) (fun _ => V.n_bool) (xe_var 6)) (xe_one (xe_eq (rm_def hr) (ha := (xe_var 6)) (hb := (xe_fz (xr_call (dvs := []) (dd := []) ((ok__law_goes V).d hr (by omega)) .nil (fun _ => reps_nil) (xaa_v (xe_var 2) (xaa_v (xe_var 3) (xaa_v (xe_var 4) (xaa_v (xe_var 5) xaa_nil)))))))))))))) xss_nil) (xss_cons (xs_if (xt_eq (rm_def hr) (ha := (xe_var 0)) (hb := xe_int)) (xss_cons (xs_set 6 (fun _ => sc__law_asked.nd) (xr_call (dvs := []) (dd := []) ((ok_next_label V).d hr (by omega)) .nil (fun _ => reps_nil) (xaa_v (xe_var 2) (xaa_v (xe_var 3) (xaa_v (xe_var 4) (xaa_v (xe_var 5) xaa_nil)))))) (xss_cons (xs_if (xt_w (xw_or (xt_not (xt_val (xe_isi (c := "tuple") (by decide) (by decide +kernel) (fun _ => V.n_isinstance) (fun _ => V.n_tuple) (xe_var 6)))) (xw_or1 (xt_neL (rm_def hr) (ha := (xe_fz (xr_lc (own := [("_law_one", 7)]) (fun _ => sc__law_asked.nd) (xi_seq (h := (xe_var 6))) (fun _ => show BlkOk N__law_asked (defScope s__law_asked) _ _ from blkOk_by (by decide +kernel)) (xgb_name 7 (by simp) (fun _ => sc__law_asked.nd)) (xts_one (xt_not (xt_val (xe_isi (c := "bool") (by decide) (by decide +kernel) (fun _ => V.n_isinstance) (fun _ => V.n_bool) (xe_var 7))))) (xe_var 7)))) (hb := (xe_fz (xr_lst xa_nil))))))) (xss_one (xs_ret (xr_d xe_bl))) xss_nil) (xss_one (xs_ret (xr_d (xe_eq (rm_def hr) (ha := (xe_var 6)) (hb := (xe_fz (xr_call (dvs := []) (dd := []) ((ok__law_behind V).d hr (by omega)) .nil (fun _ => reps_nil) (xaa_v (xe_var 2) (xaa_v (xe_var 3) (xaa_v (xe_var 4) (xaa_v (xe_var 5) xaa_nil))))))))))))) xss_nil) (xss_cons (xs_if (xt_eq (rm_def hr) (ha := (xe_var 0)) (hb := xe_int)) (xss_cons (xs_set 6 (fun _ => sc__law_asked.nd) (xr_call (dvs := []) (dd := []) ((ok_first_label V).d hr (by omega)) .nil (fun _ => reps_nil) (xaa_v (xe_var 5) xaa_nil))) (xss_cons (xs_if (xt_w (xw_or (xt_not (xt_val (xe_isi (c := "tuple") (by decide) (by decide +kernel) (fun _ => V.n_isinstance) (fun _ => V.n_tuple) (xe_var 6)))) (xw_or1 (xt_neL (rm_def hr) (ha := (xe_fz (xr_lc (own := [("_law_one", 7)]) (fun _ => sc__law_asked.nd) (xi_seq (h := (xe_var 6))) (fun _ => show BlkOk N__law_asked (defScope s__law_asked) _ _ from blkOk_by (by decide +kernel)) (xgb_name 7 (by simp) (fun _ => sc__law_asked.nd)) (xts_one (xt_not (xt_val (xe_isi (c := "bool") (by decide) (by decide +kernel) (fun _ => V.n_isinstance) (fun _ => V.n_bool) (xe_var 7))))) (xe_var 7)))) (hb := (xe_fz (xr_lst xa_nil))))))) (xss_one (xs_ret (xr_d xe_bl))) xss_nil) (xss_one (xs_ret (xr_d (xe_eq (rm_def hr) (ha := (xe_var 6)) (hb := (xe_fz (xr_call (dvs := []) (dd := []) ((ok__law_first V).d hr (by omega)) .nil (fun _ => reps_nil) (xaa_v (xe_var 5) xaa_nil)))))))))) xss_nil) (xss_cons (xs_set 6 (fun _ => sc__law_asked.nd) (xr_call (dvs := []) (dd := []) ((ok_bells_rung V).d hr (by omega)) .nil (fun _ => reps_nil) (xaa_v (xe_var 2) (xaa_v (xe_var 3) (xaa_v (xe_var 4) (xaa_v (xe_var 5) xaa_nil)))))) (xss_cons (xs_if (xt_w (xw_or (xt_not (xt_val (xe_isi (c := "tuple") (by decide) (by decide +kernel) (fun _ => V.n_isinstance) (fun _ => V.n_tuple) (xe_var 6)))) (xw_or1 (xt_neL (rm_def hr) (ha := (xe_fz (xr_lc (own := [("_law_one", 7)]) (fun _ => sc__law_asked.nd) (xi_seq (h := (xe_var 6))) (fun _ => show BlkOk N__law_asked (defScope s__law_asked) _ _ from blkOk_by (by decide +kernel)) (xgb_name 7 (by simp) (fun _ => sc__law_asked.nd)) (xts_one (xt_val (xe_isi (c := "bool") (by decide) (by decide +kernel) (fun _ => V.n_isinstance) (fun _ => V.n_bool) (xe_var 7)))) (xe_var 7)))) (hb := (xe_fz (xr_lst xa_nil))))))) (xss_one (xs_ret (xr_d xe_bl))) xss_nil) (xss_one (xs_ret (xr_d (xe_eq (rm_def hr) (ha := (xe_var 6)) (hb := (xe_fz (xr_call (dvs := []) (dd := []) ((ok__law_rung V).d hr (by omega)) .nil (fun _ => reps_nil) (xaa_v (xe_var 2) (xaa_v (xe_var 3) (xaa_v (xe_var 4) (xaa_v (xe_var 5) xaa_nil)))))))))))))))))
theorem ok__law_asked (V : Vy w K mg base) : FnG P w (tb w K) mg base "_law_asked" 6 F__law_asked 86 := fng_g V.f__law_asked sc__law_asked (does__law_asked V)
theorem does_law (V : Vy w K mg base) : Does P w (tb w K) mg base N_law "law" s_law 86 kNo b_law := by
  intro f cdv A outer s H E hr
  unfold b_law
  exact (xss_cons (xs_set 1 (fun _ => sc_law.nd) (xr_call (dvs := []) (dd := []) ((ok__law_row V).d hr (by omega)) .nil (fun _ => reps_nil) (xaa_v (xe_var 0) (xaa_v xe_int xaa_nil)))) (xss_cons (xs_set 2 (fun _ => sc_law.nd) (xr_sortSet (fun _ => V.n_sorted) (fun _ => V.n_set) (xa_cons (xe_fz (xr_lc (own := [("_law_turn", 11)]) (fun _ => sc_law.nd) (xi_r1 (fun _ => V.n_range) (xa_cons (xe_add (ha := xe_int) (hb := (xe_mod (xe_ix (ha := (xe_var 1)) (hb := xe_int)) xe_int))) xa_nil)) (fun _ => show BlkOk N_law (defScope s_law) _ _ from blkOk_by (by decide +kernel)) (xgb_name 11 (by simp) (fun _ => sc_law.nd)) xts_nil (xe_fz (xr_call (dvs := []) (dd := []) ((ok__law_mark V).b hr (by omega)) .nil (fun _ => reps_nil) (xaa_v (xe_ix (ha := (xe_var 1)) (hb := xe_int)) (xaa_v (xe_var 11) xaa_nil)))))) xa_nil))) (xss_cons (xs_set 3 (fun _ => sc_law.nd) (xr_call (dvs := []) (dd := []) ((ok__law_plain V 40).d hr (by omega)) .nil (fun _ => reps_nil) (xaa_v (xe_fz (xr_call (dvs := []) (dd := []) ((ok__law_small V).d hr (by omega)) .nil (fun _ => reps_nil) (xaa_v (xe_fz (xr_sl (ha := (xe_var 1)) (hl := xo_none) (hh := (xo_some (xe_add (ha := xe_int) (hb := (xe_mod (xe_ix (ha := (xe_var 1)) (hb := xe_int)) xe_int))))))) (xaa_v (xe_var 2) (xaa_v (xe_mod (xe_div (xe_ix (ha := (xe_var 1)) (hb := xe_int)) xe_int) xe_int) xaa_nil))))) xaa_nil))) (xss_cons (xs_set 4 (fun _ => sc_law.nd) (xr_call (dvs := []) (dd := []) ((ok__law_parts V 40).d hr (by omega)) .nil (fun _ => reps_nil) (xaa_v (xe_var 3) xaa_nil))) (xss_cons (xs_set 5 (fun _ => sc_law.nd) (xr_d (xe_ix (ha := (xe_fz (xr_lc (own := [("_law_mark_here", 13)]) (fun _ => sc_law.nd) (xi_lst (h := (xe_fz (xr_lst (xa_cons xe_str (xa_cons xe_str (xa_cons xe_str (xa_cons xe_str xa_nil)))))))) (fun _ => show BlkOk N_law (defScope s_law) _ _ from blkOk_by (by decide +kernel)) (xgb_name 13 (by simp) (fun _ => sc_law.nd)) (xts_one (xt_notIn (rm_blk (rm_def hr)) (ha := (xe_var 13)) (hb := (xe_var 2)))) (xe_var 13)))) (hb := xe_int)))) (xss_cons (xs_set 6 (fun _ => sc_law.nd) (xr_sorted (fun _ => V.n_sorted) (xa_cons (xe_fz (xr_cat (xe_var 2) (xe_fz (xr_lst (xa_cons (xe_var 5) xa_nil))))) xa_nil))) (xss_cons (xs_set 7 (fun _ => sc_law.nd) (xr_d (xe_tuple (fun _ => V.n_tuple) (xa_cons (xe_fz (xr_lc (own := [("_law_k", 14)]) (fun _ => sc_law.nd) (xi_r1 (fun _ => V.n_range) (xa_cons (xe_len (fun _ => V.n_len) (xa_cons (xe_var 6) xa_nil)) xa_nil)) (fun _ => show BlkOk N_law (defScope s_law) _ _ from blkOk_by (by decide +kernel)) (xgb_name 14 (by simp) (fun _ => sc_law.nd)) (xts_one (xt_eq (rm_blk (rm_def hr)) (ha := (xe_mod (xe_div (xe_ix (ha := (xe_var 1)) (hb := xe_int)) (xe_ix (ha := (xe_fz (xr_lst (xa_cons xe_int (xa_cons xe_int (xa_cons xe_int (xa_cons xe_int xa_nil))))))) (hb := (xe_var 14)))) xe_int)) (hb := xe_int))) (xe_ix (ha := (xe_var 6)) (hb := (xe_var 14))))) xa_nil)))) (xss_cons (xs_set 8 (fun _ => sc_law.nd) (xr_d (xe_tuple (fun _ => V.n_tuple) (xa_cons (xe_fz (xr_lc (own := [("_law_k", 14)]) (fun _ => sc_law.nd) (xi_r1 (fun _ => V.n_range) (xa_cons (xe_len (fun _ => V.n_len) (xa_cons (xe_var 4) xa_nil)) xa_nil)) (fun _ => show BlkOk N_law (defScope s_law) _ _ from blkOk_by (by decide +kernel)) (xgb_name 14 (by simp) (fun _ => sc_law.nd)) xts_nil (xe_eq (rm_blk (rm_def hr)) (ha := (xe_mod (xe_div (xe_ix (ha := (xe_var 1)) (hb := xe_int)) (xe_ix (ha := (xe_fz (xr_lst (xa_cons xe_int (xa_cons xe_int (xa_cons xe_int (xa_cons xe_int xa_nil))))))) (hb := (xe_mod (xe_var 14) xe_int)))) xe_int)) (hb := xe_int)))) xa_nil)))) (xss_cons (xs_set 9 (fun _ => sc_law.nd) (xr_d (xe_tuple (fun _ => V.n_tuple) (xa_cons (xe_fz (xr_lc (own := [("_law_k", 14)]) (fun _ => sc_law.nd) (xi_r1 (fun _ => V.n_range) (xa_cons (xe_len (fun _ => V.n_len) (xa_cons (xe_var 4) xa_nil)) xa_nil)) (fun _ => show BlkOk N_law (defScope s_law) _ _ from blkOk_by (by decide +kernel)) (xgb_name 14 (by simp) (fun _ => sc_law.nd)) xts_nil (xe_eq (rm_blk (rm_def hr)) (ha := (xe_mod (xe_div (xe_ix (ha := (xe_var 1)) (hb := xe_int)) (xe_ix (ha := (xe_fz (xr_lst (xa_cons xe_int (xa_cons xe_int (xa_cons xe_int (xa_cons xe_int xa_nil))))))) (hb := (xe_mod (xe_var 14) xe_int)))) xe_int)) (hb := xe_int)))) xa_nil)))) (xss_cons (xs_set 10 (fun _ => sc_law.nd) (xr_list (fun _ => V.n_list) (xa_cons (xe_var 4) xa_nil))) (xss_cons (xs_for (xi_r1 (fun _ => V.n_range) (xa_cons xe_int xa_nil)) (xg_name 11 (hN := (fun _ => sc_law.nd))) (xss_cons (xs_set 12 (fun _ => sc_law.nd) (xr_d (xe_mod (xe_add (ha := (xe_ix (ha := (xe_var 1)) (hb := xe_int))) (hb := (xe_mul (xe_var 11) (xe_ix (ha := (xe_fz (xr_lst (xa_cons xe_int (xa_cons xe_int (xa_cons xe_int (xa_cons xe_int xa_nil))))))) (hb := (xe_mod (xe_ix (ha := (xe_var 1)) (hb := xe_int)) xe_int)))))) xe_int))) (xss_one (xs_if (xt_not (xt_val (xe_fz (xr_call (dvs := []) (dd := []) ((ok__law_asked V).d hr (by omega)) .nil (fun _ => reps_nil) (xaa_v (xe_var 12) (xaa_v (xe_var 3) (xaa_v (xe_var 7) (xaa_v (xe_var 8) (xaa_v (xe_var 9) (xaa_v (xe_var 10) xaa_nil)))))))))) (xss_one (xs_ret (xr_d xe_bl))) xss_nil))) own_def) (xss_one (xs_ret (xr_d (xe_eq (rm_def hr) (ha := (xe_var 10)) (hb := (xe_var 4)))))))))))))))))
end
end K31
set_option Elab.async false
set_option linter.all false
set_option maxRecDepth 100000
set_option maxHeartbeats 4000000
namespace K31
open PySem hiding ret plain
open Fz hiding tb nx
def sml : List Nat := [97, 98, 99, 100, 101, 102, 103, 104, 105, 106, 107, 108, 109, 110, 111, 112, 113, 114, 115, 116, 117, 118, 119, 120, 121, 122]
def fig : List Nat := [48, 49, 50, 51, 52, 53, 54, 55, 56, 57]
def kw : List Str := ["yes", "no", "not", "and", "or", "then", "until", "since", "frees", "held", "next", "before", "early", "soon", "ever", "once", "sofar", "again", "settles"]
def markL (l : List Nat) : Bool := decide (1 ≤ l.length) && decide (l.length ≤ 8) && (decide (l.getD 0 0 ∈ sml) && (l.all (fun c => decide (c ∈ sml) || decide (c ∈ fig)) && !decide (W l ∈ kw)))
def markB : D → Bool
  | .str s => markL s.cps.toList
  | _ => false
end K31
local macro_rules | `(tactic| simp_arith [$args,*]) => `(tactic| simp only [↓Fz.n_ret, ↓Fz.n_opt, ↓Fz.n_eUn, ↓Fz.n_eBin, ↓Fz.n_eCons, ↓Fz.n_eNil, ↓Fz.n_eOp, ↓Fz.n_eTup, ↓Fz.n_rD, ↓Fz.n_rOp, ↓Fz.n_rLst, ↓Fz.n_eFz, ↓Fz.n_eVar, ↓Fz.n_eFull, ↓Fz.n_tFull, ↓Fz.n_rFull, ↓Fz.n_eTst, ↓Fz.n_eNot, ↓Fz.n_cAnd, ↓Fz.n_cOr, ↓Fz.n_cNot, ↓Fz.n_cYes, ↓Fz.n_eAnd, ↓Fz.n_eOr, ↓Fz.n_eChain, ↓Fz.n_eIf, ↓Fz.n_rIf, ↓Fz.n_oNone, ↓Fz.n_oSome, ↓Fz.n_eSl, ↓Fz.n_rSlL', ↓Fz.n_eMt, ↓Fz.n_rMt, ↓Fz.n_rBin, ↓Fz.n_rMv, ↓Fz.n_iLst, ↓Fz.n_iTupl, ↓Fz.n_iSeq, ↓Fz.n_iText, ↓Fz.n_iR1, ↓Fz.n_iR2, ↓Fz.n_iEn, ↓Fz.n_aNil, ↓Fz.n_aV, ↓Fz.n_aO, ↓Fz.n_callF, ↓Fz.n_rCall, ↓Fz.n_rMeth, ↓Fz.n_rMakeN, ↓Fz.n_fnOf, ↓Fz.n_sNext, ↓Fz.n_sBrk, ↓Fz.n_sCt, ↓Fz.n_sRetN, ↓Fz.n_sSeq, ↓Fz.n_sSet, ↓Fz.n_sAsg, ↓Fz.n_sIf, ↓Fz.n_sRet, ↓Fz.n_sDrop, ↓Fz.n_sFor, ↓Fz.n_sApp', ↓Fz.n_sExtA, ↓Fz.n_sSub, ↓Fz.n_eFld, ↓Fz.n_rLc, ↓Fz.n_eMaxD, ↓Fz.n_eVarO, ↓Fz.n_rMake, ↓Fz.n_rMethX, ↓Fz.n_eIxO, ↓Fz.n_iR3, ↓Fz.n_rRev, ↓Fz.n_sRaise, ↓Fz.n_sTry, ↓Fz.n_sAug, ↓Fz.n_rDct0, Fz.kMeX_v, Fz.kMeX_x, Fz.kR3_v, Fz.kIxO_v, Fz.kIxO_x, Fz.ixR_ol, Fz.ixR_d, Fz.kRev_v, Fz.kRev_x, Fz.mkE_x, Fz.gRev_l, Fz.kTrS_rt, Fz.kTrS_nx, Fz.kTrS_ct, Fz.kTrS_nx0, Fz.uTr_f, Fz.uTr_t, Fz.uTr_t0, Fz.kTr_x, Fz.kTr_nx, Fz.kTr_rt, Fz.kAug2_a, Fz.kAug_v, Fz.kAug_x, Fz.gD_d, Fz.kAug1_a, Fz.dAddIS_i, Fz.dIsq_e, Fz.mkE_v, Fz.kMkU_a, Fz.kMk_v, Fz.upA_o, Fz.upA_v, Fz.wc_t, Fz.wd_t, Fz.wd_f, Fz.kU_a, Fz.wo_some, Fz.wo_none, Fz.wo_ifn, Fz.wpe_eq, Fz.wse_eq, Fz.kr_a, Fz.krl_a, Fz.ku_a, Fz.kUn_v, Fz.kUn_x, Fz.kBin2_v, Fz.kBin2_x, Fz.kBin1_v, Fz.kBin1_x, Fz.kCons2_v, Fz.kCons2_x, Fz.kCons1_v, Fz.kCons1_x, Fz.kOp_v, Fz.kOp_x, Fz.kTup_v, Fz.kTup_x, Fz.kD_v, Fz.kD_x, Fz.kROp_v, Fz.kROp_x, Fz.kLst_v, Fz.kLst_x, Fz.kFz_v, Fz.kFz_x, Fz.kFull_v, Fz.kFull_x, Fz.kTFull_v, Fz.kTFull_x, Fz.n_rfx_ol, Fz.n_rfx_d, Fz.rfx_x, Fz.kTst_v, Fz.kTst_x, Fz.krn_a, Fz.kNot_v, Fz.kNot_x, Fz.wAnd_t, Fz.wAnd_f, Fz.kAnd_v, Fz.kAnd_x, Fz.wOr_t, Fz.wOr_f, Fz.kOr_v, Fz.kOr_x, Fz.kCNot_v, Fz.kCNot_x, Fz.wEAnd_t, Fz.wEAnd_f, Fz.kEAnd_v, Fz.kEAnd_x, Fz.wEOr_t, Fz.wEOr_f, Fz.kEOr_v, Fz.kEOr_x, Fz.tb_n, Fz.wChain_t, Fz.wChain_f, Fz.kCh3_a, Fz.kCh2_v, Fz.kCh2_x, Fz.kCh1_v, Fz.kCh1_x, Fz.wEIf_t, Fz.wEIf_f, Fz.kEIf_v, Fz.kEIf_x, Fz.wRIf_t, Fz.wRIf_f, Fz.kRIf_v, Fz.kRIf_x, Fz.kso_a, Fz.kSome_v, Fz.kSome_x, Fz.kSl3_v, Fz.kSl3_x, Fz.kSl2_v, Fz.kSl2_x, Fz.kSl1_v, Fz.kSl1_x, Fz.kcut_a, Fz.kRSl3_v, Fz.kRSl3_x, Fz.kRSl2_v, Fz.kRSl2_x, Fz.kRSl1_v, Fz.kRSl1_x, Fz.kMt2_v, Fz.kMt2_x, Fz.kMtu_a, Fz.kMt1_v, Fz.kMt1_x, Fz.kRMt2_v, Fz.kRMt2_x, Fz.kRMtu_a, Fz.kRMt1_v, Fz.kRMt1_x, Fz.kRBin2_v, Fz.kRBin2_x, Fz.kRBin1_v, Fz.kRBin1_x, Fz.kILst_v, Fz.kILst_x, Fz.kITup_v, Fz.kITup_x, Fz.kISeq_v, Fz.kISeq_x, Fz.ktx_a, Fz.kIText_v, Fz.kIText_x, Fz.kIL_v, Fz.kIL_x, Fz.kAV2_v, Fz.kAV2_x, Fz.kAV1_v, Fz.kAV1_x, Fz.kAO_v, Fz.kAO_x, Fz.isq_s, Fz.kAOu_a, Fz.kEnd2_a, Fz.kEnd_a, Fz.kCallU_a, Fz.kCall_a, Fz.kRcu_a, Fz.kRc_v, Fz.kRc_x, Fz.kMcu_a, Fz.kMc_v, Fz.kMc_x, Fz.kMf_a, Fz.kMo_a, Fz.kMeth_v, Fz.kFnU_a, Fz.ko_a, Fz.n_oend_rt, Fz.n_oend_nx, Fz.n_oend_x, Fz.kSeq_nx, Fz.kSeq_bk, Fz.kSeq_ct, Fz.kSeq_rt, Fz.kSeq_x, Fz.kSet_v, Fz.kSet_x, Fz.knx_a, Fz.kAsg_v, Fz.kAsg_x, Fz.wIf_t, Fz.wIf_f, Fz.kIf_v, Fz.kIf_x, Fz.kRet_v, Fz.kRet_x, Fz.kDrop_v, Fz.kDrop_x, Fz.kFor_v, Fz.kFor_x, Fz.kSt_a, Fz.kApp2_a, Fz.kApp_v, Fz.kApp_x, Fz.kAppU_a, Fz.kExt3_a, Fz.kExt2_a, Fz.kExt_v, Fz.kExt_x, Fz.kExtU_a, Fz.kSub5_a, Fz.kSub4_a, Fz.kSub3_a, Fz.kSub2_v, Fz.kSub2_x, Fz.kSubU_a, Fz.kSub1_v, Fz.kSub1_x, Fz.fld_o, Fz.wd_krn, ite_self, Fz.vro_r, Fz.kMx2_v, Fz.kMx1_v, Fz.dMaxD_i, Fz.dSum_i, Fz.dInts_nil, Fz.dInts_cons, Fz.maxOf_nil, Fz.maxOf_one, Fz.maxOf_two, Fz.dMax2_i, Fz.isc_o, Fz.e_slt1, Fz.cast0, Fz.cast1, Fz.cast2, Fz.cast3, Fz.isT, Fz.e_tys, Fz.e_tyl, Fz.kLc_v, Fz.kLcU_a, Fz.kLcB_a, Fz.W_len, Fz.W_app, Fz.sgn_W, Fz.own_no, Fz.own_d, List.all_cons, List.all_nil, List.getD_cons_succ, List.getD_cons_zero, Fz.wipeS, Fz.backS, Fz.vr_d, Fz.vr_ol, Fz.vr_od, Fz.gt_0, Fz.gt_s, Fz.stt_0, Fz.stt_s, Fz.vwN_nil, Fz.vwN_d, Fz.vwN_ol, Fz.vwN_od, Fz.vwN_no, Fz.vwN_oi, Fz.ti_int, Fz.tl_l, Fz.tt_t, Fz.tq_t, Fz.tq_l, Fz.tx_s, Fz.mv_s, Fz.to_o, Fz.gA, Fz.pA, Fz.outs_nil, Fz.outs_cons, Fz.outs1_s, Fz.isD_d, Fz.gol_s, Fz.isL_ol, Fz.isL_d, Fz.gN_eq, Fz.gT_eq, Fz.gsN_eq, Fz.gsC_eq, Fz.some_bind', Fz.dR1_i, Fz.dR2_i, Fz.dEn_i, Fz.owns, Fz.vw_d, Fz.vw_ol, Fz.vw_oi, Fz.vw_od, Fz.wh_d, Fz.wh_ol, Fz.wh_od, Fz.wh_oi, Fz.imm, Fz.imms, decide_true, decide_false, Bool.not_true, Bool.not_false, if_true, if_false, List.length_cons, List.length_nil, List.map_cons, List.map_nil, List.append_nil, List.nil_append, List.cons_append, List.replicate, Option.map_some, beq_self_eq_true, Bool.true_or, Bool.or_true, Bool.false_or, Bool.or_false, Bool.false_and, Bool.and_false, Bool.true_and, Bool.and_true, reduceCtorEq, Fz.e_sub, Fz.e_mod, Fz.e_div, Fz.e_mul, Fz.e_addi, Fz.e_adds, Fz.e_addt, Fz.e_eqi, Fz.e_eqs, Fz.e_eqb, Fz.e_nei, Fz.e_nes, Fz.e_neb, Fz.e_lti, Fz.e_gti, Fz.e_lei, Fz.e_gei, Fz.e_lenl, Fz.e_lent, Fz.e_lens, Fz.e_isib, Fz.e_inw, Fz.e_ninw, Fz.e_inwt, Fz.e_ninwt, Fz.e_intb, Fz.e_ixn, Fz.e_ixtn, Fz.e_ix0, Fz.e_ix1, Fz.e_ix2, Fz.e_ix3, Fz.e_ixt0, Fz.e_ixt1, Fz.e_ixt2, Fz.e_ixt3, Fz.e_ixs, Fz.e_ixs0, Fz.szl, List.getElem?_cons_zero, List.getElem?_cons_succ, Fz.e_tupl, Fz.e_tupt, Fz.e_listl, Fz.e_listt, Fz.nodup0, Fz.nodup1, List.length_set, List.length_append, List.length_map, List.set_cons_zero, List.set_cons_succ, Nat.add_zero, Nat.zero_add, Fz.lp_nx, Fz.lp_rt, Fz.lp_bk, Fz.lp_ct, Fz.lp_x, ↓reduceIte, Nat.reduceAdd, Nat.reduceSub, Nat.reduceLeDiff, Nat.reduceLT, Nat.reduceMul, Nat.reduceDiv, Nat.reduceMod, Int.reduceMul, Int.reduceToNat, Int.reduceMod, Int.reduceDiv, Int.reduceOfNat, Int.reduceBEq, Nat.reduceEqDiff, Nat.reduceBEq, Int.reduceLT, Int.reduceLE, Int.reduceEq, Int.reduceNeg, Int.reduceAdd, Int.reduceSub, decide_eq_true_eq, ite_true, ite_false, and_self, or_self, and_true, true_and, Bool.or_self, Bool.and_self, Fz.ixn0, Fz.ixn1, Fz.ixn2, Fz.ixn3, Bool.or_eq_true, or_true, true_or, or_false, false_or, $args,*])
set_option Elab.async false
set_option linter.all false
set_option maxRecDepth 100000
set_option maxHeartbeats 4000000
namespace K31
open PySem hiding ret plain
open Fz hiding tb nx
def cell (ns : List Int) (k : Nat) : Int := ns.getD (k % ns.length) 0
theorem row_wf (ns : List Int) (n : Nat) (x : D) (hx : dR1 [x] = some (rngD 0 n)) (hn : n ≤ 1000) : wf F__law_row [.d (.lst (ns.map D.int)), .d x] fun o rs2 => ∃ rs : List Int, rs.length = n ∧ (∀ r ∈ rs, 0 ≤ r) ∧ o = .v (.ol (rs.map D.int)) ∧ rs2 = [.d (.lst (ns.map D.int)), .d x] := by
  have m1 : ∀ a : Int, CMulB a 48271 = True := fun a => eq_true (.inr (by decide))
  have m2 : ∀ a : Int, CMulB 16807 a = True := fun a => eq_true (.inl (by decide))
  have m3 : ∀ a : Int, CMulB (a % 2147483647) (a % 2147483647) = True := fun a => eq_true (.inl (by omega))
  unfold F__law_row
  simp_arith [b__law_row, hx]
  have e1 : ∀ k : Nat, 0 < ns.length → dIx (.lst (ns.map D.int)) (.int ((k : Int) % (ns.length : Int))) = some (.int (cell ns k)) := fun k h => by
    rw [← Int.natCast_emod, e_ixn]
    have : k % ns.length < ns.length := Nat.mod_lt _ (by omega)
    simp [cell, this]
  refine ws_for (fun ds s => ∃ (k : Nat) (rs : List Int) (a : Int) (x4 x5 : Option R), ds = (List.range' k (n - k)).map (fun i : Nat => D.int i) ∧ k ≤ n ∧ rs.length = k ∧ (∀ r ∈ rs, 0 ≤ r) ∧ s = [some (R.d (.lst (ns.map D.int))), some (R.d x), some (R.ol (rs.map D.int)), some (R.d (.int a)), x4, x5]) ?_ ?_ ?_
  · refine ⟨0, [], 7, none, none, ?_, by omega, rfl, fun r h => (by cases h), rfl⟩
    simp [rngD, List.range_eq_range']
  · rintro d r s ⟨k, rs, a, x4, x5, hd, hk, hl, hp, rfl⟩
    have hlt : k < n := by
      by_cases h : k < n
      · exact h
      · have : n - k = 0 := by omega
        rw [this] at hd; simp at hd
    obtain ⟨m, hm⟩ : ∃ m, n - k = m + 1 := ⟨n - k - 1, by omega⟩
    rw [hm, List.range'_succ, List.map_cons] at hd
    injection hd with hd1 hd2
    subst hd1 hd2
    have hz : (rs.length < 16777216) = True := eq_true (by omega)
    simp_arith []
    refine wd_of (fun h => ?_) (fun h => ?_)
    · have h := of_decide_eq_true h
      have h0 : 0 < ns.length := by omega
      have h1 : (0 < (ns.length : Int)) = True := eq_true (by omega)
      simp_arith [h1, e1 k h0, m1, m2, m3, hz]
      refine ⟨k + 1, rs ++ [_], _, _, _, by rw [show n - (k + 1) = m by omega], by omega, by simp [hl], fun r hr => ?_, by rw [List.map_append]; rfl⟩
      rcases List.mem_append.mp hr with hr | hr
      · exact hp r hr
      · simp only [List.mem_cons, List.not_mem_nil, or_false] at hr
        subst hr
        exact Int.emod_nonneg _ (by decide)
    · simp_arith [m1, m2, m3, hz]
      refine ⟨k + 1, rs ++ [_], _, _, _, by rw [show n - (k + 1) = m by omega], by omega, by simp [hl], fun r hr => ?_, by rw [List.map_append]; rfl⟩
      rcases List.mem_append.mp hr with hr | hr
      · exact hp r hr
      · simp only [List.mem_cons, List.not_mem_nil, or_false] at hr
        subst hr
        exact Int.emod_nonneg _ (by decide)
  · rintro s ⟨k, rs, a, x4, x5, hd, hk, hl, hp, rfl⟩
    have hkn : k = n := by
      by_cases h : k < n
      · obtain ⟨m, hm⟩ : ∃ m, n - k = m + 1 := ⟨n - k - 1, by omega⟩
        rw [hm, List.range'_succ] at hd; simp at hd
      · omega
    simp_arith []
    exact Exists.intro rs (And.intro (hl.trans hkn) (And.intro hp rfl))
theorem row_ok (ns : List Int) (n : Nat) (x : D) (hx : dR1 [x] = some (rngD 0 n)) (hn : n ≤ 1000) : ∃ rs : List Int, rs.length = n ∧ (∀ r ∈ rs, 0 ≤ r) ∧ F__law_row [.d (.lst (ns.map D.int)), .d x] = some (.v (.ol (rs.map D.int)), [.d (.lst (ns.map D.int)), .d x]) := by
  obtain ⟨o, rs2, e, rs, h1, h2, h3, h4⟩ := wf_get (row_wf ns n x hx hn)
  rw [h3, h4] at e
  exact ⟨rs, h1, h2, e⟩
end K31
set_option Elab.async false
set_option linter.all false
set_option maxRecDepth 100000
set_option maxHeartbeats 4000000
namespace K31
open PySem hiding ret plain
open Fz hiding tb nx
structure Mk (m : Str) : Prop where
  head : ∃ c r, m.cps.toList = c :: r ∧ c ∈ sml
  all : ∀ c ∈ m.cps.toList, c ∈ sml ∨ c ∈ fig
  len : m.length ≤ 8
  new : m ∉ kw
theorem len_list (m : Str) : m.length = m.cps.toList.length := by show m.cps.size = _; simp
theorem Mk.b {m : Str} (h : Mk m) : markB (.str m) = true := by
  obtain ⟨c, r, hl, hc⟩ := h.head
  have h8 := h.len
  rw [len_list] at h8
  show markL m.cps.toList = true
  unfold markL
  rw [← W_of m, decide_eq_true h8, decide_eq_false h.new, List.all_eq_true.mpr (fun c hc => by rcases h.all c hc with h | h <;> simp [h])]
  rw [hl, decide_eq_true (show 1 ≤ (c :: r).length by simp)]
  show (true && true && (decide (c ∈ sml) && _)) = true
  rw [decide_eq_true hc]; rfl
def sg : List Nat := sml ++ fig
theorem sg_W : ("abcdefghijklmnopqrstuvwxyz0123456789" : Str) = W sg := by decide +kernel
theorem fx_W : ("0123456789x" : Str) = W (fig ++ [120]) := by decide +kernel
def Al (l : List Nat) : Prop := ∃ h t, l = h :: t ∧ h ∈ sml ∧ ∀ x ∈ t, x ∈ sg
theorem Al.len {l : List Nat} (h : Al l) : 0 < l.length := by obtain ⟨a, t, rfl, _⟩ := h; simp
theorem sml_sg {x : Nat} (h : x ∈ sml) : x ∈ sg := List.mem_append_left _ h
theorem Al.app {l r : List Nat} (h : Al l) (hr : ∀ x ∈ r, x ∈ sg) : Al (l ++ r) := by
  obtain ⟨a, t, rfl, h1, h2⟩ := h
  refine ⟨a, t ++ r, rfl, h1, fun y hy => ?_⟩
  rcases List.mem_append.mp hy with hy | hy
  · exact h2 y hy
  · exact hr y hy
theorem Al.take {l : List Nat} (h : Al l) (k : Nat) : Al (l.take (k + 1)) := by
  obtain ⟨a, t, rfl, h1, h2⟩ := h
  exact ⟨a, t.take k, rfl, h1, fun y hy => h2 y (List.mem_of_mem_take hy)⟩
theorem Al.set {l : List Nat} (h : Al l) {k x : Nat} (hx : x ∈ sg) (h0 : k = 0 → x ∈ sml) : Al (l.set k x) := by
  obtain ⟨a, t, rfl, h1, h2⟩ := h
  cases k with
  | zero => exact ⟨x, t, rfl, h0 rfl, h2⟩
  | succ k =>
    refine ⟨a, t.set k x, rfl, h1, fun y hy => ?_⟩
    rcases List.mem_or_eq_of_mem_set hy with hy | rfl
    · exact h2 y hy
    · exact hx
def mkOf (w : Str) : Str := if w ∈ kw then w ++ ("x" : Str) else w
theorem mk_of {l : List Nat} (h : Al l) (hl : l.length ≤ 8) : Mk (mkOf (W l)) := by
  have hk : ∀ w ∈ kw, (w ++ ("x" : Str)).length ≤ 8 ∧ (w ++ ("x" : Str)) ∉ kw := by decide +kernel
  obtain ⟨a, t, rfl, h1, h2⟩ := h
  unfold mkOf
  split
  · rename_i hw
    obtain ⟨g1, g2⟩ := hk _ hw
    have e0 : ("x" : Str) = W [120] := by decide +kernel
    rw [e0] at g1 g2 ⊢
    rw [W_app] at g1 g2 ⊢
    refine ⟨⟨a, t ++ [120], by rw [W_list]; rfl, h1⟩, fun c hc => ?_, g1, g2⟩
    rw [W_list] at hc
    have : c ∈ sg := by
      rcases List.mem_append.mp hc with hc | hc
      · rcases List.mem_cons.mp hc with rfl | hc
        · exact sml_sg h1
        · exact h2 c hc
      · simp at hc; subst hc; decide +kernel
    exact List.mem_append.mp this
  · rename_i hw
    refine ⟨⟨a, t, by rw [W_list], h1⟩, fun c hc => ?_, by rw [W_len]; exact hl, hw⟩
    rw [W_list] at hc
    have : c ∈ sg := by
      rcases List.mem_cons.mp hc with rfl | hc
      · exact sml_sg h1
      · exact h2 c hc
    exact List.mem_append.mp this
theorem lkept_ok : F__law_kept [] = some (.v (.ol (kw.map D.str)), []) := by
  refine wf_eq ?_
  unfold F__law_kept
  simp_arith [b__law_kept, gCat]
  rfl
theorem join_W : ∀ cs : List Nat, Txt.join "" (cs.map fun c => W [c]) = W cs := by
  have e : ("" : Str) = W [] := by decide +kernel
  intro cs
  rw [txt_join, e]
  induction cs with
  | nil => rfl
  | cons c r ih =>
    cases r with
    | nil => rfl
    | cons d r =>
      show W [c] ++ W [] ++ Str.join (W []) ((d :: r).map fun c => W [c]) = _
      rw [ih, W_app, W_app]; rfl
theorem joinD (cs : List Nat) (h : cs.length ≤ 100) : dJoin (.str "") [.lst (cs.map fun c => D.str (W [c]))] = some (.str (W cs)) := by
  have e1 : dStrs (cs.map fun c => D.str (W [c])) = some (cs.map fun c => W [c]) := by
    have := dStrs_map (cs.map fun c => W [c])
    rw [List.map_map] at this
    exact this
  have e2 : ((cs.map fun c => W [c]).map (·.length)).sum = cs.length := by
    rw [List.map_map]
    induction cs with
    | nil => rfl
    | cons c r ih => simp only [List.map_cons, List.sum_cons, List.length_cons, Function.comp, W_len] at ih ⊢; have := ih (by simp at h; omega) (by have := dStrs_map (r.map fun c => W [c]); rw [List.map_map] at this; exact this); simp at this ⊢; omega
  have e3 : ("" : Str).length = 0 := by decide +kernel
  show (dStrs (cs.map fun c => D.str (W [c]))).bind _ = _
  rw [e1]
  show (if _ then _ else _) = _
  rw [if_pos (by rw [e2, e3]; omega), join_W]
theorem cutD_to {α : Type} {xs : List α} {k : Nat} : cutD xs none (some (k : Int)) = xs.take k := by
  unfold cutD
  rw [HT.sIx_none, HT.sIx_nat, List.drop_zero, Nat.sub_zero]
  by_cases h : k ≤ xs.length
  · rw [Nat.min_eq_left h]
  · rw [Nat.min_eq_right (by omega), List.take_of_length_le (Nat.le_refl _), List.take_of_length_le (by omega)]
theorem at_sg (r : Int) : dIx (.str (W sg)) (.int (r % 36)) = some (.str (W [sg.getD (r % 36).toNat 0])) := e_ixsm (by decide) (by decide) (by decide)
theorem at_sg26 (r : Int) : dIx (.str (W sg)) (.int (r % 26)) = some (.str (W [sg.getD (r % 26).toNat 0])) := e_ixsm (by decide) (by decide) (by decide)
theorem in_sg (r : Int) : sg.getD (r % 36).toNat 0 ∈ sg := getD_mem (by have := (mod_natC (r := r) (k := 36) (by decide)).2; exact this)
theorem in_sg26 (r : Int) : sg.getD (r % 26).toNat 0 ∈ sml := by
  have h := (mod_natC (r := r) (k := 26) (by decide)).2
  have h : (r % 26).toNat < 26 := h
  have : ∀ i < 26, sg.getD i 0 ∈ sml := by decide +kernel
  exact this _ h
def sgs (b : Int) : List Nat := (List.range 8).map fun i : Nat => sg.getD ((b / 64 + 11 * (0 + (i : Int)) + b / 99991 * (0 + (i : Int))) % 36).toNat 0
def cs0 (b : Int) : List Nat := (sgs b).set 0 (sg.getD (b / 16 % 26).toNat 0)
theorem sgs_set (b : Int) : (List.map (fun i : Nat => D.str (W [sg.getD ((b / 64 + 11 * (0 + (i : Int)) + b / 99991 * (0 + (i : Int))) % 36).toNat 0])) (List.range 8)).set 0 (D.str (W [sg.getD (b / 16 % 26).toNat 0])) = (cs0 b).map fun c => D.str (W [c]) := by
  unfold cs0 sgs
  rw [List.map_set, List.map_map]; rfl
theorem cs0_ok (b : Int) : Al (cs0 b) ∧ (cs0 b).length = 8 := by
  refine ⟨⟨sg.getD (b / 16 % 26).toNat 0, (sgs b).tail, rfl, in_sg26 _, fun x hx => ?_⟩, by simp [cs0, sgs]⟩
  have : x ∈ sgs b := List.mem_of_mem_tail hx
  unfold sgs at this
  obtain ⟨i, _, rfl⟩ := List.mem_map.mp this
  exact in_sg _
theorem kw_at (q : Int) : ∃ l : List Nat, Al l ∧ l.length ≤ 7 ∧ dIx (.lst (kw.map D.str)) (.int (q % 19)) = some (.str (W l)) := by
  have h := e_ixlm (xs := kw.map D.str) (r := q) (k := 19) (by decide) (by simp [kw])
  have h2 := (mod_natC (r := q) (k := 19) (by decide)).2
  have h2 : (q % 19).toNat < 19 := h2
  have hd : ∀ i < 19, (kw.getD i "").cps.toList.length ≤ 7 ∧ (kw.getD i "").cps.toList.head? ≠ none ∧ (∀ c ∈ (kw.getD i "").cps.toList.head?, c ∈ sml) ∧ ∀ c ∈ (kw.getD i "").cps.toList, c ∈ sg := by decide +kernel
  obtain ⟨d1, d2, d3, d4⟩ := hd _ h2
  have e : (kw.map D.str).getD (q % 19).toNat .non = .str (kw.getD (q % 19).toNat "") := by
    have : (q % 19).toNat < kw.length := h2
    simp [this]
  refine ⟨(kw.getD (q % 19).toNat "").cps.toList, ?_, d1, by rw [h, e, ← W_of]⟩
  cases hl : (kw.getD (q % 19).toNat "").cps.toList with
  | nil => rw [hl] at d2; exact absurd rfl d2
  | cons a t => rw [hl] at d3 d4; exact ⟨a, t, rfl, d3 a rfl, fun x hx => d4 x (.tail _ hx)⟩
theorem fx_at (q : Int) : ∃ c ∈ sg, dIx (.str (W (fig ++ [120]))) (.int (q % 11)) = some (.str (W [c])) := by
  have h := e_ixsm (l := fig ++ [120]) (r := q) (k := 11) (by decide) (by decide) (by decide)
  have h2 := (mod_natC (r := q) (k := 11) (by decide)).2
  have h2 : (q % 11).toNat < 11 := h2
  have hd : ∀ i < 11, (fig ++ [120]).getD i 0 ∈ sg := by decide +kernel
  exact ⟨_, hd _ h2, h⟩
theorem str_dig (t : Int) (h0 : 0 ≤ t) (h : t < 26) : ∃ ds : List Nat, ds.length ≤ 2 ∧ (∀ c ∈ ds, c ∈ sg) ∧ dStr [.int t] = some (.str (W ds)) := by
  obtain ⟨n, rfl⟩ : ∃ n : Nat, t = n := ⟨t.toNat, by omega⟩
  have hd : ∀ i < 26, (Str.ofString (toString ((i : Nat) : Int))).cps.toList.length ≤ 2 ∧ ∀ c ∈ (Str.ofString (toString ((i : Nat) : Int))).cps.toList, c ∈ sg := by decide +kernel
  obtain ⟨h1, h2⟩ := hd n (by omega)
  refine ⟨_, h1, h2, ?_⟩
  simp only [dStr]
  rw [if_pos ⟨by omega, by omega⟩, ← W_of]
theorem mark_wf (b t : Int) (hb : 0 ≤ b) (ht : 0 ≤ t) (ht2 : t < 26) : wf F__law_mark [.d (.int b), .d (.int t)] fun o rs => ∃ m, Mk m ∧ o = .v (.d (.str m)) ∧ rs = [.d (.int b), .d (.int t)] := by
  have hs8 : smallI 8 = true := rfl
  have m1 : ∀ a : Int, CMulB 11 a = True := fun a => eq_true (.inl (by decide))
  unfold F__law_mark
  simp_arith [b__law_mark, sg_W, hs8]
  refine wl_map (xs := List.range 8) (fun i : Nat => D.int (0 + (i : Int))) (fun i : Nat => D.str (W [sg.getD ((b / 64 + 11 * (0 + (i : Int)) + b / 99991 * (0 + (i : Int))) % 36).toNat 0])) (by simp [szl]) (fun x hx => ?_) ?_
  · have hx : x < 8 := List.mem_range.mp hx
    have m2 : CMulB (b / 99991) (0 + (x : Int)) = True := eq_true (.inr (by omega))
    simp_arith [m1, m2, at_sg]
  · simp_arith [-n_sIf, List.length_range, at_sg26]
    rw [sgs_set]
    obtain ⟨hA, h8⟩ := cs0_ok b
    generalize cs0 b = cs at hA h8
    refine ws_cut (fun s => ∃ l x3 x6 x7, Al l ∧ l.length ≤ 8 ∧ s = [some (R.d (.int b)), some (R.d (.int t)), some (R.d (.str (W sg))), x3, some (R.d (.int (b % 4))), some (R.d (.str (W l))), x6, x7, none]) ?_ ?_
    · have c1 : ∀ k : Nat, (cs.take k).length ≤ 100 := fun k => by simp; omega
      have j1 : ∀ k : Nat, dJoin (.str "") [.lst ((cs.map fun c => D.str (W [c])).take k)] = some (.str (W (cs.take k))) := fun k => by rw [← List.map_take]; exact joinD _ (c1 k)
      obtain ⟨k1, hk1⟩ : ∃ k : Nat, 1 + t = ((k + 1 : Nat) : Int) := ⟨t.toNat, by omega⟩
      obtain ⟨k2, hk2⟩ : ∃ k : Nat, 1 + b / 7 % 7 = ((k + 1 : Nat) : Int) := ⟨(b / 7 % 7).toNat, by omega⟩
      obtain ⟨k3, hk3⟩ : ∃ k : Nat, 1 + b / 3 % 5 = ((k + 1 : Nat) : Int) := ⟨(b / 3 % 5).toNat, by omega⟩
      simp_arith []
      refine wd_of (fun h1 => ?_) (fun h1 => ?_)
      · simp_arith []
        refine wd_of (fun h2 => ?_) (fun h2 => ?_)
        · have h2 := of_decide_eq_true h2
          simp_arith [hk1, cutD_to, j1]
          exact ⟨_, _, _, _, hA.take k1, by simp; omega, rfl⟩
        · simp_arith []
          obtain ⟨l, hl, hl7, el⟩ := kw_at (b / 4)
          obtain ⟨c, hc, ec⟩ := fx_at t
          obtain ⟨d, hd2, hd, ed⟩ := str_dig t ht ht2
          have z1 : (l.length ≤ 16777216) = True := eq_true (by omega)
          have z2 : ((l.take (k2 + 1)).length + 1 ≤ 16777216) = True := eq_true (by simp; omega)
          have z3 : ((cs.take (k3 + 1)).length + d.length ≤ 16777216) = True := eq_true (by simp; omega)
          have z4 : (25 < t) = False := eq_false (by omega)
          refine wd_of (fun h3 => ?_) (fun h3 => ?_)
          · simp_arith [wf_of lkept_ok, el, hk2, e_slto, z1, fx_W, ec, z2]
            exact ⟨_, _, _, _, (hl.take k2).app (fun x hx => by simp at hx; subst hx; exact hc), by simp; omega, rfl⟩
          · simp_arith []
            refine wd_of (fun h4 => ?_) (fun h4 => ?_)
            · simp_arith [hk3, cutD_to, j1, ed, z3]
              exact ⟨_, _, _, _, (hA.take k3).app hd, by simp; omega, rfl⟩
            · obtain ⟨z, hz⟩ : ∃ z : Nat, 1 + b / 3 % 8 = ((z + 1 : Nat) : Int) := ⟨(b / 3 % 8).toNat, by omega⟩
              have hz8 : z + 1 ≤ 8 := by omega
              obtain ⟨a, ha, ea⟩ := mod_nat (b / 61) (z + 1) (by omega)
              have p1 : ((0 : Int) < ((z + 1 : Nat) : Int)) = True := eq_true (by omega)
              have ix1 : dIx (.lst [.int 36, .int 26]) (.int 0) = some (.int 36) := rfl
              have ix2 : dIx (.lst [.int 36, .int 26]) (.int 1) = some (.int 26) := rfl
              have ixa : L2.ixN 8 (a : Int) = some a := by rw [ixn_n]; simp; omega
              have st1 : ∀ x : Nat, (cs.map fun c => D.str (W [c])).set a (.str (W [x])) = (cs.set a x).map fun c => D.str (W [c]) := fun x => by rw [List.map_set]
              have j2 : ∀ x : Nat, dJoin (.str "") [.lst (((cs.set a x).map fun c => D.str (W [c])).take (z + 1))] = some (.str (W ((cs.set a x).take (z + 1)))) := fun x => by rw [← List.map_take]; exact joinD _ (by simp; omega)
              by_cases h0 : a = 0
              · subst h0
                have q1 : (((0 : Nat) : Int) = 0) = True := eq_true rfl
                simp_arith [z4, hz, p1, ea, q1, ix1, ix2, at_sg26, ixa, h8, st1, cutD_to, j2]
                exact ⟨_, _, _, _, (hA.set (k := 0) (sml_sg (in_sg26 _)) fun _ => in_sg26 _).take z, by simp; omega, rfl⟩
              · have q1 : ((a : Int) = 0) = False := eq_false (by omega)
                simp_arith [z4, hz, p1, ea, q1, ix1, ix2, at_sg, ixa, h8, st1, cutD_to, j2]
                exact ⟨_, _, _, _, (hA.set (k := a) (in_sg _) fun h => absurd h h0).take z, by simp; omega, rfl⟩
      · simp_arith []
        obtain ⟨l, hl, hl7, el⟩ := kw_at (b / 4)
        obtain ⟨c, hc, ec⟩ := fx_at t
        obtain ⟨d, hd2, hd, ed⟩ := str_dig t ht ht2
        have z1 : (l.length ≤ 16777216) = True := eq_true (by omega)
        have z2 : ((l.take (k2 + 1)).length + 1 ≤ 16777216) = True := eq_true (by simp; omega)
        have z3 : ((cs.take (k3 + 1)).length + d.length ≤ 16777216) = True := eq_true (by simp; omega)
        have z4 : (25 < t) = False := eq_false (by omega)
        refine wd_of (fun h3 => ?_) (fun h3 => ?_)
        · simp_arith [wf_of lkept_ok, el, hk2, e_slto, z1, fx_W, ec, z2]
          exact ⟨_, _, _, _, (hl.take k2).app (fun x hx => by simp at hx; subst hx; exact hc), by simp; omega, rfl⟩
        · simp_arith []
          refine wd_of (fun h4 => ?_) (fun h4 => ?_)
          · simp_arith [hk3, cutD_to, j1, ed, z3]
            exact ⟨_, _, _, _, (hA.take k3).app hd, by simp; omega, rfl⟩
          · obtain ⟨z, hz⟩ : ∃ z : Nat, 1 + b / 3 % 8 = ((z + 1 : Nat) : Int) := ⟨(b / 3 % 8).toNat, by omega⟩
            have hz8 : z + 1 ≤ 8 := by omega
            obtain ⟨a, ha, ea⟩ := mod_nat (b / 61) (z + 1) (by omega)
            have p1 : ((0 : Int) < ((z + 1 : Nat) : Int)) = True := eq_true (by omega)
            have ix1 : dIx (.lst [.int 36, .int 26]) (.int 0) = some (.int 36) := rfl
            have ix2 : dIx (.lst [.int 36, .int 26]) (.int 1) = some (.int 26) := rfl
            have ixa : L2.ixN 8 (a : Int) = some a := by rw [ixn_n]; simp; omega
            have st1 : ∀ x : Nat, (cs.map fun c => D.str (W [c])).set a (.str (W [x])) = (cs.set a x).map fun c => D.str (W [c]) := fun x => by rw [List.map_set]
            have j2 : ∀ x : Nat, dJoin (.str "") [.lst (((cs.set a x).map fun c => D.str (W [c])).take (z + 1))] = some (.str (W ((cs.set a x).take (z + 1)))) := fun x => by rw [← List.map_take]; exact joinD _ (by simp; omega)
            by_cases h0 : a = 0
            · subst h0
              have q1 : (((0 : Nat) : Int) = 0) = True := eq_true rfl
              simp_arith [z4, hz, p1, ea, q1, ix1, ix2, at_sg26, ixa, h8, st1, cutD_to, j2]
              exact ⟨_, _, _, _, (hA.set (k := 0) (sml_sg (in_sg26 _)) fun _ => in_sg26 _).take z, by simp; omega, rfl⟩
            · have q1 : ((a : Int) = 0) = False := eq_false (by omega)
              simp_arith [z4, hz, p1, ea, q1, ix1, ix2, at_sg, ixa, h8, st1, cutD_to, j2]
              exact ⟨_, _, _, _, (hA.set (k := a) (in_sg _) fun h => absurd h h0).take z, by simp; omega, rfl⟩
    · rintro s ⟨l, x3, x6, x7, hl, hl8, rfl⟩
      have z1 : (l.length + 1 ≤ 16777216) = True := eq_true (by omega)
      have hx : ("x" : Str) = W [120] := by decide +kernel
      have hm := mk_of hl hl8
      simp_arith [wf_of lkept_ok]
      refine wd_of (fun h1 => ?_) (fun h1 => ?_)
      · have h1 := of_decide_eq_true h1
        simp_arith [hx, z1]
        refine ⟨mkOf (W l), hm, ?_⟩
        unfold mkOf
        rw [if_pos h1, hx, W_app]
      · have h1 := of_decide_eq_false h1
        simp_arith []
        refine ⟨mkOf (W l), hm, ?_⟩
        unfold mkOf
        rw [if_neg h1]
end K31
set_option Elab.async false
set_option linter.all false
set_option maxRecDepth 100000
set_option maxHeartbeats 4000000
namespace K31
open PySem hiding ret plain
open Fz hiding tb nx
inductive Tr where
  | yes | no | now (m : Str) | one (w : Str) (t : Tr) | two (w : Str) (a b : Tr)
  deriving DecidableEq
def dT : Tr → D
  | .yes => .tup [.str "yes"]
  | .no => .tup [.str "no"]
  | .now m => .tup [.str "now", .str m]
  | .one w t => .tup [.str w, dT t]
  | .two w a b => .tup [.str w, dT a, dT b]
def dp : Tr → Nat
  | .one _ t => dp t + 1
  | .two _ a b => max (dp a) (dp b) + 1
  | _ => 1
theorem plain_dT : ∀ t : Tr, plain (dT t) = true
  | .yes => rfl
  | .no => rfl
  | .now _ => rfl
  | .one w t => by show (plain (.str w) && (plain (dT t) && true)) = true; rw [plain_dT t]; rfl
  | .two w a b => by show (plain (.str w) && (plain (dT a) && (plain (dT b) && true))) = true; rw [plain_dT a, plain_dT b]; rfl
theorem dep_dT : ∀ t : Tr, dep (dT t) = dp t
  | .yes => rfl
  | .no => rfl
  | .now _ => rfl
  | .one w t => by
    show max (dep (.str w)) (max (dep (dT t)) 0) + 1 = dp t + 1
    rw [dep_dT t]; show max 0 (max (dp t) 0) + 1 = _; simp
  | .two w a b => by
    show max (dep (.str w)) (max (dep (dT a)) (max (dep (dT b)) 0)) + 1 = max (dp a) (dp b) + 1
    rw [dep_dT a, dep_dT b]; show max 0 (max (dp a) (max (dp b) 0)) + 1 = _; simp
theorem cok_dT {t : Tr} (h : dp t ≤ 62) : cok (dT t) = true := by
  unfold cok
  rw [plain_dT, dep_dT, decide_eq_true (by omega)]; rfl
theorem plains_dT : ∀ ts : List Tr, plains (ts.map dT) = true
  | [] => rfl
  | t :: r => by show (plain (dT t) && plains (r.map dT)) = true; rw [plain_dT, plains_dT r]; rfl
theorem deps_dT : ∀ (ts : List Tr) (n : Nat), (∀ t ∈ ts, dp t ≤ n) → deps (ts.map dT) ≤ n
  | [], n, _ => Nat.zero_le _
  | t :: r, n, h => by
    show max (dep (dT t)) (deps (r.map dT)) ≤ n
    have a := h t (.head _)
    have b := deps_dT r n fun x hx => h x (.tail _ hx)
    rw [dep_dT]; omega
theorem cok_ts {ts : List Tr} (h : ∀ t ∈ ts, dp t ≤ 62) : cok (.lst (ts.map dT)) = true := by
  unfold cok
  have := deps_dT ts 62 h
  rw [show plain (.lst (ts.map dT)) = true from plains_dT ts, show dep (.lst (ts.map dT)) = deps (ts.map dT) + 1 from rfl, decide_eq_true (by omega)]; rfl
theorem sm2 {a b c d : D} : same (.tup [a, b]) (.tup [c, d]) = (same a c && (same b d && true)) := rfl
theorem sm3 {a b c d e f : D} : same (.tup [a, b, e]) (.tup [c, d, f]) = (same a c && (same b d && (same e f && true))) := rfl
theorem sm12 {a c d : D} : same (.tup [a]) (.tup [c, d]) = false := by show (_ && false) = _; simp
theorem sm21 {a c d : D} : same (.tup [c, d]) (.tup [a]) = false := by show (_ && false) = _; simp
theorem smS {a b : Str} : same (.str a) (.str b) = decide (a = b) := by
  show (a == b) = _
  by_cases h : a = b
  · subst h; simp
  · rw [decide_eq_false h]; exact beq_eq_false_iff_ne.mpr h
theorem smT {a : Str} {t : Tr} : same (.str a) (dT t) = false := by cases t <;> rfl
theorem smT' {a : Str} {t : Tr} : same (dT t) (.str a) = false := by cases t <;> rfl
theorem same_dT : ∀ a b : Tr, same (dT a) (dT b) = decide (a = b) := by
  intro a
  induction a with
  | yes => intro b; cases b <;> first | decide +kernel | (show same (.tup [_]) (.tup [_, _]) = _; rw [sm12]; simp) | (show (_ && false) = _; simp)
  | no => intro b; cases b <;> first | decide +kernel | (show same (.tup [_]) (.tup [_, _]) = _; rw [sm12]; simp) | (show (_ && false) = _; simp)
  | now m =>
    intro b
    cases b with
    | yes => show same (.tup [_, _]) (.tup [_]) = _; rw [sm21]; simp
    | no => show same (.tup [_, _]) (.tup [_]) = _; rw [sm21]; simp
    | now n => show same (.tup [_, _]) (.tup [_, _]) = _; rw [sm2, smS, smS]; simp
    | one w t => show same (.tup [_, _]) (.tup [_, _]) = _; rw [sm2, smT]; simp
    | two w t u => show (_ && (_ && false)) = _; simp
  | one w t ih =>
    intro b
    cases b with
    | yes => show (_ && false) = _; simp
    | no => show (_ && false) = _; simp
    | now n => show same (.tup [_, _]) (.tup [_, _]) = _; rw [sm2, smT']; simp
    | one v u => show same (.tup [_, _]) (.tup [_, _]) = _; rw [sm2, smS, ih]; by_cases h1 : w = v <;> by_cases h2 : t = u <;> simp [h1, h2]
    | two w t u => show (_ && (_ && false)) = _; simp
  | two w t u iht ihu =>
    intro b
    cases b with
    | yes => show (_ && false) = _; simp
    | no => show (_ && false) = _; simp
    | now n => show (_ && (_ && false)) = _; simp
    | one v x => show (_ && (_ && false)) = _; simp
    | two v x y => show same (.tup [_, _, _]) (.tup [_, _, _]) = _; rw [sm3, smS, iht, ihu]; by_cases h1 : w = v <;> by_cases h2 : t = x <;> by_cases h3 : u = y <;> simp [h1, h2, h3]
theorem any_dT (t : Tr) : ∀ ts : List Tr, ((ts.map dT).any fun z => same z (dT t)) = decide (t ∈ ts)
  | [] => rfl
  | x :: r => by
    rw [List.map_cons, List.any_cons, any_dT t r, same_dT]
    by_cases h : x = t
    · subst h; simp
    · simp [h, Ne.symm h]
theorem nin_dT {t : Tr} {ts : List Tr} (h : dp t ≤ 62) (hs : ∀ t ∈ ts, dp t ≤ 62) : dNotIn (dT t) (.lst (ts.map dT)) = some (.bl (!decide (t ∈ ts))) := by
  have : dInB (dT t) (.lst (ts.map dT)) = some (decide (t ∈ ts)) := by
    have e : dInB (dT t) (.lst (ts.map dT)) = if cok (dT t) && cok (.lst (ts.map dT)) then some ((ts.map dT).any fun z => same z (dT t)) else none := by cases t <;> rfl
    rw [e, cok_dT h, cok_ts hs, any_dT]; rfl
  unfold dNotIn; rw [this]; rfl
def ixT (t : Tr) (ts : List Tr) : Nat := (ts.findIdx? fun z => decide (z = t)).getD 0
theorem find_dT (t : Tr) : ∀ ts : List Tr, ((ts.map dT).findIdx? fun z => same z (dT t)) = ts.findIdx? fun z => decide (z = t)
  | [] => rfl
  | x :: r => by
    rw [List.map_cons, List.findIdx?_cons, List.findIdx?_cons, same_dT, find_dT t r]
theorem index_dT {t : Tr} {ts : List Tr} (h : dp t ≤ 62) (hs : ∀ t ∈ ts, dp t ≤ 62) (hm : t ∈ ts) : dLIndex (.lst (ts.map dT)) [dT t] = some (.int (ixT t ts : Nat)) ∧ ixT t ts < ts.length := by
  have hf : ∃ i, (ts.findIdx? fun z => decide (z = t)) = some i ∧ i < ts.length := by
    cases e : ts.findIdx? fun z => decide (z = t) with
    | none => have := List.findIdx?_eq_none_iff.mp e t hm; simp at this
    | some i => exact ⟨i, rfl, (List.findIdx?_eq_some_iff_getElem.mp e).1⟩
  obtain ⟨i, e, hi⟩ := hf
  have e2 : ixT t ts = i := by unfold ixT; rw [e]; rfl
  refine ⟨?_, by rw [e2]; exact hi⟩
  show (if (cok (.lst (ts.map dT)) && cok (dT t)) = true then ((ts.map dT).findIdx? fun z => same z (dT t)).map fun i => D.int (i : Nat) else none) = _
  rw [cok_dT h, cok_ts hs, if_pos (show (true && true) = true from rfl), find_dT, e, e2]; rfl
theorem imm_dT : ∀ t : Tr, imm (dT t) = true
  | .yes => rfl
  | .no => rfl
  | .now _ => rfl
  | .one w t => by show (imm (.str w) && (imm (dT t) && true)) = true; rw [imm_dT t]; rfl
  | .two w a b => by show (imm (.str w) && (imm (dT a) && (imm (dT b) && true))) = true; rw [imm_dT a, imm_dT b]; rfl
end K31
set_option Elab.async false
set_option linter.all false
set_option maxRecDepth 100000
set_option maxHeartbeats 4000000
namespace K31
open PySem hiding ret plain
open Fz hiding tb nx
def Pl : Tr → Prop
  | .one w t => (w = "not" ∨ w = "next" ∨ w = "before" ∨ w = "early") ∧ Pl t
  | .two w a b => (w = "and" ∨ w = "or" ∨ w = "until" ∨ w = "since" ∨ w = "frees" ∨ w = "held") ∧ Pl a ∧ Pl b
  | _ => True
def lk : Tr → Bool
  | .one w _ => decide (w ≠ "not")
  | .two w _ _ => decide (w ≠ "and" ∧ w ≠ "or")
  | _ => false
def subs : Tr → List Tr
  | .one w t => .one w t :: subs t
  | .two w a b => .two w a b :: (subs a ++ subs b)
  | t => [t]
theorem sub_self (t : Tr) : t ∈ subs t := by cases t <;> simp [subs]
def bT (l : List Bool) : D := .tup (l.map D.bl)
def rd (mm : Str → Bool) (lb gs : List Bool) (ps : List Tr) : Tr → Bool
  | .yes => true
  | .no => false
  | .now m => mm m
  | .one w t => if w = "not" then !rd mm lb gs ps t else if w = "next" then gs.getD (ixT (.one w t) ps) false else lb.getD (ixT (.one w t) ps) false
  | .two w a b => if w = "and" then rd mm lb gs ps a && rd mm lb gs ps b else if w = "or" then rd mm lb gs ps a || rd mm lb gs ps b
    else if w = "until" then rd mm lb gs ps b || (rd mm lb gs ps a && gs.getD (ixT (.two w a b) ps) false)
    else if w = "frees" then rd mm lb gs ps b && (rd mm lb gs ps a || gs.getD (ixT (.two w a b) ps) false)
    else if w = "since" then rd mm lb gs ps b || (rd mm lb gs ps a && lb.getD (ixT (.two w a b) ps) false)
    else rd mm lb gs ps b && (rd mm lb gs ps a || lb.getD (ixT (.two w a b) ps) false)
structure Ct (M : D) (mm : Str → Bool) (lb gs : List Bool) (ps : List Tr) : Prop where
  hm : ∀ m, dIn (.str m) M = some (.bl (mm m))
  im : imm M = true
  ll : lb.length = ps.length
  lg : gs.length = ps.length
  hp : ∀ t ∈ ps, dp t ≤ 39
structure Kn (ps : List Tr) (t : Tr) : Prop where
  pl : Pl t
  dp : dp t ≤ 39
  ps : ∀ s ∈ subs t, lk s = true → s ∈ ps
theorem Kn.one {ps : List Tr} {w : Str} {t : Tr} (h : Kn ps (.one w t)) : Kn ps t := ⟨h.pl.2, by have h2 := h.dp; simp only [K31.dp] at h2; omega, fun s hs => h.ps s (.tail _ hs)⟩
theorem Kn.l {ps : List Tr} {w : Str} {a b : Tr} (h : Kn ps (.two w a b)) : Kn ps a := ⟨h.pl.2.1, by have h2 := h.dp; simp only [K31.dp] at h2; omega, fun s hs => h.ps s (.tail _ (List.mem_append_left _ hs))⟩
theorem Kn.r {ps : List Tr} {w : Str} {a b : Tr} (h : Kn ps (.two w a b)) : Kn ps b := ⟨h.pl.2.2, by have h2 := h.dp; simp only [K31.dp] at h2; omega, fun s hs => h.ps s (.tail _ (List.mem_append_right _ hs))⟩
section
variable {M : D} {mm : Str → Bool} {lb gs : List Bool} {ps : List Tr}
theorem ix_bT {l : List Bool} {k : Nat} (h : k < l.length) : dIx (bT l) (.int (k : Int)) = some (.bl (l.getD k false)) := by
  unfold bT
  rw [e_ixtn]
  simp [h]
theorem Ct.ix (C : Ct M mm lb gs ps) {t : Tr} (h : Kn ps t) (hl : lk t = true) : dLIndex (.lst (ps.map dT)) [dT t] = some (.int (ixT t ps : Nat)) ∧ dIx (bT lb) (.int (ixT t ps : Nat)) = some (.bl (lb.getD (ixT t ps) false)) ∧ dIx (bT gs) (.int (ixT t ps : Nat)) = some (.bl (gs.getD (ixT t ps) false)) := by
  obtain ⟨a, b⟩ := index_dT (t := t) (ts := ps) (by have := h.dp; omega) (fun x hx => by have := C.hp x hx; omega) (h.ps t (sub_self t) hl)
  exact ⟨a, ix_bT (by rw [C.ll]; exact b), ix_bT (by rw [C.lg]; exact b)⟩
def ar (M : D) (lb gs : List Bool) (ps : List Tr) (t : Tr) : List R := [.d (dT t), .d M, .d (bT lb), .d (bT gs), .d (.lst (ps.map dT))]
theorem lreads_ok (C : Ct M mm lb gs ps) : ∀ (t : Tr) (n : Nat), dp t ≤ n → Kn ps t → F__law_reads n (ar M lb gs ps t) = some (.v (.d (.bl (rd mm lb gs ps t))), ar M lb gs ps t) := by
  intro t
  induction t with
  | yes => intro n hn hk; cases n with | zero => simp [dp] at hn | succ n => exact wf_eq (by show wf (fnOf _ _ _ (b__law_reads (F__law_reads n))) _ _; show wf _ [.d (.tup [.str "yes"]), _, _, _, _] _; simp_arith [b__law_reads, wn_now, wn_yes, wn_no, wn_not, wn_next, wn_before, wn_early, wn_soon, wn_ever, wn_once, wn_sofar, wn_again, wn_settles, wn_and, wn_or, wn_then, wn_until, wn_since, wn_frees, wn_held, eq_self, e_in2, e_in2l]; exact ⟨rfl, rfl⟩)
  | no => intro n hn hk; cases n with | zero => simp [dp] at hn | succ n => exact wf_eq (by show wf (fnOf _ _ _ (b__law_reads (F__law_reads n))) _ _; show wf _ [.d (.tup [.str "no"]), _, _, _, _] _; simp_arith [b__law_reads, wn_now, wn_yes, wn_no, wn_not, wn_next, wn_before, wn_early, wn_soon, wn_ever, wn_once, wn_sofar, wn_again, wn_settles, wn_and, wn_or, wn_then, wn_until, wn_since, wn_frees, wn_held, eq_self, e_in2, e_in2l]; exact ⟨rfl, rfl⟩)
  | now m =>
    intro n hn hk
    cases n with
    | zero => simp [dp] at hn
    | succ n =>
      exact wf_eq (by show wf (fnOf _ _ _ (b__law_reads (F__law_reads n))) _ _; show wf _ [.d (.tup [.str "now", .str m]), _, _, _, _] _; simp_arith [b__law_reads, wn_now, wn_yes, wn_no, wn_not, wn_next, wn_before, wn_early, wn_soon, wn_ever, wn_once, wn_sofar, wn_again, wn_settles, wn_and, wn_or, wn_then, wn_until, wn_since, wn_frees, wn_held, eq_self, e_in2, e_in2l, C.hm]; exact ⟨rfl, rfl⟩)
  | one w t ih =>
    intro n hn hk
    cases n with
    | zero => simp [dp] at hn
    | succ n =>
      have e := ih n (by simp only [dp] at hn; omega) hk.one
      have h39 := hk.dp
      refine wf_eq ?_
      show wf (fnOf _ _ _ (b__law_reads (F__law_reads n))) [.d (.tup [.str w, dT t]), .d M, .d (bT lb), .d (bT gs), .d (.lst (ps.map dT))] _
      have ed : dT (.one w t) = .tup [.str w, dT t] := rfl
      unfold ar at e
      obtain ⟨hw, _⟩ := id hk.pl
      rcases hw with rfl | rfl | rfl | rfl
      · simp_arith [b__law_reads, wn_now, wn_yes, wn_no, wn_not, wn_next, wn_before, wn_early, wn_soon, wn_ever, wn_once, wn_sofar, wn_again, wn_settles, wn_and, wn_or, wn_then, wn_until, wn_since, wn_frees, wn_held, eq_self, e_in2, e_in2l, wf_of e]
        exact ⟨rfl, rfl⟩
      · obtain ⟨i1, i2, i3⟩ := C.ix hk rfl
        rw [ed] at i1
        simp_arith [b__law_reads, wn_now, wn_yes, wn_no, wn_not, wn_next, wn_before, wn_early, wn_soon, wn_ever, wn_once, wn_sofar, wn_again, wn_settles, wn_and, wn_or, wn_then, wn_until, wn_since, wn_frees, wn_held, eq_self, e_in2, e_in2l, i1, i3]
        exact ⟨rfl, rfl⟩
      · obtain ⟨i1, i2, i3⟩ := C.ix hk rfl
        rw [ed] at i1
        simp_arith [b__law_reads, wn_now, wn_yes, wn_no, wn_not, wn_next, wn_before, wn_early, wn_soon, wn_ever, wn_once, wn_sofar, wn_again, wn_settles, wn_and, wn_or, wn_then, wn_until, wn_since, wn_frees, wn_held, eq_self, e_in2, e_in2l, i1, i2]
        exact ⟨rfl, rfl⟩
      · obtain ⟨i1, i2, i3⟩ := C.ix hk rfl
        rw [ed] at i1
        simp_arith [b__law_reads, wn_now, wn_yes, wn_no, wn_not, wn_next, wn_before, wn_early, wn_soon, wn_ever, wn_once, wn_sofar, wn_again, wn_settles, wn_and, wn_or, wn_then, wn_until, wn_since, wn_frees, wn_held, eq_self, e_in2, e_in2l, i1, i2]
        exact ⟨rfl, rfl⟩
  | two w a b iha ihb =>
    intro n hn hk
    cases n with
    | zero => simp [dp] at hn
    | succ n =>
      have ea := iha n (by simp only [dp] at hn; omega) hk.l
      have eb := ihb n (by simp only [dp] at hn; omega) hk.r
      refine wf_eq ?_
      show wf (fnOf _ _ _ (b__law_reads (F__law_reads n))) [.d (.tup [.str w, dT a, dT b]), .d M, .d (bT lb), .d (bT gs), .d (.lst (ps.map dT))] _
      have ed : dT (.two w a b) = .tup [.str w, dT a, dT b] := rfl
      unfold ar at ea eb
      obtain ⟨hw, _⟩ := id hk.pl
      have fin : ∀ (x : Bool), rd mm lb gs ps (.two w a b) = x → (∀ rs, rs = ar M lb gs ps (.two w a b) → ((Oc.v (R.d (.bl x)) : Oc R) = .v (.d (.bl (rd mm lb gs ps (.two w a b)))) ∧ rs = ar M lb gs ps (.two w a b))) := fun x h rs hr => ⟨by rw [h], hr⟩
      rcases hw with rfl | rfl | rfl | rfl | rfl | rfl
      · cases hx : rd mm lb gs ps a <;> cases hy : rd mm lb gs ps b <;> rw [hx] at ea <;> rw [hy] at eb <;> (simp_arith [b__law_reads, wn_now, wn_yes, wn_no, wn_not, wn_next, wn_before, wn_early, wn_soon, wn_ever, wn_once, wn_sofar, wn_again, wn_settles, wn_and, wn_or, wn_then, wn_until, wn_since, wn_frees, wn_held, eq_self, e_in2, e_in2l, wf_of ea, wf_of eb]; exact fin _ (by unfold rd; rw [hx, hy]; rfl) _ rfl)
      · cases hx : rd mm lb gs ps a <;> cases hy : rd mm lb gs ps b <;> rw [hx] at ea <;> rw [hy] at eb <;> (simp_arith [b__law_reads, wn_now, wn_yes, wn_no, wn_not, wn_next, wn_before, wn_early, wn_soon, wn_ever, wn_once, wn_sofar, wn_again, wn_settles, wn_and, wn_or, wn_then, wn_until, wn_since, wn_frees, wn_held, eq_self, e_in2, e_in2l, wf_of ea, wf_of eb]; exact fin _ (by unfold rd; rw [hx, hy]; rfl) _ rfl)
      all_goals
        obtain ⟨i1, i2, i3⟩ := C.ix hk rfl
        rw [ed] at i1
        cases hx : rd mm lb gs ps a <;> cases hy : rd mm lb gs ps b <;> rw [hx] at ea <;> rw [hy] at eb <;> (simp_arith [b__law_reads, wn_now, wn_yes, wn_no, wn_not, wn_next, wn_before, wn_early, wn_soon, wn_ever, wn_once, wn_sofar, wn_again, wn_settles, wn_and, wn_or, wn_then, wn_until, wn_since, wn_frees, wn_held, eq_self, e_in2, e_in2l, wf_of ea, wf_of eb, i1, i2, i3]; exact fin _ (by unfold rd; rw [hx, hy]; rfl) _ rfl)
end
end K31
local macro_rules | `(tactic| simp_arith only [$args,*]) => `(tactic| simp only [↓Fz.n_ret, ↓Fz.n_opt, ↓Fz.n_eUn, ↓Fz.n_eBin, ↓Fz.n_eCons, ↓Fz.n_eNil, ↓Fz.n_eOp, ↓Fz.n_eTup, ↓Fz.n_rD, ↓Fz.n_rOp, ↓Fz.n_rLst, ↓Fz.n_eFz, ↓Fz.n_eVar, ↓Fz.n_eFull, ↓Fz.n_tFull, ↓Fz.n_rFull, ↓Fz.n_eTst, ↓Fz.n_eNot, ↓Fz.n_cAnd, ↓Fz.n_cOr, ↓Fz.n_cNot, ↓Fz.n_cYes, ↓Fz.n_eAnd, ↓Fz.n_eOr, ↓Fz.n_eChain, ↓Fz.n_eIf, ↓Fz.n_rIf, ↓Fz.n_oNone, ↓Fz.n_oSome, ↓Fz.n_eSl, ↓Fz.n_rSlL', ↓Fz.n_eMt, ↓Fz.n_rMt, ↓Fz.n_rBin, ↓Fz.n_rMv, ↓Fz.n_iLst, ↓Fz.n_iTupl, ↓Fz.n_iSeq, ↓Fz.n_iText, ↓Fz.n_iR1, ↓Fz.n_iR2, ↓Fz.n_iEn, ↓Fz.n_aNil, ↓Fz.n_aV, ↓Fz.n_aO, ↓Fz.n_callF, ↓Fz.n_rCall, ↓Fz.n_rMeth, ↓Fz.n_rMakeN, ↓Fz.n_fnOf, ↓Fz.n_sNext, ↓Fz.n_sBrk, ↓Fz.n_sCt, ↓Fz.n_sRetN, ↓Fz.n_sSeq, ↓Fz.n_sSet, ↓Fz.n_sAsg, ↓Fz.n_sIf, ↓Fz.n_sRet, ↓Fz.n_sDrop, ↓Fz.n_sFor, ↓Fz.n_sApp', ↓Fz.n_sExtA, ↓Fz.n_sSub, ↓Fz.n_eFld, ↓Fz.n_rLc, ↓Fz.n_eMaxD, ↓Fz.n_eVarO, ↓Fz.n_rMake, ↓Fz.n_rMethX, ↓Fz.n_eIxO, ↓Fz.n_iR3, ↓Fz.n_rRev, ↓Fz.n_sRaise, ↓Fz.n_sTry, ↓Fz.n_sAug, ↓Fz.n_rDct0, ↓Fz.n_pName, ↓Fz.n_pIx, ↓Fz.n_pFld, ↓Fz.n_aHid, ↓Fz.n_aFull, ↓Fz.n_aNo, ↓Fz.n_eMut, ↓Fz.n_sSetA, ↓Fz.n_aRNil, ↓Fz.n_aRCons, ↓Fz.n_rLstR, ↓Fz.n_rTupR, ↓Fz.n_eFStr, ↓Fz.n_iDk, ↓Fz.n_iDv, ↓Fz.n_iDi, ↓Fz.n_rFullO, ↓Fz.n_fnOfC, ↓Fz.n_cRet, ↓Fz.n_cLam, ↓Fz.n_cIf, ↓Fz.n_cSeq, ↓Fz.n_rCallV, ↓Fz.n_rCallE, ↓Fz.n_eLam, Fz.kMeX_v, Fz.kMeX_x, Fz.kR3_v, Fz.kIxO_v, Fz.kIxO_x, Fz.ixR_ol, Fz.ixR_d, Fz.kRev_v, Fz.kRev_x, Fz.mkE_x, Fz.gRev_l, Fz.kTrS_rt, Fz.kTrS_nx, Fz.kTrS_ct, Fz.kTrS_nx0, Fz.uTr_f, Fz.uTr_t, Fz.uTr_t0, Fz.kTr_x, Fz.kTr_nx, Fz.kTr_rt, Fz.kAug2_a, Fz.kAug_v, Fz.kAug_x, Fz.gD_d, Fz.kAug1_a, Fz.dAddIS_i, Fz.dIsq_e, Fz.mkE_v, Fz.kMkU_a, Fz.kMk_v, Fz.upA_o, Fz.upA_v, Fz.wc_t, Fz.wd_t, Fz.wd_f, Fz.kU_a, Fz.wo_some, Fz.wo_none, Fz.wo_ifn, Fz.wpe_eq, Fz.wse_eq, Fz.kr_a, Fz.krl_a, Fz.ku_a, Fz.kUn_v, Fz.kUn_x, Fz.kBin2_v, Fz.kBin2_x, Fz.kBin1_v, Fz.kBin1_x, Fz.kCons2_v, Fz.kCons2_x, Fz.kCons1_v, Fz.kCons1_x, Fz.kOp_v, Fz.kOp_x, Fz.kTup_v, Fz.kTup_x, Fz.kD_v, Fz.kD_x, Fz.kROp_v, Fz.kROp_x, Fz.kLst_v, Fz.kLst_x, Fz.kFz_v, Fz.kFz_x, Fz.kFull_v, Fz.kFull_x, Fz.kTFull_v, Fz.kTFull_x, Fz.n_rfx_ol, Fz.n_rfx_d, Fz.rfx_x, Fz.kTst_v, Fz.kTst_x, Fz.krn_a, Fz.kNot_v, Fz.kNot_x, Fz.wAnd_t, Fz.wAnd_f, Fz.kAnd_v, Fz.kAnd_x, Fz.wOr_t, Fz.wOr_f, Fz.kOr_v, Fz.kOr_x, Fz.kCNot_v, Fz.kCNot_x, Fz.wEAnd_t, Fz.wEAnd_f, Fz.kEAnd_v, Fz.kEAnd_x, Fz.wEOr_t, Fz.wEOr_f, Fz.kEOr_v, Fz.kEOr_x, Fz.tb_n, Fz.wChain_t, Fz.wChain_f, Fz.kCh3_a, Fz.kCh2_v, Fz.kCh2_x, Fz.kCh1_v, Fz.kCh1_x, Fz.wEIf_t, Fz.wEIf_f, Fz.kEIf_v, Fz.kEIf_x, Fz.wRIf_t, Fz.wRIf_f, Fz.kRIf_v, Fz.kRIf_x, Fz.kso_a, Fz.kSome_v, Fz.kSome_x, Fz.kSl3_v, Fz.kSl3_x, Fz.kSl2_v, Fz.kSl2_x, Fz.kSl1_v, Fz.kSl1_x, Fz.kcut_a, Fz.kRSl3_v, Fz.kRSl3_x, Fz.kRSl2_v, Fz.kRSl2_x, Fz.kRSl1_v, Fz.kRSl1_x, Fz.kMt2_v, Fz.kMt2_x, Fz.kMtu_a, Fz.kMt1_v, Fz.kMt1_x, Fz.kRMt2_v, Fz.kRMt2_x, Fz.kRMtu_a, Fz.kRMt1_v, Fz.kRMt1_x, Fz.kRBin2_v, Fz.kRBin2_x, Fz.kRBin1_v, Fz.kRBin1_x, Fz.kILst_v, Fz.kILst_x, Fz.kITup_v, Fz.kITup_x, Fz.kISeq_v, Fz.kISeq_x, Fz.ktx_a, Fz.kIText_v, Fz.kIText_x, Fz.kIL_v, Fz.kIL_x, Fz.kAV2_v, Fz.kAV2_x, Fz.kAV1_v, Fz.kAV1_x, Fz.kAO_v, Fz.kAO_x, Fz.isq_s, Fz.kAOu_a, Fz.kEnd2_a, Fz.kEnd_a, Fz.kCallU_a, Fz.kCall_a, Fz.kRcu_a, Fz.kRc_v, Fz.kRc_x, Fz.kMcu_a, Fz.kMc_v, Fz.kMc_x, Fz.kMf_a, Fz.kMo_a, Fz.kMeth_v, Fz.kFnU_a, Fz.ko_a, Fz.n_oend_rt, Fz.n_oend_nx, Fz.n_oend_x, Fz.kSeq_nx, Fz.kSeq_bk, Fz.kSeq_ct, Fz.kSeq_rt, Fz.kSeq_x, Fz.kSet_v, Fz.kSet_x, Fz.knx_a, Fz.kAsg_v, Fz.kAsg_x, Fz.wIf_t, Fz.wIf_f, Fz.kIf_v, Fz.kIf_x, Fz.kRet_v, Fz.kRet_x, Fz.kDrop_v, Fz.kDrop_x, Fz.kFor_v, Fz.kFor_x, Fz.kSt_a, Fz.kApp2_a, Fz.kApp_v, Fz.kApp_x, Fz.kAppU_a, Fz.kExt3_a, Fz.kExt2_a, Fz.kExt_v, Fz.kExt_x, Fz.kExtU_a, Fz.kSub5_a, Fz.kSub4_a, Fz.kSub3_a, Fz.kSub2_v, Fz.kSub2_x, Fz.kSubU_a, Fz.kSub1_v, Fz.kSub1_x, Fz.fld_o, Fz.wd_krn, ite_self, Fz.vro_r, Fz.kMx2_v, Fz.kMx1_v, Fz.dMaxD_i, Fz.dSum_i, Fz.dInts_nil, Fz.dInts_cons, Fz.maxOf_nil, Fz.maxOf_one, Fz.maxOf_two, Fz.dMax2_i, Fz.isc_o, Fz.e_slt1, Fz.cast0, Fz.cast1, Fz.cast2, Fz.cast3, Fz.isT, Fz.e_tys, Fz.e_tyl, Fz.kLc_v, Fz.kLcU_a, Fz.kLcB_a, Fz.W_len, Fz.W_app, Fz.sgn_W, Fz.own_no, Fz.own_d, List.all_cons, List.all_nil, List.getD_cons_succ, List.getD_cons_zero, Fz.wipeS, Fz.backS, Fz.vr_d, Fz.vr_ol, Fz.vr_od, Fz.gt_0, Fz.gt_s, Fz.stt_0, Fz.stt_s, Fz.vwN_nil, Fz.vwN_d, Fz.vwN_ol, Fz.vwN_od, Fz.vwN_no, Fz.vwN_oi, Fz.ti_int, Fz.tl_l, Fz.tt_t, Fz.tq_t, Fz.tq_l, Fz.tx_s, Fz.mv_s, Fz.to_o, Fz.gA, Fz.pA, Fz.outs_nil, Fz.outs_cons, Fz.outs1_s, Fz.isD_d, Fz.gol_s, Fz.isL_ol, Fz.isL_d, Fz.gN_eq, Fz.gT_eq, Fz.gsN_eq, Fz.gsC_eq, Fz.some_bind', Fz.dR1_i, Fz.dR2_i, Fz.dEn_i, Fz.owns, Fz.vw_d, Fz.vw_ol, Fz.vw_oi, Fz.vw_od, Fz.wh_d, Fz.wh_ol, Fz.wh_od, Fz.wh_oi, Fz.imm, Fz.imms, decide_true, decide_false, Bool.not_true, Bool.not_false, if_true, if_false, List.length_cons, List.length_nil, List.map_cons, List.map_nil, List.append_nil, List.nil_append, List.cons_append, List.replicate, Option.map_some, beq_self_eq_true, Bool.true_or, Bool.or_true, Bool.false_or, Bool.or_false, Bool.false_and, Bool.and_false, Bool.true_and, Bool.and_true, reduceCtorEq, Fz.e_sub, Fz.e_mod, Fz.e_div, Fz.e_mul, Fz.e_addi, Fz.e_adds, Fz.e_addt, Fz.e_eqi, Fz.e_eqs, Fz.e_eqb, Fz.e_nei, Fz.e_nes, Fz.e_neb, Fz.e_lti, Fz.e_gti, Fz.e_lei, Fz.e_gei, Fz.e_lenl, Fz.e_lent, Fz.e_lens, Fz.e_isib, Fz.e_inw, Fz.e_ninw, Fz.e_inwt, Fz.e_ninwt, Fz.e_intb, Fz.e_ixn, Fz.e_ixtn, Fz.e_ix0, Fz.e_ix1, Fz.e_ix2, Fz.e_ix3, Fz.e_ixt0, Fz.e_ixt1, Fz.e_ixt2, Fz.e_ixt3, Fz.e_ixs, Fz.e_ixs0, Fz.szl, List.getElem?_cons_zero, List.getElem?_cons_succ, Fz.e_tupl, Fz.e_tupt, Fz.e_listl, Fz.e_listt, Fz.nodup0, Fz.nodup1, List.length_set, List.length_append, List.length_map, List.set_cons_zero, List.set_cons_succ, Nat.add_zero, Nat.zero_add, Fz.lp_nx, Fz.lp_rt, Fz.lp_bk, Fz.lp_ct, Fz.lp_x, ↓reduceIte, Nat.reduceAdd, Nat.reduceSub, Nat.reduceLeDiff, Nat.reduceLT, Nat.reduceMul, Nat.reduceDiv, Nat.reduceMod, Int.reduceMul, Int.reduceToNat, Int.reduceMod, Int.reduceDiv, Int.reduceOfNat, Int.reduceBEq, Nat.reduceEqDiff, Nat.reduceBEq, Int.reduceLT, Int.reduceLE, Int.reduceEq, Int.reduceNeg, Int.reduceAdd, Int.reduceSub, decide_eq_true_eq, ite_true, ite_false, and_self, or_self, and_true, true_and, Bool.or_self, Bool.and_self, Fz.ixn0, Fz.ixn1, Fz.ixn2, Fz.ixn3, Bool.or_eq_true, or_true, true_or, or_false, false_or, Fz.kPx5_a, Fz.kPx4_a, Fz.kPx3_v, Fz.kPx2_a, Fz.kPx1_a, Fz.kPx0_a, Fz.kPf3_a, Fz.kPf2_a, Fz.kPf1_a, Fz.kPf0_a, Fz.kH2_v, Fz.kH1_a, Fz.kAF_v, Fz.kM5_a, Fz.kM4_v, Fz.kM3_a, Fz.kM2_a, Fz.kM1_a, Fz.kSA6_a, Fz.kSA5_a, Fz.kSA4_v, Fz.kSA3_a, Fz.kSA2_a, Fz.kSA1_v, Fz.kSA1_x, Fz.kRC2_v, Fz.kRC1_v, Fz.kRL_v, Fz.kRT_v, Fz.kFS_v, Fz.kID_v, Fz.kID_x, Fz.rfo_oi, Fz.rfo_x, Fz.wsl_r, Fz.rAt_nil, Fz.rAt_nl, Fz.rAt_nt, Fz.rAt_ni, Fz.rAt_nd, Fz.rSet_nil, Fz.rSet_nl, Fz.rSet_nt, Fz.rSet_ni, Fz.rSet_nd, Fz.rSets_0, Fz.rSets_s, Fz.kids_nl, Fz.kids_nt, Fz.kids_ni, Fz.kids_nd, Fz.kidAt_nl, Fz.kidAt_nt, Fz.opApp_ol, Fz.opRev_ol, Fz.opClr_ol, Fz.opSet_nl, Fz.opSet_ol, Fz.vw_nl, Fz.vw_nt, Fz.vw_ni, Fz.vw_nd, Fz.vwL_nil, Fz.vwL_cons, Fz.wh_nl, Fz.wh_nt, Fz.wh_ni, Fz.wh_nd, Fz.whL_nil, Fz.whL_cons, Fz.vwN_nl, Fz.vwN_nt, Fz.vwN_nd, Fz.vwN_ni, Option.bind_some, Fz.isR_s, List.length_reverse, Fz.kFnC_a, Fz.n_oendC_r, Fz.n_oendC_l, Fz.kOC_a, Fz.kCr_v, Fz.kCd_t, Fz.kCd_f, Fz.kCif_v, Fz.kCsq_nx, Fz.kCv_a, Fz.kCe2_a, Fz.kCe1_v, Fz.kCe1_x, Fz.kCe0_a, Fz.kCe_v, Fz.kCe_x, $args,*])
set_option Elab.async false
set_option linter.all false
set_option maxRecDepth 100000
set_option maxHeartbeats 4000000
namespace K31
open PySem hiding ret plain
open Fz hiding tb nx
structure Lk (ps : List Tr) (t : Tr) (k : Nat) (cs : List D) : Prop where
  fn : isFn lamQ (.ext k cs) = true
  ok : okE lamQ (.ext k cs) = true
  ap : ∀ (M : D) (mm : Str → Bool) (lb gs : List Bool), Ct M mm lb gs ps → ∀ n, dp t ≤ n → F_app n [.d (.ext k cs), .d M, .d (bT lb), .d (bT gs)] = some (.v (.d (.bl (rd mm lb gs ps t))), [.d (.ext k cs), .d M, .d (bT lb), .d (bT gs)])
theorem imm_bT (l : List Bool) : imm (bT l) = true := by
  show imms (l.map D.bl) = true
  induction l with
  | nil => rfl
  | cons b r ih => show (imm (.bl b) && imms (r.map D.bl)) = true; rw [ih]; rfl
theorem dp_pos (t : Tr) : 1 ≤ dp t := by cases t <;> simp [dp]
theorem wp_of {α : Type} {m : M α} {st : Sl} {Q : Oc α → Sl → Prop} (h : wp m st Q) : ∃ o s, m st = some (o, s) ∧ Q o s := by
  unfold wp at h
  split at h
  · exact ⟨_, _, by assumption, h⟩
  · exact h.elim
theorem lk_of {ps : List Tr} {t : Tr} {i : Nat} {L : LamD} {pl : List Nat} {ds : List D} (hL : lamQ i = some L) (hpl : pl = L.caps.map (·.2)) (hl : ds.length = L.caps.length) (ok : okEs lamQ ds = true) (h3 : L.ps.length = 3) (h9 : ∀ p ∈ pl, p < 99)
    (hb : ∀ (M : D) (mm : Str → Bool) (lb gs : List Bool), Ct M mm lb gs ps → ∀ n, dp t ≤ n + 1 → wp (bdQ (F_app n) i) ([some (.d M), some (.d (bT lb)), some (.d (bT gs))] ++ ds.map fun d => some (.d d)) fun o _ => o = .v (.bl (rd mm lb gs ps t))) :
    Lk ps t (kClo i) ((pl.zip ds).map (fun p => cel p.1 p.2) ++ [.ext (kCode i) []]) := by
  have hs : (lamQ i).isSome = true := by rw [hL]; rfl
  refine ⟨isFn_clo (pl := pl) (ds := ds) hs, okE_clo hs h9 ok, fun M mm lb gs C n hn => ?_⟩
  cases n with
  | zero => have := dp_pos t; omega
  | succ n =>
    obtain ⟨o, s, e, rfl⟩ := wp_of (hb M mm lb gs C n hn)
    exact appF_clo (args := [.d M, .d (bT lb), .d (bT gs)]) hL hl ok (by show (imm M && (imm (bT lb) && (imm (bT gs) && true))) = true; rw [C.im, imm_bT, imm_bT]; rfl) (by rw [h3]; rfl) e hpl
def ar2 (ps : List Tr) (t : Tr) : List R := [.d (dT t), .d (.lst (ps.map dT))]
theorem isS {d : D} : isFnS lamQ (some (some (R.d d))) = isFn lamQ d := rfl
section
variable {ps : List Tr}
theorem one_ok {t : Tr} {k : Nat} {cs : List D} (h : Lk ps t k cs) : ∃ k' cs', Lk ps (.one "not" t) k' cs' ∧ F_look_of_one [.d (.str "not"), .d (.ext k cs)] = some (.v (.d (.ext k' cs')), [.d (.str "not"), .d (.ext k cs)]) := by
  refine ⟨_, _, lk_of (i := 0) (L := lam_0) (pl := [0]) (ds := [.ext k cs]) rfl rfl rfl (by unfold okEs; rw [h.ok]; rfl) rfl (by decide) (fun M mm lb gs C n hn => ?_), ?_⟩
  · have e := h.ap M mm lb gs C n (by simp only [dp] at hn; omega)
    have hf := h.fn
    show wp (bl_0 (F_app n)) [some (.d M), some (.d (bT lb)), some (.d (bT gs)), some (.d (.ext k cs))] _
    simp_arith only [bl_0, isS, hf, wf_of e]
    rfl
  · refine wf_eq ?_
    unfold F_look_of_one
    have c1 : capC k1 [.d (.str "not"), .d (.ext k cs)] [some (.d (.str "not")), some (.d (.ext k cs))] [1] = some [.ext k cs] := rfl
    simp_arith only [b_look_of_one, c1]
    first | rfl | exact ⟨rfl, rfl⟩
theorem two_ok {w : Str} {a b : Tr} {k1' k2' : Nat} {c1 c2 : List D} (hk : Kn ps (.two w a b)) (hp : ∀ t ∈ ps, dp t ≤ 39) (h1 : Lk ps a k1' c1) (h2 : Lk ps b k2' c2) : ∃ k' cs', Lk ps (.two w a b) k' cs' ∧ F_look_of_two [.d (dT (.two w a b)), .d (.lst (ps.map dT)), .d (.ext k1' c1), .d (.ext k2' c2)] = some (.v (.d (.ext k' cs')), [.d (dT (.two w a b)), .d (.lst (ps.map dT)), .d (.ext k1' c1), .d (.ext k2' c2)]) := by
  have ed : dT (.two w a b) = .tup [.str w, dT a, dT b] := rfl
  have go : ∀ (i : Nat) (L : LamD) (pl js : List Nat) (ds : List D), lamQ i = some L → pl = L.caps.map (·.2) → ds.length = L.caps.length → okEs lamQ ds = true → L.ps.length = 3 → (∀ p ∈ pl, p < 99) →
      (∀ (M : D) (mm : Str → Bool) (lb gs : List Bool), Ct M mm lb gs ps → ∀ n, dp (.two w a b) ≤ n + 1 → wp (bdQ (F_app n) i) ([some (.d M), some (.d (bT lb)), some (.d (bT gs))] ++ ds.map fun d => some (.d d)) fun o _ => o = .v (.bl (rd mm lb gs ps (.two w a b)))) →
      (wf F_look_of_two [.d (.tup [.str w, dT a, dT b]), .d (.lst (ps.map dT)), .d (.ext k1' c1), .d (.ext k2' c2)] fun o rs => o = .v (.d (clo i pl ds)) ∧ rs = [.d (.tup [.str w, dT a, dT b]), .d (.lst (ps.map dT)), .d (.ext k1' c1), .d (.ext k2' c2)]) → ∃ k' cs', Lk ps (.two w a b) k' cs' ∧ F_look_of_two [.d (.tup [.str w, dT a, dT b]), .d (.lst (ps.map dT)), .d (.ext k1' c1), .d (.ext k2' c2)] = some (.v (.d (.ext k' cs')), [.d (.tup [.str w, dT a, dT b]), .d (.lst (ps.map dT)), .d (.ext k1' c1), .d (.ext k2' c2)]) :=
    fun i L pl js ds g1 g2 g3 g4 g5 g6 g7 g8 => ⟨_, _, lk_of (t := .two w a b) g1 g2 g3 g4 g5 g6 g7, wf_eq g8⟩
  have okc : okEs lamQ [.ext k2' c2, .ext k1' c1] = true := by unfold okEs okEs okEs; rw [h1.ok, h2.ok]; rfl
  have oka : ∀ x : Nat, okEs lamQ [D.int (x : Int), .ext k2' c2, .ext k1' c1] = true := fun x => by
    show (okE lamQ (.int (x : Int)) && okEs lamQ [.ext k2' c2, .ext k1' c1]) = true
    rw [okc, okE_imm rfl]; rfl
  have f1 := h1.fn
  have f2 := h2.fn
  obtain ⟨hw, _⟩ := id hk.pl
  have cc : ∀ (x : Option R), capC k2_3 [.d (.tup [.str w, dT a, dT b]), .d (.lst (ps.map dT)), .d (.ext k1' c1), .d (.ext k2' c2)] [some (.d (.tup [.str w, dT a, dT b])), some (.d (.lst (ps.map dT))), some (.d (.ext k1' c1)), some (.d (.ext k2' c2)), x] [3, 2] = some [.ext k2' c2, .ext k1' c1] := fun _ => rfl
  have cc3 : ∀ (x : Int), capC k2_3 [.d (.tup [.str w, dT a, dT b]), .d (.lst (ps.map dT)), .d (.ext k1' c1), .d (.ext k2' c2)] [some (.d (.tup [.str w, dT a, dT b])), some (.d (.lst (ps.map dT))), some (.d (.ext k1' c1)), some (.d (.ext k2' c2)), some (.d (.int x))] [3, 2, 4] = some [.ext k2' c2, .ext k1' c1, .int x] := fun _ => rfl
  have okb : ∀ x : Nat, okEs lamQ [.ext k2' c2, .ext k1' c1, D.int (x : Int)] = true := fun x => by
    show (okE lamQ (.ext k2' c2) && (okE lamQ (.ext k1' c1) && (okE lamQ (.int (x : Int)) && true))) = true
    rw [h1.ok, h2.ok, okE_imm rfl]; rfl
  rw [ed]
  rcases hw with rfl | rfl | rfl | rfl | rfl | rfl
  · refine go 1 lam_1 [1, 0] [3, 2] [.ext k2' c2, .ext k1' c1] rfl rfl rfl okc rfl (by decide) (fun M mm lb gs C n hn => ?_) ?_
    · have ea := h1.ap M mm lb gs C n (by simp only [dp] at hn; omega)
      have eb := h2.ap M mm lb gs C n (by simp only [dp] at hn; omega)
      show wp (bl_1 (F_app n)) [some (.d M), some (.d (bT lb)), some (.d (bT gs)), some (.d (.ext k2' c2)), some (.d (.ext k1' c1))] _
      cases hx : rd mm lb gs ps a <;> cases hy : rd mm lb gs ps b <;> rw [hx] at ea <;> rw [hy] at eb <;> (simp_arith only [bl_1, isS, f1, f2, wf_of ea, wf_of eb]; unfold rd; rw [hx, hy]; rfl)
    · unfold F_look_of_two
      simp_arith only [b_look_of_two, wn_now, wn_yes, wn_no, wn_not, wn_next, wn_before, wn_early, wn_soon, wn_ever, wn_once, wn_sofar, wn_again, wn_settles, wn_and, wn_or, wn_then, wn_until, wn_since, wn_frees, wn_held, eq_self, e_in2, e_in2l, cc]
      all_goals first | rfl | exact ⟨rfl, rfl⟩
  · refine go 2 lam_2 [1, 0] [3, 2] [.ext k2' c2, .ext k1' c1] rfl rfl rfl okc rfl (by decide) (fun M mm lb gs C n hn => ?_) ?_
    · have ea := h1.ap M mm lb gs C n (by simp only [dp] at hn; omega)
      have eb := h2.ap M mm lb gs C n (by simp only [dp] at hn; omega)
      show wp (bl_2 (F_app n)) [some (.d M), some (.d (bT lb)), some (.d (bT gs)), some (.d (.ext k2' c2)), some (.d (.ext k1' c1))] _
      cases hx : rd mm lb gs ps a <;> cases hy : rd mm lb gs ps b <;> rw [hx] at ea <;> rw [hy] at eb <;> (simp_arith only [bl_2, isS, f1, f2, wf_of ea, wf_of eb]; unfold rd; rw [hx, hy]; rfl)
    · unfold F_look_of_two
      simp_arith only [b_look_of_two, wn_now, wn_yes, wn_no, wn_not, wn_next, wn_before, wn_early, wn_soon, wn_ever, wn_once, wn_sofar, wn_again, wn_settles, wn_and, wn_or, wn_then, wn_until, wn_since, wn_frees, wn_held, eq_self, e_in2, e_in2l, cc]
      all_goals first | rfl | exact ⟨rfl, rfl⟩
  · obtain ⟨i1, _⟩ := index_dT (t := .two "until" a b) (ts := ps) (by have := hk.dp; omega) (fun x hx => by have := hp x hx; omega) (hk.ps _ (sub_self _) rfl)
    rw [ed] at i1
    refine go 3 lam_3 [1, 0, 2] [3, 2, 4] [.ext k2' c2, .ext k1' c1, .int (ixT (.two "until" a b) ps : Nat)] rfl rfl rfl (okb _) rfl (by decide) (fun M mm lb gs C n hn => ?_) ?_
    · have ea := h1.ap M mm lb gs C n (by simp only [dp] at hn; omega)
      have eb := h2.ap M mm lb gs C n (by simp only [dp] at hn; omega)
      obtain ⟨_, i2, i3⟩ := C.ix hk rfl
      show wp (bl_3 (F_app n)) [some (.d M), some (.d (bT lb)), some (.d (bT gs)), some (.d (.ext k2' c2)), some (.d (.ext k1' c1)), some (.d (.int (ixT (.two "until" a b) ps : Nat)))] _
      cases hx : rd mm lb gs ps a <;> cases hy : rd mm lb gs ps b <;> rw [hx] at ea <;> rw [hy] at eb <;> (simp_arith only [bl_3, isS, f1, f2, wf_of ea, wf_of eb, i2, i3]; unfold rd; rw [hx, hy]; rfl)
    · unfold F_look_of_two
      simp_arith only [b_look_of_two, wn_now, wn_yes, wn_no, wn_not, wn_next, wn_before, wn_early, wn_soon, wn_ever, wn_once, wn_sofar, wn_again, wn_settles, wn_and, wn_or, wn_then, wn_until, wn_since, wn_frees, wn_held, eq_self, e_in2, e_in2l, i1, cc3]
      all_goals first | rfl | exact ⟨rfl, rfl⟩
  · obtain ⟨i1, _⟩ := index_dT (t := .two "since" a b) (ts := ps) (by have := hk.dp; omega) (fun x hx => by have := hp x hx; omega) (hk.ps _ (sub_self _) rfl)
    rw [ed] at i1
    refine go 5 lam_5 [1, 0, 2] [3, 2, 4] [.ext k2' c2, .ext k1' c1, .int (ixT (.two "since" a b) ps : Nat)] rfl rfl rfl (okb _) rfl (by decide) (fun M mm lb gs C n hn => ?_) ?_
    · have ea := h1.ap M mm lb gs C n (by simp only [dp] at hn; omega)
      have eb := h2.ap M mm lb gs C n (by simp only [dp] at hn; omega)
      obtain ⟨_, i2, i3⟩ := C.ix hk rfl
      show wp (bl_5 (F_app n)) [some (.d M), some (.d (bT lb)), some (.d (bT gs)), some (.d (.ext k2' c2)), some (.d (.ext k1' c1)), some (.d (.int (ixT (.two "since" a b) ps : Nat)))] _
      cases hx : rd mm lb gs ps a <;> cases hy : rd mm lb gs ps b <;> rw [hx] at ea <;> rw [hy] at eb <;> (simp_arith only [bl_5, isS, f1, f2, wf_of ea, wf_of eb, i2, i3]; unfold rd; rw [hx, hy]; rfl)
    · unfold F_look_of_two
      simp_arith only [b_look_of_two, wn_now, wn_yes, wn_no, wn_not, wn_next, wn_before, wn_early, wn_soon, wn_ever, wn_once, wn_sofar, wn_again, wn_settles, wn_and, wn_or, wn_then, wn_until, wn_since, wn_frees, wn_held, eq_self, e_in2, e_in2l, i1, cc3]
      all_goals first | rfl | exact ⟨rfl, rfl⟩
  · obtain ⟨i1, _⟩ := index_dT (t := .two "frees" a b) (ts := ps) (by have := hk.dp; omega) (fun x hx => by have := hp x hx; omega) (hk.ps _ (sub_self _) rfl)
    rw [ed] at i1
    refine go 4 lam_4 [1, 0, 2] [3, 2, 4] [.ext k2' c2, .ext k1' c1, .int (ixT (.two "frees" a b) ps : Nat)] rfl rfl rfl (okb _) rfl (by decide) (fun M mm lb gs C n hn => ?_) ?_
    · have ea := h1.ap M mm lb gs C n (by simp only [dp] at hn; omega)
      have eb := h2.ap M mm lb gs C n (by simp only [dp] at hn; omega)
      obtain ⟨_, i2, i3⟩ := C.ix hk rfl
      show wp (bl_4 (F_app n)) [some (.d M), some (.d (bT lb)), some (.d (bT gs)), some (.d (.ext k2' c2)), some (.d (.ext k1' c1)), some (.d (.int (ixT (.two "frees" a b) ps : Nat)))] _
      cases hx : rd mm lb gs ps a <;> cases hy : rd mm lb gs ps b <;> rw [hx] at ea <;> rw [hy] at eb <;> (simp_arith only [bl_4, isS, f1, f2, wf_of ea, wf_of eb, i2, i3]; unfold rd; rw [hx, hy]; rfl)
    · unfold F_look_of_two
      simp_arith only [b_look_of_two, wn_now, wn_yes, wn_no, wn_not, wn_next, wn_before, wn_early, wn_soon, wn_ever, wn_once, wn_sofar, wn_again, wn_settles, wn_and, wn_or, wn_then, wn_until, wn_since, wn_frees, wn_held, eq_self, e_in2, e_in2l, i1, cc3]
      all_goals first | rfl | exact ⟨rfl, rfl⟩
  · obtain ⟨i1, _⟩ := index_dT (t := .two "held" a b) (ts := ps) (by have := hk.dp; omega) (fun x hx => by have := hp x hx; omega) (hk.ps _ (sub_self _) rfl)
    rw [ed] at i1
    refine go 6 lam_6 [1, 0, 2] [3, 2, 4] [.ext k2' c2, .ext k1' c1, .int (ixT (.two "held" a b) ps : Nat)] rfl rfl rfl (okb _) rfl (by decide) (fun M mm lb gs C n hn => ?_) ?_
    · have ea := h1.ap M mm lb gs C n (by simp only [dp] at hn; omega)
      have eb := h2.ap M mm lb gs C n (by simp only [dp] at hn; omega)
      obtain ⟨_, i2, i3⟩ := C.ix hk rfl
      show wp (bl_6 (F_app n)) [some (.d M), some (.d (bT lb)), some (.d (bT gs)), some (.d (.ext k2' c2)), some (.d (.ext k1' c1)), some (.d (.int (ixT (.two "held" a b) ps : Nat)))] _
      cases hx : rd mm lb gs ps a <;> cases hy : rd mm lb gs ps b <;> rw [hx] at ea <;> rw [hy] at eb <;> (simp_arith only [bl_6, isS, f1, f2, wf_of ea, wf_of eb, i2, i3]; unfold rd; rw [hx, hy]; rfl)
    · unfold F_look_of_two
      simp_arith only [b_look_of_two, wn_now, wn_yes, wn_no, wn_not, wn_next, wn_before, wn_early, wn_soon, wn_ever, wn_once, wn_sofar, wn_again, wn_settles, wn_and, wn_or, wn_then, wn_until, wn_since, wn_frees, wn_held, eq_self, e_in2, e_in2l, i1, cc3]
      all_goals first | rfl | exact ⟨rfl, rfl⟩
theorem look_ok (hp : ∀ t ∈ ps, dp t ≤ 39) : ∀ (t : Tr) (n : Nat), dp t ≤ n → Kn ps t → ∃ k cs, Lk ps t k cs ∧ F_look_of n (ar2 ps t) = some (.v (.d (.ext k cs)), ar2 ps t) := by
  intro t
  have c0 : ∀ (rs : List R) (s : Sl), capC k0 rs s [] = some [] := fun _ _ => rfl
  induction t with
  | yes =>
    intro n hn hk
    cases n with
    | zero => simp [dp] at hn
    | succ n =>
      refine ⟨_, _, lk_of (i := 7) (L := lam_7) (pl := []) (ds := []) rfl rfl rfl rfl rfl (by decide) (fun M mm lb gs C n hn => ?_), wf_eq ?_⟩
      · rfl
      · show wf (fnOfC _ _ _ (b_look_of (F_look_of n))) [.d (.tup [.str "yes"]), .d (.lst (ps.map dT))] _
        simp_arith only [b_look_of, wn_now, wn_yes, wn_no, wn_not, wn_next, wn_before, wn_early, wn_soon, wn_ever, wn_once, wn_sofar, wn_again, wn_settles, wn_and, wn_or, wn_then, wn_until, wn_since, wn_frees, wn_held, eq_self, e_in2, e_in2l, c0]
        all_goals first | rfl | exact ⟨rfl, rfl⟩
  | no =>
    intro n hn hk
    cases n with
    | zero => simp [dp] at hn
    | succ n =>
      refine ⟨_, _, lk_of (i := 8) (L := lam_8) (pl := []) (ds := []) rfl rfl rfl rfl rfl (by decide) (fun M mm lb gs C n hn => ?_), wf_eq ?_⟩
      · rfl
      · show wf (fnOfC _ _ _ (b_look_of (F_look_of n))) [.d (.tup [.str "no"]), .d (.lst (ps.map dT))] _
        simp_arith only [b_look_of, wn_now, wn_yes, wn_no, wn_not, wn_next, wn_before, wn_early, wn_soon, wn_ever, wn_once, wn_sofar, wn_again, wn_settles, wn_and, wn_or, wn_then, wn_until, wn_since, wn_frees, wn_held, eq_self, e_in2, e_in2l, c0]
        all_goals first | rfl | exact ⟨rfl, rfl⟩
  | now m =>
    intro n hn hk
    cases n with
    | zero => simp [dp] at hn
    | succ n =>
      refine ⟨_, _, lk_of (i := 9) (L := lam_9) (pl := [0]) (ds := [dT (.now m)]) rfl rfl rfl (by unfold okEs; rw [okE_imm (imm_dT _)]; rfl) rfl (by decide) (fun M mm lb gs C n hn => ?_), wf_eq ?_⟩
      · show wp (bl_9 (F_app n)) [some (.d M), some (.d (bT lb)), some (.d (bT gs)), some (.d (.tup [.str "now", .str m]))] _
        have hm := C.hm m
        simp_arith only [bl_9, hm]
        all_goals rfl
      · have cc : capC k0 [.d (.tup [.str "now", .str m]), .d (.lst (ps.map dT))] [some (.d (.tup [.str "now", .str m])), some (.d (.lst (ps.map dT))), none] [0] = some [.tup [.str "now", .str m]] := rfl
        show wf (fnOfC _ _ _ (b_look_of (F_look_of n))) [.d (.tup [.str "now", .str m]), .d (.lst (ps.map dT))] _
        simp_arith only [b_look_of, wn_now, wn_yes, wn_no, wn_not, wn_next, wn_before, wn_early, wn_soon, wn_ever, wn_once, wn_sofar, wn_again, wn_settles, wn_and, wn_or, wn_then, wn_until, wn_since, wn_frees, wn_held, eq_self, e_in2, e_in2l, cc]
        all_goals first | rfl | exact ⟨rfl, rfl⟩
  | one w t ih =>
    intro n hn hk
    cases n with
    | zero => simp [dp] at hn
    | succ n =>
      have ed : dT (.one w t) = .tup [.str w, dT t] := rfl
      have cc : ∀ x : Int, capC k0 [.d (.tup [.str w, dT t]), .d (.lst (ps.map dT))] [some (.d (.tup [.str w, dT t])), some (.d (.lst (ps.map dT))), some (.d (.int x))] [2] = some [.int x] := fun _ => rfl
      obtain ⟨hw, _⟩ := id hk.pl
      rcases hw with rfl | rfl | rfl | rfl
      · obtain ⟨k, cs, h, e⟩ := ih n (by simp only [dp] at hn; omega) hk.one
        obtain ⟨k', cs', h', e'⟩ := one_ok h
        unfold ar2 at e
        refine ⟨k', cs', h', wf_eq ?_⟩
        show wf (fnOfC _ _ _ (b_look_of (F_look_of n))) [.d (.tup [.str "not", dT t]), .d (.lst (ps.map dT))] _
        simp_arith only [b_look_of, wn_now, wn_yes, wn_no, wn_not, wn_next, wn_before, wn_early, wn_soon, wn_ever, wn_once, wn_sofar, wn_again, wn_settles, wn_and, wn_or, wn_then, wn_until, wn_since, wn_frees, wn_held, eq_self, e_in2, e_in2l, wf_of e, wf_of e']
        all_goals first | rfl | exact ⟨rfl, rfl⟩
      · obtain ⟨i1, _⟩ := index_dT (t := .one "next" t) (ts := ps) (by have := hk.dp; omega) (fun x hx => by have := hp x hx; omega) (hk.ps _ (sub_self _) rfl)
        rw [ed] at i1
        refine ⟨_, _, lk_of (i := 10) (L := lam_10) (pl := [1]) (ds := [.int (ixT (.one "next" t) ps : Nat)]) rfl rfl rfl (by unfold okEs; rw [okE_imm rfl]; rfl) rfl (by decide) (fun M mm lb gs C n hn => ?_), wf_eq ?_⟩
        · obtain ⟨_, i2, i3⟩ := C.ix hk rfl
          show wp (bl_10 (F_app n)) [some (.d M), some (.d (bT lb)), some (.d (bT gs)), some (.d (.int (ixT (.one "next" t) ps : Nat)))] _
          simp_arith only [bl_10, i3]
          all_goals rfl
        · show wf (fnOfC _ _ _ (b_look_of (F_look_of n))) [.d (.tup [.str "next", dT t]), .d (.lst (ps.map dT))] _
          simp_arith only [b_look_of, wn_now, wn_yes, wn_no, wn_not, wn_next, wn_before, wn_early, wn_soon, wn_ever, wn_once, wn_sofar, wn_again, wn_settles, wn_and, wn_or, wn_then, wn_until, wn_since, wn_frees, wn_held, eq_self, e_in2, e_in2l, i1, cc]
          all_goals first | rfl | exact ⟨rfl, rfl⟩
      · obtain ⟨i1, _⟩ := index_dT (t := .one "before" t) (ts := ps) (by have := hk.dp; omega) (fun x hx => by have := hp x hx; omega) (hk.ps _ (sub_self _) rfl)
        rw [ed] at i1
        refine ⟨_, _, lk_of (i := 11) (L := lam_11) (pl := [1]) (ds := [.int (ixT (.one "before" t) ps : Nat)]) rfl rfl rfl (by unfold okEs; rw [okE_imm rfl]; rfl) rfl (by decide) (fun M mm lb gs C n hn => ?_), wf_eq ?_⟩
        · obtain ⟨_, i2, i3⟩ := C.ix hk rfl
          show wp (bl_11 (F_app n)) [some (.d M), some (.d (bT lb)), some (.d (bT gs)), some (.d (.int (ixT (.one "before" t) ps : Nat)))] _
          simp_arith only [bl_11, i2]
          all_goals rfl
        · show wf (fnOfC _ _ _ (b_look_of (F_look_of n))) [.d (.tup [.str "before", dT t]), .d (.lst (ps.map dT))] _
          simp_arith only [b_look_of, wn_now, wn_yes, wn_no, wn_not, wn_next, wn_before, wn_early, wn_soon, wn_ever, wn_once, wn_sofar, wn_again, wn_settles, wn_and, wn_or, wn_then, wn_until, wn_since, wn_frees, wn_held, eq_self, e_in2, e_in2l, i1, cc]
          all_goals first | rfl | exact ⟨rfl, rfl⟩
      · obtain ⟨i1, _⟩ := index_dT (t := .one "early" t) (ts := ps) (by have := hk.dp; omega) (fun x hx => by have := hp x hx; omega) (hk.ps _ (sub_self _) rfl)
        rw [ed] at i1
        refine ⟨_, _, lk_of (i := 11) (L := lam_11) (pl := [1]) (ds := [.int (ixT (.one "early" t) ps : Nat)]) rfl rfl rfl (by unfold okEs; rw [okE_imm rfl]; rfl) rfl (by decide) (fun M mm lb gs C n hn => ?_), wf_eq ?_⟩
        · obtain ⟨_, i2, i3⟩ := C.ix hk rfl
          show wp (bl_11 (F_app n)) [some (.d M), some (.d (bT lb)), some (.d (bT gs)), some (.d (.int (ixT (.one "early" t) ps : Nat)))] _
          simp_arith only [bl_11, i2]
          all_goals rfl
        · show wf (fnOfC _ _ _ (b_look_of (F_look_of n))) [.d (.tup [.str "early", dT t]), .d (.lst (ps.map dT))] _
          simp_arith only [b_look_of, wn_now, wn_yes, wn_no, wn_not, wn_next, wn_before, wn_early, wn_soon, wn_ever, wn_once, wn_sofar, wn_again, wn_settles, wn_and, wn_or, wn_then, wn_until, wn_since, wn_frees, wn_held, eq_self, e_in2, e_in2l, i1, cc]
          all_goals first | rfl | exact ⟨rfl, rfl⟩
  | two w a b iha ihb =>
    intro n hn hk
    cases n with
    | zero => simp [dp] at hn
    | succ n =>
      obtain ⟨k1', c1, h1, e1⟩ := iha n (by simp only [dp] at hn; omega) hk.l
      obtain ⟨k2', c2, h2, e2⟩ := ihb n (by simp only [dp] at hn; omega) hk.r
      obtain ⟨k', cs', h', e'⟩ := two_ok hk hp h1 h2
      unfold ar2 at e1 e2
      have ed : dT (.two w a b) = .tup [.str w, dT a, dT b] := rfl
      rw [ed] at e'
      refine ⟨k', cs', h', wf_eq ?_⟩
      show wf (fnOfC _ _ _ (b_look_of (F_look_of n))) [.d (.tup [.str w, dT a, dT b]), .d (.lst (ps.map dT))] _
      obtain ⟨hw, _⟩ := id hk.pl
      rcases hw with rfl | rfl | rfl | rfl | rfl | rfl <;> (simp_arith only [b_look_of, wn_now, wn_yes, wn_no, wn_not, wn_next, wn_before, wn_early, wn_soon, wn_ever, wn_once, wn_sofar, wn_again, wn_settles, wn_and, wn_or, wn_then, wn_until, wn_since, wn_frees, wn_held, eq_self, e_in2, e_in2l, wf_of e1, wf_of e2, wf_of e']; all_goals first | rfl | exact ⟨rfl, rfl⟩)
theorem reads_ok {M : D} {mm : Str → Bool} {lb gs : List Bool} (C : Ct M mm lb gs ps) {t : Tr} (hk : Kn ps t) : F_reads (ar M lb gs ps t) = some (.v (.d (.bl (rd mm lb gs ps t))), ar M lb gs ps t) := by
  obtain ⟨k, cs, h, e⟩ := look_ok C.hp t 40 (by have := hk.dp; omega) hk
  have ea := h.ap M mm lb gs C 40 (by have := hk.dp; omega)
  have hf := h.fn
  refine wf_eq ?_
  unfold F_reads ar
  unfold ar2 at e
  simp_arith only [b_reads, wf_of e, wf_of ea, hf]
  all_goals first | rfl | exact ⟨rfl, rfl⟩
end
end K31
set_option Elab.async false
set_option linter.all false
set_option maxRecDepth 100000
set_option maxHeartbeats 4000000
namespace K31
open PySem hiding ret plain
open Fz hiding tb nx
theorem rng0 (n : Nat) : rngD 0 n = (List.range n).map fun i : Nat => D.int (i : Int) := by simp [rngD]
theorem e_in3l {s a b c : Str} : dIn (.str s) (.lst [.str a, .str b, .str c]) = some (.bl (decide (s = a) || (decide (s = b) || decide (s = c)))) := by
  refine (e_inw (ws := [a, b, c]) (s := s)).trans ?_
  simp
theorem e_nin3l {s a b c : Str} : dNotIn (.str s) (.lst [.str a, .str b, .str c]) = some (.bl (!(decide (s = a) || (decide (s = b) || decide (s = c))))) := by
  have h := e_in3l (s := s) (a := a) (b := b) (c := c)
  unfold dIn at h
  unfold dNotIn
  cases e : dInB (.str s) (.lst [.str a, .str b, .str c]) with
  | none => rw [e] at h; cases h
  | some x => rw [e] at h; injection h with h; injection h with h; rw [← h]; rfl
theorem for_ix {g : D → Sl → Option Sl} {body : MS} {st : Sl} {QS : Fl → Sl → Prop} (n : Nat) (p : Nat → D) (I : Nat → Sl → Prop) (h0 : I 0 st) (hs : ∀ t, t < n → ∀ s, I t s → wo (g (p t) s) fun s1 => ws body s1 (lp QS fun s2 => I (t + 1) s2)) (h1 : ∀ s, I n s → QS .nx s) : ws (forL g body ((List.range n).map p)) st QS := by
  refine ws_for (fun ds s => ∃ t, t ≤ n ∧ ds = (List.range' t (n - t)).map p ∧ I t s) ⟨0, Nat.zero_le _, by rw [Nat.sub_zero, List.range_eq_range'], h0⟩ ?_ ?_
  · rintro d r s ⟨t, ht, hd, hI⟩
    have hlt : t < n := by
      by_cases h : t < n
      · exact h
      · have : n - t = 0 := by omega
        rw [this] at hd; simp at hd
    obtain ⟨m, hm⟩ : ∃ m, n - t = m + 1 := ⟨n - t - 1, by omega⟩
    rw [hm, List.range'_succ, List.map_cons] at hd
    injection hd with hd1 hd2
    subst hd1 hd2
    obtain ⟨s1, e, h⟩ := hs t hlt s hI
    refine ⟨s1, e, ws_sub (fun o s z => ?_) h⟩
    have := fun s2 (q : I (t + 1) s2) => (⟨t + 1, hlt, by rw [show n - (t + 1) = m by omega], q⟩ : ∃ u, u ≤ n ∧ (List.range' (t + 1) m).map p = (List.range' u (n - u)).map p ∧ I u s2)
    cases o with
    | nx => exact this _ z
    | ct => exact this _ z
    | bk => exact z
    | rt r => exact z
    | x c => exact z
  · rintro s ⟨t, ht, hd, hI⟩
    have : n - t = 0 := by
      cases e : n - t with
      | zero => rfl
      | succ m => rw [e, List.range'_succ] at hd; simp at hd
    have : t = n := by omega
    subst this
    exact h1 s hI
theorem enum_map (p : Nat → D) : ∀ (n a : Nat), enumD a ((List.range' a n).map p) = (List.range' a n).map fun i : Nat => .tup [.int (i : Nat), p i]
  | 0, _ => rfl
  | n + 1, a => by
    rw [List.range'_succ, List.map_cons, List.map_cons]
    show D.tup [.int (a : Nat), p a] :: enumD (a + 1) _ = _
    rw [enum_map p n (a + 1)]
theorem map_getD {α : Type} (f : α → D) (x : α) (l : List α) : l.map f = (List.range l.length).map fun i => f (l.getD i x) := by
  apply List.ext_getElem
  · simp
  · intro i h1 h2
    simp at h1
    simp [h1]
theorem enum_dT (ps : List Tr) : enumD 0 (ps.map dT) = (List.range ps.length).map fun i : Nat => .tup [.int (i : Nat), dT (ps.getD i .yes)] := by
  rw [map_getD dT .yes ps, List.range_eq_range', enum_map]
structure Pt (ps : List Tr) : Prop where
  ex : ∀ p ∈ ps, lk p = true ∧ Kn ps p
  few : ps.length ≤ 1000
theorem Pt.cases {ps : List Tr} {p : Tr} (h : lk p = true) (k : Kn ps p) : (∃ t, (p = .one "next" t ∨ p = .one "before" t ∨ p = .one "early" t) ∧ Kn ps t) ∨ (∃ a b, (p = .two "until" a b ∨ p = .two "since" a b ∨ p = .two "frees" a b ∨ p = .two "held" a b) ∧ Kn ps b) := by
  cases p with
  | yes => cases h
  | no => cases h
  | now m => cases h
  | one w t =>
    obtain ⟨hw, _⟩ := id k.pl
    refine .inl ⟨t, ?_, k.one⟩
    rcases hw with rfl | rfl | rfl | rfl
    · cases h
    · exact .inl rfl
    · exact .inr (.inl rfl)
    · exact .inr (.inr rfl)
  | two w a b =>
    obtain ⟨hw, _⟩ := id k.pl
    refine .inr ⟨a, b, ?_, k.r⟩
    rcases hw with rfl | rfl | rfl | rfl | rfl | rfl
    · cases h
    · cases h
    · exact .inl rfl
    · exact .inr (.inl rfl)
    · exact .inr (.inr (.inl rfl))
    · exact .inr (.inr (.inr rfl))
def fwd : Tr → Bool
  | .one w _ => decide (w = "next")
  | .two w _ _ => decide (w = "until" ∨ w = "frees")
  | _ => false
def ask : Tr → Tr
  | .one w t => if w = "next" then t else .one w t
  | p => p
def ask2 : Tr → Tr
  | .one _ t => t
  | p => p
section
variable {M : D} {mm : Str → Bool} {lb gs : List Bool} {ps : List Tr}
def ar4 (M : D) (lb gs : List Bool) (ps : List Tr) : List R := [.d M, .d (bT lb), .d (bT gs), .d (.lst (ps.map dT))]
def gk (mm : Str → Bool) (lb gs : List Bool) (ps : List Tr) (p : Tr) (b : Bool) : Bool := !fwd p || decide (rd mm lb gs ps (ask p) = b)
def goesN (mm : Str → Bool) (lb gs : List Bool) (ps : List Tr) (n : Nat) : Bool := (List.range n).all fun k => gk mm lb gs ps (ps.getD k .yes) (lb.getD k false)
theorem all_succ (f : Nat → Bool) (n : Nat) : (List.range (n + 1)).all f = ((List.range n).all f && f n) := by
  rw [List.range_succ, List.all_append]; simp
theorem all_false {f : Nat → Bool} {n k : Nat} (h : k < n) (hf : f k = false) : (List.range n).all f = false := by
  rw [List.all_eq_false]
  exact ⟨k, List.mem_range.mpr h, by rw [hf]; decide⟩
theorem getD_mem' {l : List Tr} {k : Nat} (h : k < l.length) : l.getD k .yes ∈ l := by
  rw [List.getD_eq_getElem?_getD, List.getElem?_eq_getElem h]; exact List.getElem_mem h
theorem ix_ps {k : Nat} (h : k < ps.length) : dIx (.lst (ps.map dT)) (.int (k : Int)) = some (dT (ps.getD k .yes)) := by
  rw [e_ixn, List.getElem?_map, List.getD_eq_getElem?_getD, List.getElem?_eq_getElem h]; rfl
theorem e_neb' {a b : Bool} : dNe (.bl a) (.bl b) = some (.bl (!decide (a = b))) := by cases a <;> cases b <;> rfl
theorem goes_ok (C : Ct M mm lb gs ps) (H : Pt ps) : F_goes_with (ar4 M lb gs ps) = some (.v (.d (.bl (goesN mm lb gs ps ps.length))), ar4 M lb gs ps) := by
  refine wf_eq ?_
  unfold F_goes_with ar4
  have hl := C.ll
  simp_arith only [b_goes_with, enum_dT, c_LOOKING_ON]
  refine for_ix ps.length _ (fun t s => goesN mm lb gs ps t = true ∧ ∃ x4 x5 x6, s = [some (.d M), some (.d (bT lb)), some (.d (bT gs)), some (.d (.lst (ps.map dT))), x4, x5, x6]) ⟨rfl, _, _, _, rfl⟩ ?_ ?_
  · rintro t ht s ⟨hg, x4, x5, x6, rfl⟩
    obtain ⟨h1, h2⟩ := H.ex _ (getD_mem' ht)
    have il := ix_bT (l := lb) (k := t) (by omega)
    have un : goesN mm lb gs ps (t + 1) = (goesN mm lb gs ps t && gk mm lb gs ps (ps.getD t .yes) (lb.getD t false)) := all_succ _ _
    have bad : gk mm lb gs ps (ps.getD t .yes) (lb.getD t false) = false → goesN mm lb gs ps ps.length = false := fun h => all_false ht h
    generalize ps.getD t .yes = p at *
    rcases Pt.cases h1 h2 with ⟨q, rfl | rfl | rfl, hk⟩ | ⟨a, b, rfl | rfl | rfl | rfl, hk⟩
    · have er := reads_ok C hk
      unfold ar at er
      have ek : gk mm lb gs ps (.one "next" q) (lb.getD t false) = decide (rd mm lb gs ps (q) = lb.getD t false) := rfl
      rw [ek] at bad un
      show wo (gT 2 _ (.tup [.int (t : Nat), .tup [.str "next", dT q]]) _) _
      simp_arith only [e_nin3l, wn_now, wn_yes, wn_no, wn_not, wn_next, wn_before, wn_early, wn_soon, wn_ever, wn_once, wn_sofar, wn_again, wn_settles, wn_and, wn_or, wn_then, wn_until, wn_since, wn_frees, wn_held, eq_self, e_in2, e_in2l, il, wf_of er, e_neb']
      refine wd_of (fun h => ?_) (fun h => ?_)
      · simp_arith only []
        rw [bad (by simpa using h)]
        all_goals first | rfl | exact ⟨rfl, rfl⟩
      · simp_arith only []
        exact ⟨by rw [un, hg]; simpa using h, _, _, _, rfl⟩
    · have ek : gk mm lb gs ps (.one "before" q) (lb.getD t false) = true := rfl
      rw [ek] at un
      show wo (gT 2 _ (.tup [.int (t : Nat), .tup [.str "before", dT q]]) _) _
      simp_arith only [e_nin3l, wn_now, wn_yes, wn_no, wn_not, wn_next, wn_before, wn_early, wn_soon, wn_ever, wn_once, wn_sofar, wn_again, wn_settles, wn_and, wn_or, wn_then, wn_until, wn_since, wn_frees, wn_held, eq_self, e_in2, e_in2l]
      exact ⟨by rw [un, hg]; rfl, _, _, _, rfl⟩
    · have ek : gk mm lb gs ps (.one "early" q) (lb.getD t false) = true := rfl
      rw [ek] at un
      show wo (gT 2 _ (.tup [.int (t : Nat), .tup [.str "early", dT q]]) _) _
      simp_arith only [e_nin3l, wn_now, wn_yes, wn_no, wn_not, wn_next, wn_before, wn_early, wn_soon, wn_ever, wn_once, wn_sofar, wn_again, wn_settles, wn_and, wn_or, wn_then, wn_until, wn_since, wn_frees, wn_held, eq_self, e_in2, e_in2l]
      exact ⟨by rw [un, hg]; rfl, _, _, _, rfl⟩
    · have er := reads_ok C h2
      unfold ar at er
      have edT : dT (.two "until" a b) = .tup [.str "until", dT a, dT b] := rfl
      rw [edT] at er
      have ek : gk mm lb gs ps (.two "until" a b) (lb.getD t false) = decide (rd mm lb gs ps (.two "until" a b) = lb.getD t false) := rfl
      rw [ek] at bad un
      show wo (gT 2 _ (.tup [.int (t : Nat), .tup [.str "until", dT a, dT b]]) _) _
      simp_arith only [e_nin3l, wn_now, wn_yes, wn_no, wn_not, wn_next, wn_before, wn_early, wn_soon, wn_ever, wn_once, wn_sofar, wn_again, wn_settles, wn_and, wn_or, wn_then, wn_until, wn_since, wn_frees, wn_held, eq_self, e_in2, e_in2l, il, wf_of er, e_neb']
      refine wd_of (fun h => ?_) (fun h => ?_)
      · simp_arith only []
        rw [bad (by simpa using h)]
        all_goals first | rfl | exact ⟨rfl, rfl⟩
      · simp_arith only []
        exact ⟨by rw [un, hg]; simpa using h, _, _, _, rfl⟩
    · have ek : gk mm lb gs ps (.two "since" a b) (lb.getD t false) = true := rfl
      rw [ek] at un
      show wo (gT 2 _ (.tup [.int (t : Nat), .tup [.str "since", dT a, dT b]]) _) _
      simp_arith only [e_nin3l, wn_now, wn_yes, wn_no, wn_not, wn_next, wn_before, wn_early, wn_soon, wn_ever, wn_once, wn_sofar, wn_again, wn_settles, wn_and, wn_or, wn_then, wn_until, wn_since, wn_frees, wn_held, eq_self, e_in2, e_in2l]
      exact ⟨by rw [un, hg]; rfl, _, _, _, rfl⟩
    · have er := reads_ok C h2
      unfold ar at er
      have edT : dT (.two "frees" a b) = .tup [.str "frees", dT a, dT b] := rfl
      rw [edT] at er
      have ek : gk mm lb gs ps (.two "frees" a b) (lb.getD t false) = decide (rd mm lb gs ps (.two "frees" a b) = lb.getD t false) := rfl
      rw [ek] at bad un
      show wo (gT 2 _ (.tup [.int (t : Nat), .tup [.str "frees", dT a, dT b]]) _) _
      simp_arith only [e_nin3l, wn_now, wn_yes, wn_no, wn_not, wn_next, wn_before, wn_early, wn_soon, wn_ever, wn_once, wn_sofar, wn_again, wn_settles, wn_and, wn_or, wn_then, wn_until, wn_since, wn_frees, wn_held, eq_self, e_in2, e_in2l, il, wf_of er, e_neb']
      refine wd_of (fun h => ?_) (fun h => ?_)
      · simp_arith only []
        rw [bad (by simpa using h)]
        all_goals first | rfl | exact ⟨rfl, rfl⟩
      · simp_arith only []
        exact ⟨by rw [un, hg]; simpa using h, _, _, _, rfl⟩
    · have ek : gk mm lb gs ps (.two "held" a b) (lb.getD t false) = true := rfl
      rw [ek] at un
      show wo (gT 2 _ (.tup [.int (t : Nat), .tup [.str "held", dT a, dT b]]) _) _
      simp_arith only [e_nin3l, wn_now, wn_yes, wn_no, wn_not, wn_next, wn_before, wn_early, wn_soon, wn_ever, wn_once, wn_sofar, wn_again, wn_settles, wn_and, wn_or, wn_then, wn_until, wn_since, wn_frees, wn_held, eq_self, e_in2, e_in2l]
      exact ⟨by rw [un, hg]; rfl, _, _, _, rfl⟩
  · rintro s ⟨hg, x4, x5, x6, rfl⟩
    simp_arith only [hg]
    all_goals first | rfl | exact ⟨rfl, rfl⟩
end
end K31
set_option Elab.async false
set_option linter.all false
set_option maxRecDepth 100000
set_option maxHeartbeats 4000000
namespace K31
open PySem hiding ret plain
open Fz hiding tb nx
section
variable {M : D} {mm : Str → Bool} {lb gs : List Bool} {ps : List Tr}
def bk (mm : Str → Bool) (lb gs : List Bool) (ps : List Tr) (p : Tr) (g : Bool) : Bool := if fwd p = true then g else rd mm lb gs ps (ask2 p)
def behN (mm : Str → Bool) (lb gs : List Bool) (ps : List Tr) (n : Nat) : List Bool := (List.range n).map fun k => bk mm lb gs ps (ps.getD k .yes) (gs.getD k false)
theorem beh_succ (n : Nat) : behN mm lb gs ps (n + 1) = behN mm lb gs ps n ++ [bk mm lb gs ps (ps.getD n .yes) (gs.getD n false)] := by
  unfold behN
  rw [List.range_succ, List.map_append]; rfl
theorem beh_len (n : Nat) : (behN mm lb gs ps n).length = n := by unfold behN; simp
theorem next_ok (C : Ct M mm lb gs ps) (H : Pt ps) : F_next_label (ar4 M lb gs ps) = some (.v (.d (bT (behN mm lb gs ps ps.length))), ar4 M lb gs ps) := by
  refine wf_eq ?_
  unfold F_next_label ar4
  have hl := C.lg
  have few := H.few
  simp_arith only [b_next_label, enum_dT, c_LOOKING_ON]
  refine for_ix ps.length _ (fun t s => ∃ x5 x6, s = [some (.d M), some (.d (bT lb)), some (.d (bT gs)), some (.d (.lst (ps.map dT))), some (.ol ((behN mm lb gs ps t).map D.bl)), x5, x6]) ⟨_, _, rfl⟩ ?_ ?_
  · rintro t ht s ⟨x5, x6, rfl⟩
    obtain ⟨h1, h2⟩ := H.ex _ (getD_mem' ht)
    have il := ix_bT (l := gs) (k := t) (by omega)
    have lz : ((behN mm lb gs ps t).length < 16777216) = True := eq_true (by rw [beh_len]; omega)
    have un : behN mm lb gs ps (t + 1) = behN mm lb gs ps t ++ [bk mm lb gs ps (ps.getD t .yes) (gs.getD t false)] := beh_succ t
    rw [un]
    generalize ps.getD t .yes = p at *
    rcases Pt.cases h1 h2 with ⟨q, rfl | rfl | rfl, hk⟩ | ⟨a, b, rfl | rfl | rfl | rfl, hk⟩
    · show wo (gT 2 _ (.tup [.int (t : Nat), .tup [.str "next", dT q]]) _) _
      simp_arith only [e_in3l, wn_now, wn_yes, wn_no, wn_not, wn_next, wn_before, wn_early, wn_soon, wn_ever, wn_once, wn_sofar, wn_again, wn_settles, wn_and, wn_or, wn_then, wn_until, wn_since, wn_frees, wn_held, eq_self, e_in2, e_in2l, il, lz]
      exact ⟨_, _, by rw [List.map_append]; rfl⟩
    · have er := reads_ok C hk
      unfold ar at er
      show wo (gT 2 _ (.tup [.int (t : Nat), .tup [.str "before", dT q]]) _) _
      simp_arith only [e_in3l, wn_now, wn_yes, wn_no, wn_not, wn_next, wn_before, wn_early, wn_soon, wn_ever, wn_once, wn_sofar, wn_again, wn_settles, wn_and, wn_or, wn_then, wn_until, wn_since, wn_frees, wn_held, eq_self, e_in2, e_in2l, il, lz, wf_of er]
      exact ⟨_, _, by rw [List.map_append]; rfl⟩
    · have er := reads_ok C hk
      unfold ar at er
      show wo (gT 2 _ (.tup [.int (t : Nat), .tup [.str "early", dT q]]) _) _
      simp_arith only [e_in3l, wn_now, wn_yes, wn_no, wn_not, wn_next, wn_before, wn_early, wn_soon, wn_ever, wn_once, wn_sofar, wn_again, wn_settles, wn_and, wn_or, wn_then, wn_until, wn_since, wn_frees, wn_held, eq_self, e_in2, e_in2l, il, lz, wf_of er]
      exact ⟨_, _, by rw [List.map_append]; rfl⟩
    · show wo (gT 2 _ (.tup [.int (t : Nat), .tup [.str "until", dT a, dT b]]) _) _
      simp_arith only [e_in3l, wn_now, wn_yes, wn_no, wn_not, wn_next, wn_before, wn_early, wn_soon, wn_ever, wn_once, wn_sofar, wn_again, wn_settles, wn_and, wn_or, wn_then, wn_until, wn_since, wn_frees, wn_held, eq_self, e_in2, e_in2l, il, lz]
      exact ⟨_, _, by rw [List.map_append]; rfl⟩
    · have er := reads_ok C h2
      unfold ar at er
      have edT : dT (.two "since" a b) = .tup [.str "since", dT a, dT b] := rfl
      rw [edT] at er
      show wo (gT 2 _ (.tup [.int (t : Nat), .tup [.str "since", dT a, dT b]]) _) _
      simp_arith only [e_in3l, wn_now, wn_yes, wn_no, wn_not, wn_next, wn_before, wn_early, wn_soon, wn_ever, wn_once, wn_sofar, wn_again, wn_settles, wn_and, wn_or, wn_then, wn_until, wn_since, wn_frees, wn_held, eq_self, e_in2, e_in2l, il, lz, wf_of er]
      exact ⟨_, _, by rw [List.map_append]; rfl⟩
    · show wo (gT 2 _ (.tup [.int (t : Nat), .tup [.str "frees", dT a, dT b]]) _) _
      simp_arith only [e_in3l, wn_now, wn_yes, wn_no, wn_not, wn_next, wn_before, wn_early, wn_soon, wn_ever, wn_once, wn_sofar, wn_again, wn_settles, wn_and, wn_or, wn_then, wn_until, wn_since, wn_frees, wn_held, eq_self, e_in2, e_in2l, il, lz]
      exact ⟨_, _, by rw [List.map_append]; rfl⟩
    · have er := reads_ok C h2
      unfold ar at er
      have edT : dT (.two "held" a b) = .tup [.str "held", dT a, dT b] := rfl
      rw [edT] at er
      show wo (gT 2 _ (.tup [.int (t : Nat), .tup [.str "held", dT a, dT b]]) _) _
      simp_arith only [e_in3l, wn_now, wn_yes, wn_no, wn_not, wn_next, wn_before, wn_early, wn_soon, wn_ever, wn_once, wn_sofar, wn_again, wn_settles, wn_and, wn_or, wn_then, wn_until, wn_since, wn_frees, wn_held, eq_self, e_in2, e_in2l, il, lz, wf_of er]
      exact ⟨_, _, by rw [List.map_append]; rfl⟩
  · rintro s ⟨x5, x6, rfl⟩
    simp_arith only []
    all_goals first | rfl | exact ⟨rfl, rfl⟩
theorem lbehind_ok (C : Ct M mm lb gs ps) (H : Pt ps) : F__law_behind (ar4 M lb gs ps) = some (.v (.d (bT (behN mm lb gs ps ps.length))), ar4 M lb gs ps) := by
  refine wf_eq ?_
  unfold F__law_behind ar4
  have hl := C.lg
  have few := H.few
  have rm : dR1 [.int (ps.length : Int)] = some ((List.range ps.length).map fun i : Nat => D.int (i : Int)) := by rw [dR1_n (by omega), rng0]
  simp_arith only [-dR1_i, b__law_behind, rm]
  refine for_ix ps.length _ (fun t s => ∃ x5 x6, s = [some (.d M), some (.d (bT lb)), some (.d (bT gs)), some (.d (.lst (ps.map dT))), some (.ol ((behN mm lb gs ps t).map D.bl)), x5, x6]) ⟨_, _, rfl⟩ ?_ ?_
  · rintro t ht s ⟨x5, x6, rfl⟩
    obtain ⟨h1, h2⟩ := H.ex _ (getD_mem' ht)
    have il := ix_bT (l := gs) (k := t) (by omega)
    have ip := ix_ps (ps := ps) ht
    have lz : ((behN mm lb gs ps t).length < 16777216) = True := eq_true (by rw [beh_len]; omega)
    have un : behN mm lb gs ps (t + 1) = behN mm lb gs ps t ++ [bk mm lb gs ps (ps.getD t .yes) (gs.getD t false)] := beh_succ t
    rw [un]
    generalize ps.getD t .yes = p at *
    rcases Pt.cases h1 h2 with ⟨q, rfl | rfl | rfl, hk⟩ | ⟨a, b, rfl | rfl | rfl | rfl, hk⟩
    · have ip : dIx (.lst (ps.map dT)) (.int (t : Int)) = some (.tup [.str "next", dT q]) := ip
      show wo (gN 5 (.int (t : Nat)) _) _
      simp_arith only [e_in3l, wn_now, wn_yes, wn_no, wn_not, wn_next, wn_before, wn_early, wn_soon, wn_ever, wn_once, wn_sofar, wn_again, wn_settles, wn_and, wn_or, wn_then, wn_until, wn_since, wn_frees, wn_held, eq_self, e_in2, e_in2l, il, ip, lz]
      exact ⟨_, _, by rw [List.map_append]; rfl⟩
    · have er := lreads_ok C _ 40 (by have := hk.dp; omega) hk
      unfold ar at er
      have ip : dIx (.lst (ps.map dT)) (.int (t : Int)) = some (.tup [.str "before", dT q]) := ip
      show wo (gN 5 (.int (t : Nat)) _) _
      simp_arith only [e_in3l, wn_now, wn_yes, wn_no, wn_not, wn_next, wn_before, wn_early, wn_soon, wn_ever, wn_once, wn_sofar, wn_again, wn_settles, wn_and, wn_or, wn_then, wn_until, wn_since, wn_frees, wn_held, eq_self, e_in2, e_in2l, il, ip, lz, wf_of er]
      exact ⟨_, _, by rw [List.map_append]; rfl⟩
    · have er := lreads_ok C _ 40 (by have := hk.dp; omega) hk
      unfold ar at er
      have ip : dIx (.lst (ps.map dT)) (.int (t : Int)) = some (.tup [.str "early", dT q]) := ip
      show wo (gN 5 (.int (t : Nat)) _) _
      simp_arith only [e_in3l, wn_now, wn_yes, wn_no, wn_not, wn_next, wn_before, wn_early, wn_soon, wn_ever, wn_once, wn_sofar, wn_again, wn_settles, wn_and, wn_or, wn_then, wn_until, wn_since, wn_frees, wn_held, eq_self, e_in2, e_in2l, il, ip, lz, wf_of er]
      exact ⟨_, _, by rw [List.map_append]; rfl⟩
    · have ip : dIx (.lst (ps.map dT)) (.int (t : Int)) = some (.tup [.str "until", dT a, dT b]) := ip
      show wo (gN 5 (.int (t : Nat)) _) _
      simp_arith only [e_in3l, wn_now, wn_yes, wn_no, wn_not, wn_next, wn_before, wn_early, wn_soon, wn_ever, wn_once, wn_sofar, wn_again, wn_settles, wn_and, wn_or, wn_then, wn_until, wn_since, wn_frees, wn_held, eq_self, e_in2, e_in2l, il, ip, lz]
      exact ⟨_, _, by rw [List.map_append]; rfl⟩
    · have er := lreads_ok C _ 40 (by have := h2.dp; omega) h2
      unfold ar at er
      have edT : dT (.two "since" a b) = .tup [.str "since", dT a, dT b] := rfl
      rw [edT] at er
      have ip : dIx (.lst (ps.map dT)) (.int (t : Int)) = some (.tup [.str "since", dT a, dT b]) := ip
      show wo (gN 5 (.int (t : Nat)) _) _
      simp_arith only [e_in3l, wn_now, wn_yes, wn_no, wn_not, wn_next, wn_before, wn_early, wn_soon, wn_ever, wn_once, wn_sofar, wn_again, wn_settles, wn_and, wn_or, wn_then, wn_until, wn_since, wn_frees, wn_held, eq_self, e_in2, e_in2l, il, ip, lz, wf_of er]
      exact ⟨_, _, by rw [List.map_append]; rfl⟩
    · have ip : dIx (.lst (ps.map dT)) (.int (t : Int)) = some (.tup [.str "frees", dT a, dT b]) := ip
      show wo (gN 5 (.int (t : Nat)) _) _
      simp_arith only [e_in3l, wn_now, wn_yes, wn_no, wn_not, wn_next, wn_before, wn_early, wn_soon, wn_ever, wn_once, wn_sofar, wn_again, wn_settles, wn_and, wn_or, wn_then, wn_until, wn_since, wn_frees, wn_held, eq_self, e_in2, e_in2l, il, ip, lz]
      exact ⟨_, _, by rw [List.map_append]; rfl⟩
    · have er := lreads_ok C _ 40 (by have := h2.dp; omega) h2
      unfold ar at er
      have edT : dT (.two "held" a b) = .tup [.str "held", dT a, dT b] := rfl
      rw [edT] at er
      have ip : dIx (.lst (ps.map dT)) (.int (t : Int)) = some (.tup [.str "held", dT a, dT b]) := ip
      show wo (gN 5 (.int (t : Nat)) _) _
      simp_arith only [e_in3l, wn_now, wn_yes, wn_no, wn_not, wn_next, wn_before, wn_early, wn_soon, wn_ever, wn_once, wn_sofar, wn_again, wn_settles, wn_and, wn_or, wn_then, wn_until, wn_since, wn_frees, wn_held, eq_self, e_in2, e_in2l, il, ip, lz, wf_of er]
      exact ⟨_, _, by rw [List.map_append]; rfl⟩
  · rintro s ⟨x5, x6, rfl⟩
    simp_arith only []
    all_goals first | rfl | exact ⟨rfl, rfl⟩
theorem lgoes_ok (C : Ct M mm lb gs ps) (H : Pt ps) : F__law_goes (ar4 M lb gs ps) = some (.v (.d (.bl (goesN mm lb gs ps ps.length))), ar4 M lb gs ps) := by
  refine wf_eq ?_
  unfold F__law_goes ar4
  have hl := C.ll
  have few := H.few
  have rm : dR1 [.int (ps.length : Int)] = some ((List.range ps.length).map fun i : Nat => D.int (i : Int)) := by rw [dR1_n (by omega), rng0]
  simp_arith only [-dR1_i, b__law_goes, rm]
  refine for_ix ps.length _ (fun t s => goesN mm lb gs ps t = true ∧ ∃ x4 x5, s = [some (.d M), some (.d (bT lb)), some (.d (bT gs)), some (.d (.lst (ps.map dT))), x4, x5]) ⟨rfl, _, _, rfl⟩ ?_ ?_
  · rintro t ht s ⟨hg, x4, x5, rfl⟩
    obtain ⟨h1, h2⟩ := H.ex _ (getD_mem' ht)
    have il := ix_bT (l := lb) (k := t) (by omega)
    have ip := ix_ps (ps := ps) ht
    have un : goesN mm lb gs ps (t + 1) = (goesN mm lb gs ps t && gk mm lb gs ps (ps.getD t .yes) (lb.getD t false)) := all_succ _ _
    have bad : gk mm lb gs ps (ps.getD t .yes) (lb.getD t false) = false → goesN mm lb gs ps ps.length = false := fun h => all_false ht h
    generalize ps.getD t .yes = p at *
    rcases Pt.cases h1 h2 with ⟨q, rfl | rfl | rfl, hk⟩ | ⟨a, b, rfl | rfl | rfl | rfl, hk⟩
    · have er := lreads_ok C _ 40 (by have := hk.dp; omega) hk
      unfold ar at er
      have ek : gk mm lb gs ps (.one "next" q) (lb.getD t false) = decide (rd mm lb gs ps (q) = lb.getD t false) := rfl
      rw [ek] at bad un
      have ip : dIx (.lst (ps.map dT)) (.int (t : Int)) = some (.tup [.str "next", dT q]) := ip
      show wo (gN 4 (.int (t : Nat)) _) _
      simp_arith only [e_in3l, wn_now, wn_yes, wn_no, wn_not, wn_next, wn_before, wn_early, wn_soon, wn_ever, wn_once, wn_sofar, wn_again, wn_settles, wn_and, wn_or, wn_then, wn_until, wn_since, wn_frees, wn_held, eq_self, e_in2, e_in2l, il, ip, e_neb', wf_of er]
      refine wd_of (fun h => ?_) (fun h => ?_)
      · simp_arith only []
        rw [bad (by simpa using h)]
        all_goals first | rfl | exact ⟨rfl, rfl⟩
      · simp_arith only []
        exact ⟨by rw [un, hg]; simpa using h, _, _, rfl⟩
    · have ek : gk mm lb gs ps (.one "before" q) (lb.getD t false) = true := rfl
      rw [ek] at un
      have ip : dIx (.lst (ps.map dT)) (.int (t : Int)) = some (.tup [.str "before", dT q]) := ip
      show wo (gN 4 (.int (t : Nat)) _) _
      simp_arith only [e_in3l, wn_now, wn_yes, wn_no, wn_not, wn_next, wn_before, wn_early, wn_soon, wn_ever, wn_once, wn_sofar, wn_again, wn_settles, wn_and, wn_or, wn_then, wn_until, wn_since, wn_frees, wn_held, eq_self, e_in2, e_in2l, il, ip]
      exact ⟨by rw [un, hg]; rfl, _, _, rfl⟩
    · have ek : gk mm lb gs ps (.one "early" q) (lb.getD t false) = true := rfl
      rw [ek] at un
      have ip : dIx (.lst (ps.map dT)) (.int (t : Int)) = some (.tup [.str "early", dT q]) := ip
      show wo (gN 4 (.int (t : Nat)) _) _
      simp_arith only [e_in3l, wn_now, wn_yes, wn_no, wn_not, wn_next, wn_before, wn_early, wn_soon, wn_ever, wn_once, wn_sofar, wn_again, wn_settles, wn_and, wn_or, wn_then, wn_until, wn_since, wn_frees, wn_held, eq_self, e_in2, e_in2l, il, ip]
      exact ⟨by rw [un, hg]; rfl, _, _, rfl⟩
    · have er := lreads_ok C _ 40 (by have := h2.dp; omega) h2
      unfold ar at er
      have edT : dT (.two "until" a b) = .tup [.str "until", dT a, dT b] := rfl
      rw [edT] at er
      have ek : gk mm lb gs ps (.two "until" a b) (lb.getD t false) = decide (rd mm lb gs ps (.two "until" a b) = lb.getD t false) := rfl
      rw [ek] at bad un
      have ip : dIx (.lst (ps.map dT)) (.int (t : Int)) = some (.tup [.str "until", dT a, dT b]) := ip
      show wo (gN 4 (.int (t : Nat)) _) _
      simp_arith only [e_in3l, wn_now, wn_yes, wn_no, wn_not, wn_next, wn_before, wn_early, wn_soon, wn_ever, wn_once, wn_sofar, wn_again, wn_settles, wn_and, wn_or, wn_then, wn_until, wn_since, wn_frees, wn_held, eq_self, e_in2, e_in2l, il, ip, e_neb', wf_of er]
      refine wd_of (fun h => ?_) (fun h => ?_)
      · simp_arith only []
        rw [bad (by simpa using h)]
        all_goals first | rfl | exact ⟨rfl, rfl⟩
      · simp_arith only []
        exact ⟨by rw [un, hg]; simpa using h, _, _, rfl⟩
    · have ek : gk mm lb gs ps (.two "since" a b) (lb.getD t false) = true := rfl
      rw [ek] at un
      have ip : dIx (.lst (ps.map dT)) (.int (t : Int)) = some (.tup [.str "since", dT a, dT b]) := ip
      show wo (gN 4 (.int (t : Nat)) _) _
      simp_arith only [e_in3l, wn_now, wn_yes, wn_no, wn_not, wn_next, wn_before, wn_early, wn_soon, wn_ever, wn_once, wn_sofar, wn_again, wn_settles, wn_and, wn_or, wn_then, wn_until, wn_since, wn_frees, wn_held, eq_self, e_in2, e_in2l, il, ip]
      exact ⟨by rw [un, hg]; rfl, _, _, rfl⟩
    · have er := lreads_ok C _ 40 (by have := h2.dp; omega) h2
      unfold ar at er
      have edT : dT (.two "frees" a b) = .tup [.str "frees", dT a, dT b] := rfl
      rw [edT] at er
      have ek : gk mm lb gs ps (.two "frees" a b) (lb.getD t false) = decide (rd mm lb gs ps (.two "frees" a b) = lb.getD t false) := rfl
      rw [ek] at bad un
      have ip : dIx (.lst (ps.map dT)) (.int (t : Int)) = some (.tup [.str "frees", dT a, dT b]) := ip
      show wo (gN 4 (.int (t : Nat)) _) _
      simp_arith only [e_in3l, wn_now, wn_yes, wn_no, wn_not, wn_next, wn_before, wn_early, wn_soon, wn_ever, wn_once, wn_sofar, wn_again, wn_settles, wn_and, wn_or, wn_then, wn_until, wn_since, wn_frees, wn_held, eq_self, e_in2, e_in2l, il, ip, e_neb', wf_of er]
      refine wd_of (fun h => ?_) (fun h => ?_)
      · simp_arith only []
        rw [bad (by simpa using h)]
        all_goals first | rfl | exact ⟨rfl, rfl⟩
      · simp_arith only []
        exact ⟨by rw [un, hg]; simpa using h, _, _, rfl⟩
    · have ek : gk mm lb gs ps (.two "held" a b) (lb.getD t false) = true := rfl
      rw [ek] at un
      have ip : dIx (.lst (ps.map dT)) (.int (t : Int)) = some (.tup [.str "held", dT a, dT b]) := ip
      show wo (gN 4 (.int (t : Nat)) _) _
      simp_arith only [e_in3l, wn_now, wn_yes, wn_no, wn_not, wn_next, wn_before, wn_early, wn_soon, wn_ever, wn_once, wn_sofar, wn_again, wn_settles, wn_and, wn_or, wn_then, wn_until, wn_since, wn_frees, wn_held, eq_self, e_in2, e_in2l, il, ip]
      exact ⟨by rw [un, hg]; rfl, _, _, rfl⟩
  · rintro s ⟨hg, x4, x5, rfl⟩
    simp_arith only [hg]
    all_goals first | rfl | exact ⟨rfl, rfl⟩
def fi : Tr → Bool
  | .one w _ => decide (w = "early")
  | .two w _ _ => decide (w = "held")
  | _ => false
def fiN (ps : List Tr) : List Bool := ps.map fi
theorem fi_map (ps : List Tr) : (ps.map fun p => D.bl (fi p)) = (fiN ps).map D.bl := by unfold fiN; rw [List.map_map]; rfl
theorem first_ok (H : Pt ps) : F_first_label [.d (.lst (ps.map dT))] = some (.v (.d (bT (fiN ps))), [.d (.lst (ps.map dT))]) := by
  refine wf_eq ?_
  unfold F_first_label
  have few := H.few
  simp_arith only [b_first_label]
  refine wl_map (xs := ps) dT (fun p => .bl (fi p)) (by simp [szl]; omega) (fun p hp => ?_) ?_
  · obtain ⟨h1, h2⟩ := H.ex p hp
    rcases Pt.cases h1 h2 with ⟨q, rfl | rfl | rfl, hk⟩ | ⟨a, b, rfl | rfl | rfl | rfl, hk⟩
    · show wo (gN 1 (.tup [.str "next", dT q]) _) _
      simp_arith only [wn_now, wn_yes, wn_no, wn_not, wn_next, wn_before, wn_early, wn_soon, wn_ever, wn_once, wn_sofar, wn_again, wn_settles, wn_and, wn_or, wn_then, wn_until, wn_since, wn_frees, wn_held, eq_self, e_in2, e_in2l]
      all_goals first | rfl | exact ⟨rfl, rfl⟩
    · show wo (gN 1 (.tup [.str "before", dT q]) _) _
      simp_arith only [wn_now, wn_yes, wn_no, wn_not, wn_next, wn_before, wn_early, wn_soon, wn_ever, wn_once, wn_sofar, wn_again, wn_settles, wn_and, wn_or, wn_then, wn_until, wn_since, wn_frees, wn_held, eq_self, e_in2, e_in2l]
      all_goals first | rfl | exact ⟨rfl, rfl⟩
    · show wo (gN 1 (.tup [.str "early", dT q]) _) _
      simp_arith only [wn_now, wn_yes, wn_no, wn_not, wn_next, wn_before, wn_early, wn_soon, wn_ever, wn_once, wn_sofar, wn_again, wn_settles, wn_and, wn_or, wn_then, wn_until, wn_since, wn_frees, wn_held, eq_self, e_in2, e_in2l]
      all_goals first | rfl | exact ⟨rfl, rfl⟩
    · show wo (gN 1 (.tup [.str "until", dT a, dT b]) _) _
      simp_arith only [wn_now, wn_yes, wn_no, wn_not, wn_next, wn_before, wn_early, wn_soon, wn_ever, wn_once, wn_sofar, wn_again, wn_settles, wn_and, wn_or, wn_then, wn_until, wn_since, wn_frees, wn_held, eq_self, e_in2, e_in2l]
      all_goals first | rfl | exact ⟨rfl, rfl⟩
    · show wo (gN 1 (.tup [.str "since", dT a, dT b]) _) _
      simp_arith only [wn_now, wn_yes, wn_no, wn_not, wn_next, wn_before, wn_early, wn_soon, wn_ever, wn_once, wn_sofar, wn_again, wn_settles, wn_and, wn_or, wn_then, wn_until, wn_since, wn_frees, wn_held, eq_self, e_in2, e_in2l]
      all_goals first | rfl | exact ⟨rfl, rfl⟩
    · show wo (gN 1 (.tup [.str "frees", dT a, dT b]) _) _
      simp_arith only [wn_now, wn_yes, wn_no, wn_not, wn_next, wn_before, wn_early, wn_soon, wn_ever, wn_once, wn_sofar, wn_again, wn_settles, wn_and, wn_or, wn_then, wn_until, wn_since, wn_frees, wn_held, eq_self, e_in2, e_in2l]
      all_goals first | rfl | exact ⟨rfl, rfl⟩
    · show wo (gN 1 (.tup [.str "held", dT a, dT b]) _) _
      simp_arith only [wn_now, wn_yes, wn_no, wn_not, wn_next, wn_before, wn_early, wn_soon, wn_ever, wn_once, wn_sofar, wn_again, wn_settles, wn_and, wn_or, wn_then, wn_until, wn_since, wn_frees, wn_held, eq_self, e_in2, e_in2l]
      all_goals first | rfl | exact ⟨rfl, rfl⟩
  · simp_arith only [fi_map]
    all_goals first | rfl | exact ⟨rfl, rfl⟩
theorem lfirst_ok (H : Pt ps) : F__law_first [.d (.lst (ps.map dT))] = some (.v (.d (bT (fiN ps))), [.d (.lst (ps.map dT))]) := by
  refine wf_eq ?_
  unfold F__law_first
  have few := H.few
  simp_arith only [b__law_first]
  refine wl_map (xs := ps) dT (fun p => .bl (fi p)) (by simp [szl]; omega) (fun p hp => ?_) ?_
  · obtain ⟨h1, h2⟩ := H.ex p hp
    rcases Pt.cases h1 h2 with ⟨q, rfl | rfl | rfl, hk⟩ | ⟨a, b, rfl | rfl | rfl | rfl, hk⟩
    · show wo (gN 1 (.tup [.str "next", dT q]) _) _
      simp_arith only [e_in2l, wn_now, wn_yes, wn_no, wn_not, wn_next, wn_before, wn_early, wn_soon, wn_ever, wn_once, wn_sofar, wn_again, wn_settles, wn_and, wn_or, wn_then, wn_until, wn_since, wn_frees, wn_held, eq_self, e_in2, e_in2l]
      all_goals first | rfl | exact ⟨rfl, rfl⟩
    · show wo (gN 1 (.tup [.str "before", dT q]) _) _
      simp_arith only [e_in2l, wn_now, wn_yes, wn_no, wn_not, wn_next, wn_before, wn_early, wn_soon, wn_ever, wn_once, wn_sofar, wn_again, wn_settles, wn_and, wn_or, wn_then, wn_until, wn_since, wn_frees, wn_held, eq_self, e_in2, e_in2l]
      all_goals first | rfl | exact ⟨rfl, rfl⟩
    · show wo (gN 1 (.tup [.str "early", dT q]) _) _
      simp_arith only [e_in2l, wn_now, wn_yes, wn_no, wn_not, wn_next, wn_before, wn_early, wn_soon, wn_ever, wn_once, wn_sofar, wn_again, wn_settles, wn_and, wn_or, wn_then, wn_until, wn_since, wn_frees, wn_held, eq_self, e_in2, e_in2l]
      all_goals first | rfl | exact ⟨rfl, rfl⟩
    · show wo (gN 1 (.tup [.str "until", dT a, dT b]) _) _
      simp_arith only [e_in2l, wn_now, wn_yes, wn_no, wn_not, wn_next, wn_before, wn_early, wn_soon, wn_ever, wn_once, wn_sofar, wn_again, wn_settles, wn_and, wn_or, wn_then, wn_until, wn_since, wn_frees, wn_held, eq_self, e_in2, e_in2l]
      all_goals first | rfl | exact ⟨rfl, rfl⟩
    · show wo (gN 1 (.tup [.str "since", dT a, dT b]) _) _
      simp_arith only [e_in2l, wn_now, wn_yes, wn_no, wn_not, wn_next, wn_before, wn_early, wn_soon, wn_ever, wn_once, wn_sofar, wn_again, wn_settles, wn_and, wn_or, wn_then, wn_until, wn_since, wn_frees, wn_held, eq_self, e_in2, e_in2l]
      all_goals first | rfl | exact ⟨rfl, rfl⟩
    · show wo (gN 1 (.tup [.str "frees", dT a, dT b]) _) _
      simp_arith only [e_in2l, wn_now, wn_yes, wn_no, wn_not, wn_next, wn_before, wn_early, wn_soon, wn_ever, wn_once, wn_sofar, wn_again, wn_settles, wn_and, wn_or, wn_then, wn_until, wn_since, wn_frees, wn_held, eq_self, e_in2, e_in2l]
      all_goals first | rfl | exact ⟨rfl, rfl⟩
    · show wo (gN 1 (.tup [.str "held", dT a, dT b]) _) _
      simp_arith only [e_in2l, wn_now, wn_yes, wn_no, wn_not, wn_next, wn_before, wn_early, wn_soon, wn_ever, wn_once, wn_sofar, wn_again, wn_settles, wn_and, wn_or, wn_then, wn_until, wn_since, wn_frees, wn_held, eq_self, e_in2, e_in2l]
      all_goals first | rfl | exact ⟨rfl, rfl⟩
  · simp_arith only [fi_map]
    all_goals first | rfl | exact ⟨rfl, rfl⟩
end
end K31
set_option Elab.async false
set_option linter.all false
set_option maxRecDepth 100000
set_option maxHeartbeats 4000000
namespace K31
open PySem hiding ret plain
open Fz hiding tb nx
section
variable {M : D} {mm : Str → Bool} {lb gs : List Bool} {ps : List Tr}
def rg : Tr → Bool
  | .two w _ _ => decide (w = "until") || decide (w = "frees")
  | _ => false
def rings (mm : Str → Bool) (lb gs : List Bool) (ps : List Tr) : Tr → Bool
  | .two w a b => if w = "until" then !rd mm lb gs ps (.two w a b) || rd mm lb gs ps b else rd mm lb gs ps (.two w a b) || !rd mm lb gs ps b
  | _ => false
def bl (mm : Str → Bool) (lb gs : List Bool) (ps : List Tr) : Nat → List Tr → List Nat
  | _, [] => []
  | k, p :: r => (if rings mm lb gs ps p = true then [k] else []) ++ bl mm lb gs ps (k + 1) r
theorem bl_snoc (p : Tr) : ∀ (l : List Tr) (k : Nat), bl mm lb gs ps k (l ++ [p]) = bl mm lb gs ps k l ++ (if rings mm lb gs ps p = true then [k + l.length] else [])
  | [], k => by show _ ++ [] = [] ++ _; rw [List.append_nil]; rfl
  | q :: r, k => by
    show _ ++ bl mm lb gs ps (k + 1) (r ++ [p]) = (_ ++ bl mm lb gs ps (k + 1) r) ++ _
    rw [bl_snoc p r (k + 1), List.append_assoc, List.length_cons, show k + 1 + r.length = k + (r.length + 1) by omega]
theorem bl_len : ∀ (l : List Tr) (k : Nat), (bl mm lb gs ps k l).length ≤ l.length
  | [], _ => Nat.le_refl _
  | q :: r, k => by
    show ((if _ then [k] else []) ++ bl mm lb gs ps (k + 1) r).length ≤ r.length + 1
    rw [List.length_append]
    have := bl_len r (k + 1)
    split <;> simp <;> omega
def iL (l : List Nat) : List D := l.map fun k : Nat => D.int (k : Int)
theorem iL_app (a b : List Nat) : iL (a ++ b) = iL a ++ iL b := List.map_append
theorem ri (t : Nat) (b : Bool) (l : List Nat) : iL l ++ iL (if b = true then [t] else []) = if b = true then iL l ++ [.int (t : Nat)] else iL l := by
  cases b
  · simp [iL]
  · simp [iL]
theorem take_snoc {l : List Tr} {t : Nat} (h : t < l.length) : l.take (t + 1) = l.take t ++ [l.getD t .yes] := by
  rw [List.take_succ_eq_append_getElem h, List.getD_eq_getElem?_getD, List.getElem?_eq_getElem h]; rfl
theorem for_ts {g : D → Sl → Option Sl} {body : MS} {st : Sl} {QS : Fl → Sl → Prop} (ts : List Tr) (I : Nat → Sl → Prop) (h0 : I 0 st) (hs : ∀ t, t < ts.length → ∀ s, I t s → wo (g (dT (ts.getD t .yes)) s) fun s1 => ws body s1 (lp QS fun s2 => I (t + 1) s2)) (h1 : ∀ s, I ts.length s → QS .nx s) : ws (forL g body (ts.map dT)) st QS := by
  rw [map_getD dT .yes ts]
  exact for_ix ts.length (fun i => dT (ts.getD i .yes)) I h0 hs h1
theorem rung_ok (C : Ct M mm lb gs ps) (H : Pt ps) : F_bells_rung (ar4 M lb gs ps) = some (.v (.d (.tup (iL (bl mm lb gs ps 0 (ps.filter rg))))), ar4 M lb gs ps) := by
  refine wf_eq ?_
  unfold F_bells_rung ar4
  have few := H.few
  simp_arith only [b_bells_rung, c_RINGING]
  refine wl_filter (xs := ps) dT rg dT (by simp [szl]; omega) (fun p hp => ?_) ?_
  · obtain ⟨h1, h2⟩ := H.ex p hp
    rcases Pt.cases h1 h2 with ⟨q, rfl | rfl | rfl, hk⟩ | ⟨a, b, rfl | rfl | rfl | rfl, hk⟩
    · have er_ : rg (.one "next" q) = false := rfl
      rw [er_]
      show wo (gN 6 (.tup [.str "next", dT q]) _) _
      simp_arith only [e_in2l, wn_now, wn_yes, wn_no, wn_not, wn_next, wn_before, wn_early, wn_soon, wn_ever, wn_once, wn_sofar, wn_again, wn_settles, wn_and, wn_or, wn_then, wn_until, wn_since, wn_frees, wn_held, eq_self, e_in2, e_in2l]
      exact ⟨fun _ => trivial, fun h => h.elim⟩
    · have er_ : rg (.one "before" q) = false := rfl
      rw [er_]
      show wo (gN 6 (.tup [.str "before", dT q]) _) _
      simp_arith only [e_in2l, wn_now, wn_yes, wn_no, wn_not, wn_next, wn_before, wn_early, wn_soon, wn_ever, wn_once, wn_sofar, wn_again, wn_settles, wn_and, wn_or, wn_then, wn_until, wn_since, wn_frees, wn_held, eq_self, e_in2, e_in2l]
      exact ⟨fun _ => trivial, fun h => h.elim⟩
    · have er_ : rg (.one "early" q) = false := rfl
      rw [er_]
      show wo (gN 6 (.tup [.str "early", dT q]) _) _
      simp_arith only [e_in2l, wn_now, wn_yes, wn_no, wn_not, wn_next, wn_before, wn_early, wn_soon, wn_ever, wn_once, wn_sofar, wn_again, wn_settles, wn_and, wn_or, wn_then, wn_until, wn_since, wn_frees, wn_held, eq_self, e_in2, e_in2l]
      exact ⟨fun _ => trivial, fun h => h.elim⟩
    · have er_ : rg (.two "until" a b) = true := rfl
      rw [er_]
      show wo (gN 6 (.tup [.str "until", dT a, dT b]) _) _
      simp_arith only [e_in2l, wn_now, wn_yes, wn_no, wn_not, wn_next, wn_before, wn_early, wn_soon, wn_ever, wn_once, wn_sofar, wn_again, wn_settles, wn_and, wn_or, wn_then, wn_until, wn_since, wn_frees, wn_held, eq_self, e_in2, e_in2l]
      exact ⟨fun h => h.elim, fun _ => rfl⟩
    · have er_ : rg (.two "since" a b) = false := rfl
      rw [er_]
      show wo (gN 6 (.tup [.str "since", dT a, dT b]) _) _
      simp_arith only [e_in2l, wn_now, wn_yes, wn_no, wn_not, wn_next, wn_before, wn_early, wn_soon, wn_ever, wn_once, wn_sofar, wn_again, wn_settles, wn_and, wn_or, wn_then, wn_until, wn_since, wn_frees, wn_held, eq_self, e_in2, e_in2l]
      exact ⟨fun _ => trivial, fun h => h.elim⟩
    · have er_ : rg (.two "frees" a b) = true := rfl
      rw [er_]
      show wo (gN 6 (.tup [.str "frees", dT a, dT b]) _) _
      simp_arith only [e_in2l, wn_now, wn_yes, wn_no, wn_not, wn_next, wn_before, wn_early, wn_soon, wn_ever, wn_once, wn_sofar, wn_again, wn_settles, wn_and, wn_or, wn_then, wn_until, wn_since, wn_frees, wn_held, eq_self, e_in2, e_in2l]
      exact ⟨fun h => h.elim, fun _ => rfl⟩
    · have er_ : rg (.two "held" a b) = false := rfl
      rw [er_]
      show wo (gN 6 (.tup [.str "held", dT a, dT b]) _) _
      simp_arith only [e_in2l, wn_now, wn_yes, wn_no, wn_not, wn_next, wn_before, wn_early, wn_soon, wn_ever, wn_once, wn_sofar, wn_again, wn_settles, wn_and, wn_or, wn_then, wn_until, wn_since, wn_frees, wn_held, eq_self, e_in2, e_in2l]
      exact ⟨fun _ => trivial, fun h => h.elim⟩
  · have hq : ∀ p ∈ ps.filter rg, p ∈ ps ∧ rg p = true := fun p hp => List.mem_filter.mp hp
    have lq : (ps.filter rg).length ≤ ps.length := List.length_filter_le _ _
    generalize ps.filter rg = qs at hq lq
    simp_arith only [enum_dT]
    refine for_ix qs.length _ (fun t s => ∃ x5 x6 x7 x8, s = [some (.d M), some (.d (bT lb)), some (.d (bT gs)), some (.d (.lst (ps.map dT))), some (.ol (iL (bl mm lb gs ps 0 (qs.take t)))), x5, x6, x7, x8]) ⟨_, _, _, _, rfl⟩ ?_ ?_
    · rintro t ht s ⟨x5, x6, x7, x8, rfl⟩
      have tk := take_snoc ht
      obtain ⟨hp, hr⟩ := hq _ (getD_mem' ht)
      obtain ⟨h1, h2⟩ := H.ex _ hp
      have lz : ((iL (bl mm lb gs ps 0 (qs.take t))).length < 16777216) = True := eq_true (by unfold iL; rw [List.length_map]; have := bl_len (mm := mm) (lb := lb) (gs := gs) (ps := ps) (qs.take t) 0; rw [List.length_take] at this; omega)
      rw [tk, bl_snoc, List.length_take, Nat.min_eq_left (Nat.le_of_lt ht), Nat.zero_add, iL_app]
      generalize qs.getD t .yes = p at *
      rcases Pt.cases h1 h2 with ⟨q, rfl | rfl | rfl, hk⟩ | ⟨a, b, rfl | rfl | rfl | rfl, hk⟩
      · exact absurd (show false = true from hr) (by decide)
      · exact absurd (show false = true from hr) (by decide)
      · exact absurd (show false = true from hr) (by decide)
      · have e1 := reads_ok C h2
        have e2 := reads_ok C hk
        unfold ar at e1 e2
        have edT : dT (.two "until" a b) = .tup [.str "until", dT a, dT b] := rfl
        rw [edT] at e1
        have hr1 : rings mm lb gs ps (.two "until" a b) = (!rd mm lb gs ps (.two "until" a b) || rd mm lb gs ps b) := rfl
        rw [hr1, ri]
        cases hx : rd mm lb gs ps (.two "until" a b) <;> cases hy : rd mm lb gs ps b <;> rw [hx] at e1 <;> rw [hy] at e2
        all_goals
          show wo (gT 2 _ (.tup [.int (t : Nat), .tup [.str "until", dT a, dT b]]) _) _
          simp_arith only [wn_now, wn_yes, wn_no, wn_not, wn_next, wn_before, wn_early, wn_soon, wn_ever, wn_once, wn_sofar, wn_again, wn_settles, wn_and, wn_or, wn_then, wn_until, wn_since, wn_frees, wn_held, eq_self, e_in2, e_in2l, wf_of e1, wf_of e2, lz]
          all_goals first | exact ⟨_, _, _, _, rfl⟩ | exact ⟨_, _, _, rfl⟩
      · exact absurd (show false = true from hr) (by decide)
      · have e1 := reads_ok C h2
        have e2 := reads_ok C hk
        unfold ar at e1 e2
        have edT : dT (.two "frees" a b) = .tup [.str "frees", dT a, dT b] := rfl
        rw [edT] at e1
        have hr1 : rings mm lb gs ps (.two "frees" a b) = (rd mm lb gs ps (.two "frees" a b) || !rd mm lb gs ps b) := rfl
        rw [hr1, ri]
        cases hx : rd mm lb gs ps (.two "frees" a b) <;> cases hy : rd mm lb gs ps b <;> rw [hx] at e1 <;> rw [hy] at e2
        all_goals
          show wo (gT 2 _ (.tup [.int (t : Nat), .tup [.str "frees", dT a, dT b]]) _) _
          simp_arith only [wn_now, wn_yes, wn_no, wn_not, wn_next, wn_before, wn_early, wn_soon, wn_ever, wn_once, wn_sofar, wn_again, wn_settles, wn_and, wn_or, wn_then, wn_until, wn_since, wn_frees, wn_held, eq_self, e_in2, e_in2l, wf_of e1, wf_of e2, lz]
          all_goals first | exact ⟨_, _, _, _, rfl⟩ | exact ⟨_, _, _, rfl⟩
      · exact absurd (show false = true from hr) (by decide)
    · rintro s ⟨x5, x6, x7, x8, rfl⟩
      rw [List.take_length]
      simp_arith only []
      all_goals first | rfl | exact ⟨rfl, rfl⟩
theorem lrung_ok (C : Ct M mm lb gs ps) (H : Pt ps) : F__law_rung (ar4 M lb gs ps) = some (.v (.d (.tup (iL (bl mm lb gs ps 0 (ps.filter rg))))), ar4 M lb gs ps) := by
  refine wf_eq ?_
  unfold F__law_rung ar4
  have few := H.few
  simp_arith only [b__law_rung]
  refine for_ts ps (fun t s => ∃ x6 x7 x8, s = [some (.d M), some (.d (bT lb)), some (.d (bT gs)), some (.d (.lst (ps.map dT))), some (.ol (iL (bl mm lb gs ps 0 ((ps.take t).filter rg)))), some (.d (.int (((ps.take t).filter rg).length : Nat))), x6, x7, x8]) ⟨_, _, _, rfl⟩ ?_ ?_
  · rintro t ht s ⟨x6, x7, x8, rfl⟩
    have tk := take_snoc ht
    obtain ⟨h1, h2⟩ := H.ex _ (getD_mem' ht)
    have lz : ((iL (bl mm lb gs ps 0 ((ps.take t).filter rg))).length < 16777216) = True := eq_true (by unfold iL; rw [List.length_map]; have h3 := bl_len (mm := mm) (lb := lb) (gs := gs) (ps := ps) ((ps.take t).filter rg) 0; have h4 : ((ps.take t).filter rg).length ≤ (ps.take t).length := List.length_filter_le _ _; rw [List.length_take] at h4; omega)
    rw [tk, List.filter_append]
    generalize ps.getD t .yes = p at *
    generalize (ps.take t).filter rg = qs at *
    rcases Pt.cases h1 h2 with ⟨q, rfl | rfl | rfl, hk⟩ | ⟨a, b, rfl | rfl | rfl | rfl, hk⟩
    · have er_ : [.one "next" q].filter rg = [] := rfl
      rw [er_, List.append_nil]
      show wo (gN 6 (.tup [.str "next", dT q]) _) _
      simp_arith only [wn_now, wn_yes, wn_no, wn_not, wn_next, wn_before, wn_early, wn_soon, wn_ever, wn_once, wn_sofar, wn_again, wn_settles, wn_and, wn_or, wn_then, wn_until, wn_since, wn_frees, wn_held, eq_self, e_in2, e_in2l]
      exact ⟨_, _, _, rfl⟩
    · have er_ : [.one "before" q].filter rg = [] := rfl
      rw [er_, List.append_nil]
      show wo (gN 6 (.tup [.str "before", dT q]) _) _
      simp_arith only [wn_now, wn_yes, wn_no, wn_not, wn_next, wn_before, wn_early, wn_soon, wn_ever, wn_once, wn_sofar, wn_again, wn_settles, wn_and, wn_or, wn_then, wn_until, wn_since, wn_frees, wn_held, eq_self, e_in2, e_in2l]
      exact ⟨_, _, _, rfl⟩
    · have er_ : [.one "early" q].filter rg = [] := rfl
      rw [er_, List.append_nil]
      show wo (gN 6 (.tup [.str "early", dT q]) _) _
      simp_arith only [wn_now, wn_yes, wn_no, wn_not, wn_next, wn_before, wn_early, wn_soon, wn_ever, wn_once, wn_sofar, wn_again, wn_settles, wn_and, wn_or, wn_then, wn_until, wn_since, wn_frees, wn_held, eq_self, e_in2, e_in2l]
      exact ⟨_, _, _, rfl⟩
    · have e1 := lreads_ok C _ 40 (by have := h2.dp; omega) h2
      have e2 := lreads_ok C _ 40 (by have := hk.dp; omega) hk
      unfold ar at e1 e2
      have edT : dT (.two "until" a b) = .tup [.str "until", dT a, dT b] := rfl
      rw [edT] at e1
      have hr1 : rings mm lb gs ps (.two "until" a b) = (!rd mm lb gs ps (.two "until" a b) || rd mm lb gs ps b) := rfl
      have er_ : [.two "until" a b].filter rg = [.two "until" a b] := rfl
      rw [er_, bl_snoc, hr1, Nat.zero_add, iL_app, List.length_append, ri]
      cases hx : rd mm lb gs ps (.two "until" a b) <;> cases hy : rd mm lb gs ps b <;> rw [hx] at e1 <;> rw [hy] at e2
      all_goals
        show wo (gN 6 (.tup [.str "until", dT a, dT b]) _) _
        simp_arith only [wn_now, wn_yes, wn_no, wn_not, wn_next, wn_before, wn_early, wn_soon, wn_ever, wn_once, wn_sofar, wn_again, wn_settles, wn_and, wn_or, wn_then, wn_until, wn_since, wn_frees, wn_held, eq_self, e_in2, e_in2l, wf_of e1, wf_of e2, lz]
        all_goals first | exact ⟨_, _, _, _, rfl⟩ | exact ⟨_, _, _, rfl⟩
    · have er_ : [.two "since" a b].filter rg = [] := rfl
      rw [er_, List.append_nil]
      show wo (gN 6 (.tup [.str "since", dT a, dT b]) _) _
      simp_arith only [wn_now, wn_yes, wn_no, wn_not, wn_next, wn_before, wn_early, wn_soon, wn_ever, wn_once, wn_sofar, wn_again, wn_settles, wn_and, wn_or, wn_then, wn_until, wn_since, wn_frees, wn_held, eq_self, e_in2, e_in2l]
      exact ⟨_, _, _, rfl⟩
    · have e1 := lreads_ok C _ 40 (by have := h2.dp; omega) h2
      have e2 := lreads_ok C _ 40 (by have := hk.dp; omega) hk
      unfold ar at e1 e2
      have edT : dT (.two "frees" a b) = .tup [.str "frees", dT a, dT b] := rfl
      rw [edT] at e1
      have hr1 : rings mm lb gs ps (.two "frees" a b) = (rd mm lb gs ps (.two "frees" a b) || !rd mm lb gs ps b) := rfl
      have er_ : [.two "frees" a b].filter rg = [.two "frees" a b] := rfl
      rw [er_, bl_snoc, hr1, Nat.zero_add, iL_app, List.length_append, ri]
      cases hx : rd mm lb gs ps (.two "frees" a b) <;> cases hy : rd mm lb gs ps b <;> rw [hx] at e1 <;> rw [hy] at e2
      all_goals
        show wo (gN 6 (.tup [.str "frees", dT a, dT b]) _) _
        simp_arith only [wn_now, wn_yes, wn_no, wn_not, wn_next, wn_before, wn_early, wn_soon, wn_ever, wn_once, wn_sofar, wn_again, wn_settles, wn_and, wn_or, wn_then, wn_until, wn_since, wn_frees, wn_held, eq_self, e_in2, e_in2l, wf_of e1, wf_of e2, lz]
        all_goals first | exact ⟨_, _, _, _, rfl⟩ | exact ⟨_, _, _, rfl⟩
    · have er_ : [.two "held" a b].filter rg = [] := rfl
      rw [er_, List.append_nil]
      show wo (gN 6 (.tup [.str "held", dT a, dT b]) _) _
      simp_arith only [wn_now, wn_yes, wn_no, wn_not, wn_next, wn_before, wn_early, wn_soon, wn_ever, wn_once, wn_sofar, wn_again, wn_settles, wn_and, wn_or, wn_then, wn_until, wn_since, wn_frees, wn_held, eq_self, e_in2, e_in2l]
      exact ⟨_, _, _, rfl⟩
  · rintro s ⟨x6, x7, x8, rfl⟩
    rw [List.take_length]
    simp_arith only []
    all_goals first | rfl | exact ⟨rfl, rfl⟩
end
end K31
set_option Elab.async false
set_option linter.all false
set_option maxRecDepth 100000
set_option maxHeartbeats 4000000
namespace K31
open PySem hiding ret plain
open Fz hiding tb nx
def ww : Tr → Str
  | .yes => "yes"
  | .no => "no"
  | .now _ => "now"
  | .one w _ => w
  | .two w _ _ => w
def ch : Tr → List Tr
  | .one _ t => [t]
  | .two _ a b => [a, b]
  | _ => []
def isNow : Tr → Bool
  | .now _ => true
  | _ => false
theorem dT_ch {t : Tr} (h : isNow t = false) : dT t = .tup (.str (ww t) :: (ch t).map dT) := by cases t <;> first | rfl | cases h
theorem dp_ch {t c : Tr} {n : Nat} (h : dp t ≤ n + 1) (hc : c ∈ ch t) : dp c ≤ n := by
  cases t with
  | one w t => simp only [ch, List.mem_singleton] at hc; subst hc; simp only [dp] at h; omega
  | two w a b =>
    simp only [ch, List.mem_cons, List.not_mem_nil, or_false] at hc
    simp only [dp] at h
    rcases hc with rfl | rfl <;> omega
  | _ => cases hc
theorem subs_ch (t : Tr) : subs t = t :: (ch t).flatMap subs := by cases t <;> simp [subs, ch]
theorem ww_now {t : Tr} (h : isNow t = false) (k : Pl t) : ww t ≠ "now" := by
  cases t with
  | yes => decide +kernel
  | no => decide +kernel
  | now m => cases h
  | one w t => obtain ⟨hw, _⟩ := id k; show w ≠ "now"; rcases hw with rfl | rfl | rfl | rfl <;> decide +kernel
  | two w a b => obtain ⟨hw, _⟩ := id k; show w ≠ "now"; rcases hw with rfl | rfl | rfl | rfl | rfl | rfl <;> decide +kernel
theorem Pl.ch {t c : Tr} (h : Pl t) (hc : c ∈ ch t) : Pl c := by
  cases t with
  | one w t => simp only [K31.ch, List.mem_singleton] at hc; subst hc; exact h.2
  | two w a b =>
    simp only [K31.ch, List.mem_cons, List.not_mem_nil, or_false] at hc
    rcases hc with rfl | rfl
    · exact h.2.1
    · exact h.2.2
  | _ => cases hc
theorem cat_dT {A B : List Tr} (h : A.length + B.length ≤ 1000000) : gCat (.lst (A.map dT)) (.lst (B.map dT)) = some ((A ++ B).map dT) := by
  show (if (A.map dT).length + (B.map dT).length ≤ sizeLine then some (A.map dT ++ B.map dT) else none) = _
  rw [if_pos (by simp [szl]; omega), List.map_append]
theorem flat_take {l : List Tr} {k : Nat} (h : k < l.length) : (l.take (k + 1)).flatMap subs = (l.take k).flatMap subs ++ subs (l.getD k .yes) := by
  rw [take_snoc h, List.flatMap_append]; simp
theorem flat_le (l : List Tr) (k : Nat) : ((l.take k).flatMap subs).length ≤ (l.flatMap subs).length := by
  have : l.flatMap subs = (l.take k).flatMap subs ++ (l.drop k).flatMap subs := by rw [← List.flatMap_append, List.take_append_drop]
  rw [this, List.length_append]; omega
theorem within_ok : ∀ (n : Nat) (t : Tr), dp t ≤ n → Pl t → (subs t).length ≤ 10000 → F__law_within n [.d (dT t)] = some (.v (.ol ((subs t).map dT)), [.d (dT t)])
  | 0, t, h, _, _ => by have := dp_pos t; omega
  | n + 1, t, h, hP, hs => by
    refine wf_eq ?_
    show wf (fnOf _ _ _ (b__law_within (F__law_within n))) _ _
    cases hn : isNow t with
    | true =>
      cases t with
      | now m =>
        show wf _ [.d (.tup [.str "now", .str m])] _
        simp_arith only [b__law_within]
        exact ⟨rfl, rfl⟩
      | _ => cases hn
    | false =>
      have e := dT_ch hn
      have nw : (ww t = "now") = False := eq_false (ww_now hn hP)
      rw [e]
      have es := subs_ch t
      simp_arith only [b__law_within, nw, e_slt1]
      refine for_ts (ch t) (fun k s => ∃ x2, s = [some (.d (.tup (.str (ww t) :: (ch t).map dT))), some (.ol ((t :: ((ch t).take k).flatMap subs).map dT)), x2]) ⟨_, by rw [List.take_zero, List.flatMap_nil, List.map_cons, List.map_nil, e]⟩ ?_ ?_
      · rintro k hk s ⟨x2, rfl⟩
        have hm := getD_mem' hk
        have f1 := flat_take hk
        have l1 := flat_le (ch t) (k + 1)
        have lt : ((ch t).flatMap subs).length + 1 = (subs t).length := by rw [es]; rfl
        rw [f1] at l1 ⊢
        rw [List.length_append] at l1
        have ec := within_ok n _ (dp_ch h hm) (hP.ch hm) (by omega)
        have g1 := cat_dT (A := t :: ((ch t).take k).flatMap subs) (B := subs ((ch t).getD k .yes)) (by simp only [List.length_cons]; omega)
        rw [List.map_cons, e] at g1
        rw [List.map_cons, e]
        generalize (ch t).getD k .yes = c at *
        simp_arith only [wf_of ec, g1]
        exact ⟨_, rfl⟩
      · rintro s ⟨x2, rfl⟩
        rw [List.take_length, ← es]
        simp_arith only []
        all_goals first | rfl | exact ⟨rfl, rfl⟩
def fin (t : Tr) (f : List Tr) : List Tr := if lk t = true ∧ t ∉ f then f ++ [t] else f
def pt : Tr → List Tr
  | .one w t => fin (.one w t) (pt t)
  | .two w a b => fin (.two w a b) (pt a ++ (pt b).filter fun p => !decide (p ∈ pt a))
  | _ => []
def stp (acc : List Tr) (c : Tr) : List Tr := acc ++ (pt c).filter fun p => !decide (p ∈ acc)
theorem pt_ch (t : Tr) : pt t = fin t ((ch t).foldl stp []) := by
  cases t with
  | yes => rfl
  | no => rfl
  | now m => rfl
  | one w t =>
    have : (pt t).filter (fun p => !decide (p ∈ ([] : List Tr))) = pt t := List.filter_eq_self.mpr fun p _ => by simp
    show fin _ (pt t) = fin _ ([] ++ (pt t).filter fun p => !decide (p ∈ ([] : List Tr)))
    rw [this]; rfl
  | two w a b =>
    have h0 : (pt a).filter (fun p => !decide (p ∈ ([] : List Tr))) = pt a := List.filter_eq_self.mpr fun p _ => by simp
    have : stp [] a = pt a := by unfold stp; rw [h0]; rfl
    show fin _ _ = fin _ (stp (stp [] a) b)
    rw [this]; rfl
theorem mem_fin {t s : Tr} {f : List Tr} : s ∈ fin t f ↔ s ∈ f ∨ (s = t ∧ lk t = true) := by
  unfold fin
  split
  · rename_i h
    rw [List.mem_append, List.mem_singleton]
    constructor
    · rintro (a | a)
      · exact .inl a
      · exact .inr ⟨a, h.1⟩
    · rintro (a | a)
      · exact .inl a
      · exact .inr a.1
  · rename_i h
    constructor
    · exact .inl
    · rintro (a | ⟨rfl, a⟩)
      · exact a
      · by_cases hm : s ∈ f
        · exact hm
        · exact absurd ⟨a, hm⟩ h
theorem mem_pt : ∀ (t s : Tr), s ∈ pt t ↔ s ∈ subs t ∧ lk s = true
  | .yes, s => by simp [pt, subs]; rintro rfl; rfl
  | .no, s => by simp [pt, subs]; rintro rfl; rfl
  | .now m, s => by simp [pt, subs]; rintro rfl; rfl
  | .one w t, s => by
    show s ∈ fin _ _ ↔ s ∈ _ :: subs t ∧ _
    rw [mem_fin, mem_pt t s, List.mem_cons]
    constructor
    · rintro (⟨a, b⟩ | ⟨rfl, a⟩)
      · exact ⟨.inr a, b⟩
      · exact ⟨.inl rfl, a⟩
    · rintro ⟨rfl | a, b⟩
      · exact .inr ⟨rfl, b⟩
      · exact .inl ⟨a, b⟩
  | .two w a b, s => by
    show s ∈ fin _ _ ↔ s ∈ _ :: (subs a ++ subs b) ∧ _
    have ha := mem_pt a s
    have hb := mem_pt b s
    rw [mem_fin, List.mem_append, List.mem_filter, List.mem_cons, List.mem_append]
    constructor
    · rintro ((x | ⟨x, _⟩) | ⟨rfl, x⟩)
      · exact ⟨.inr (.inl (ha.mp x).1), (ha.mp x).2⟩
      · exact ⟨.inr (.inr (hb.mp x).1), (hb.mp x).2⟩
      · exact ⟨.inl rfl, x⟩
    · rintro ⟨rfl | x | x, y⟩
      · exact .inr ⟨rfl, y⟩
      · exact .inl (.inl (ha.mpr ⟨x, y⟩))
      · by_cases h : s ∈ pt a
        · exact .inl (.inl h)
        · exact .inl (.inr ⟨hb.mpr ⟨x, y⟩, by simp [h]⟩)
theorem pt_len : ∀ t : Tr, (pt t).length ≤ (subs t).length
  | .yes => by simp [pt]
  | .no => by simp [pt]
  | .now m => by simp [pt]
  | .one w t => by
    have := pt_len t
    show (fin _ _).length ≤ (subs t).length + 1
    unfold fin; split <;> first | (simp only [List.length_append, List.length_singleton]; omega) | omega
  | .two w a b => by
    have h1 := pt_len a
    have h2 := pt_len b
    have h3 : ((pt b).filter fun p => !decide (p ∈ pt a)).length ≤ (pt b).length := List.length_filter_le _ _
    show (fin _ _).length ≤ (subs a ++ subs b).length + 1
    rw [List.length_append]; unfold fin; split <;> simp only [List.length_append, List.length_singleton] <;> omega
theorem subs_dp : ∀ (t s : Tr), s ∈ subs t → dp s ≤ dp t
  | .yes, s, h => by simp [subs] at h; subst h; exact Nat.le_refl _
  | .no, s, h => by simp [subs] at h; subst h; exact Nat.le_refl _
  | .now m, s, h => by simp [subs] at h; subst h; exact Nat.le_refl _
  | .one w t, s, h => by
    rcases List.mem_cons.mp h with rfl | h
    · exact Nat.le_refl _
    · have := subs_dp t s h; show dp s ≤ dp t + 1; omega
  | .two w a b, s, h => by
    show dp s ≤ max (dp a) (dp b) + 1
    rcases List.mem_cons.mp h with rfl | h
    · exact Nat.le_refl _
    · rcases List.mem_append.mp h with h | h
      · have := subs_dp a s h; omega
      · have := subs_dp b s h; omega
theorem subs_pl : ∀ (t s : Tr), s ∈ subs t → Pl t → Pl s
  | .yes, s, h, _ => by simp [subs] at h; subst h; trivial
  | .no, s, h, _ => by simp [subs] at h; subst h; trivial
  | .now m, s, h, _ => by simp [subs] at h; subst h; trivial
  | .one w t, s, h, k => by
    rcases List.mem_cons.mp h with rfl | h
    · exact k
    · exact subs_pl t s h k.2
  | .two w a b, s, h, k => by
    rcases List.mem_cons.mp h with rfl | h
    · exact k
    · rcases List.mem_append.mp h with h | h
      · exact subs_pl a s h k.2.1
      · exact subs_pl b s h k.2.2
theorem subs_tr : ∀ (t s r : Tr), s ∈ subs t → r ∈ subs s → r ∈ subs t
  | .yes, s, r, h, g => by simp [subs] at h; subst h; exact g
  | .no, s, r, h, g => by simp [subs] at h; subst h; exact g
  | .now m, s, r, h, g => by simp [subs] at h; subst h; exact g
  | .one w t, s, r, h, g => by
    rcases List.mem_cons.mp h with rfl | h
    · exact g
    · exact .tail _ (subs_tr t s r h g)
  | .two w a b, s, r, h, g => by
    rcases List.mem_cons.mp h with rfl | h
    · exact g
    · rcases List.mem_append.mp h with h | h
      · exact .tail _ (List.mem_append_left _ (subs_tr a s r h g))
      · exact .tail _ (List.mem_append_right _ (subs_tr b s r h g))
theorem kn_of {t s : Tr} (hP : Pl t) (hd : dp t ≤ 39) (h : s ∈ subs t) : Kn (pt t) s :=
  ⟨subs_pl t s h hP, Nat.le_trans (subs_dp t s h) hd, fun r hr hl => (mem_pt t r).mpr ⟨subs_tr t s r h hr, hl⟩⟩
theorem pt_ok {t : Tr} (hP : Pl t) (hd : dp t ≤ 39) (hs : (subs t).length ≤ 1000) : Pt (pt t) :=
  ⟨fun p hp => ⟨((mem_pt t p).mp hp).2, kn_of hP hd ((mem_pt t p).mp hp).1⟩, Nat.le_trans (pt_len t) hs⟩
def ws7 : List Str := ["next", "until", "frees", "before", "early", "since", "held"]
theorem in7 {w : Str} : dIn (.str w) (.lst [.str "next", .str "until", .str "frees", .str "before", .str "early", .str "since", .str "held"]) = some (.bl (decide (w ∈ ws7))) := e_inw (ws := ws7)
theorem lk7 {t : Tr} (k : Pl t) : decide (ww t ∈ ws7) = lk t := by
  cases t with
  | yes => decide +kernel
  | no => decide +kernel
  | now m => show decide (("now" : Str) ∈ ws7) = false; decide +kernel
  | one w t =>
    obtain ⟨hw, _⟩ := id k
    show decide (w ∈ ws7) = decide (w ≠ "not")
    rcases hw with rfl | rfl | rfl | rfl <;> decide +kernel
  | two w a b =>
    obtain ⟨hw, _⟩ := id k
    show decide (w ∈ ws7) = decide (w ≠ "and" ∧ w ≠ "or")
    rcases hw with rfl | rfl | rfl | rfl | rfl | rfl <;> decide +kernel
theorem stp_len (l : List Tr) : ∀ acc : List Tr, (l.foldl stp acc).length ≤ acc.length + (l.flatMap subs).length := by
  induction l with
  | nil => intro acc; simp
  | cons c r ih =>
    intro acc
    have := ih (stp acc c)
    have h2 : (stp acc c).length ≤ acc.length + (pt c).length := by unfold stp; rw [List.length_append]; have : ((pt c).filter fun p => !decide (p ∈ acc)).length ≤ (pt c).length := List.length_filter_le _ _; omega
    have h3 := pt_len c
    rw [List.foldl_cons, List.flatMap_cons, List.length_append]; omega
theorem stp_mem (l : List Tr) : ∀ (acc : List Tr) (s : Tr), s ∈ l.foldl stp acc → s ∈ acc ∨ ∃ c ∈ l, s ∈ subs c := by
  induction l with
  | nil => intro acc s h; exact .inl h
  | cons c r ih =>
    intro acc s h
    rcases ih _ s h with h | ⟨d, hd, h⟩
    · rcases List.mem_append.mp h with h | h
      · exact .inl h
      · exact .inr ⟨c, .head _, ((mem_pt c s).mp (List.mem_filter.mp h).1).1⟩
    · exact .inr ⟨d, .tail _ hd, h⟩
theorem parts_ok : ∀ (n : Nat) (t : Tr), dp t ≤ n → dp t ≤ 39 → Pl t → (subs t).length ≤ 10000 → ∃ r, (r = R.ol ((pt t).map dT) ∨ r = R.d (.lst ((pt t).map dT))) ∧ F__law_parts n [.d (dT t)] = some (.v r, [.d (dT t)])
  | 0, t, h, _, _, _ => by have := dp_pos t; omega
  | n + 1, t, h, hd, hP, hs => by
    have fin_ : wf (fnOf 1 4 kNo (b__law_parts (F__law_parts n))) [.d (dT t)] (fun o rs => (o = .v (.ol ((pt t).map dT)) ∨ o = .v (.d (.lst ((pt t).map dT)))) ∧ rs = [.d (dT t)]) → ∃ r, (r = R.ol ((pt t).map dT) ∨ r = R.d (.lst ((pt t).map dT))) ∧ F__law_parts (n + 1) [.d (dT t)] = some (.v r, [.d (dT t)]) := fun h => by
      obtain ⟨o, rs, e, h1, rfl⟩ := wf_get h
      rcases h1 with rfl | rfl
      · exact ⟨_, .inl rfl, e⟩
      · exact ⟨_, .inr rfl, e⟩
    refine fin_ ?_
    cases hn : isNow t with
    | true =>
      cases t with
      | now m =>
        have q : decide (("now" : Str) ∈ ws7) = false := by decide +kernel
        show wf _ [.d (.tup [.str "now", .str m])] _
        simp_arith only [b__law_parts, in7, q]
        exact ⟨.inl rfl, rfl⟩
      | _ => cases hn
    | false =>
      have e := dT_ch hn
      have nw : (ww t = "now") = False := eq_false (ww_now hn hP)
      have q7 := lk7 hP
      have es := subs_ch t
      have lt : ((ch t).flatMap subs).length + 1 = (subs t).length := by rw [es]; rfl
      have dch : ∀ c ∈ ch t, dp c ≤ 38 := fun c hc => dp_ch (n := 38) hd hc
      have dacc : ∀ k, ∀ s ∈ ((ch t).take k).foldl stp [], dp s ≤ 62 := fun k s hs => by
        rcases stp_mem _ _ s hs with h | ⟨c, hc, h⟩
        · cases h
        · have := subs_dp c s h
          have := dch c (List.mem_of_mem_take hc)
          omega
      have lacc : ∀ k, (((ch t).take k).foldl stp []).length ≤ 10000 := fun k => by
        have h1 := stp_len ((ch t).take k) []
        have h2 := flat_le (ch t) k
        simp only [List.length_nil, Nat.zero_add] at h1
        omega
      rw [e]
      simp_arith only [b__law_parts, nw, e_slt1]
      refine for_ts (ch t) (fun k s => ∃ x2, s = [some (.d (.tup (.str (ww t) :: (ch t).map dT))), some (.ol ((((ch t).take k).foldl stp []).map dT)), x2, none]) ⟨_, by rw [List.take_zero]; rfl⟩ ?_ ?_
      · rintro k hk s ⟨x2, rfl⟩
        have hm := getD_mem' hk
        have tk := take_snoc hk
        have hsc : (subs ((ch t).getD k .yes)).length ≤ ((ch t).flatMap subs).length := by
          have := flat_le (ch t) (k + 1)
          rw [flat_take hk, List.length_append] at this; omega
        obtain ⟨r, hr, ec⟩ := parts_ok n _ (dp_ch h hm) (Nat.le_trans (dch _ hm) (by decide)) (hP.ch hm) (by omega)
        have da := dacc k
        have la := lacc k
        have la1 := lacc (k + 1)
        have dc := dch _ hm
        rw [tk, List.foldl_append] at la1 ⊢
        show wo (gN 2 (dT ((ch t).getD k .yes)) _) _
        generalize ((ch t).take k).foldl stp [] = acc at *
        have la1 : (stp acc ((ch t).getD k .yes)).length ≤ 10000 := la1
        show wo _ fun s1 => ws _ s1 (lp _ fun s2 => ∃ x2, s2 = [_, some (.ol ((stp acc ((ch t).getD k .yes)).map dT)), x2, none])
        generalize (ch t).getD k .yes = c at *
        have lp1 := pt_len c
        rcases hr with rfl | rfl
        · simp_arith only [wf_of ec]
          refine wl_filter (xs := pt c) dT (fun p => !decide (p ∈ acc)) dT (by simp [szl]; omega) (fun p hp => ?_) ?_
          · have hd1 := subs_dp c p ((mem_pt c p).mp hp).1
            have nn := nin_dT (t := p) (ts := acc) (by omega) da
            simp_arith only [nn]
            all_goals first | rfl | exact ⟨rfl, fun _ => rfl, fun _ => ⟨rfl, rfl⟩⟩ | exact fun _ => trivial
          · have g1 := cat_dT (A := acc) (B := (pt c).filter fun p => !decide (p ∈ acc)) (by unfold stp at la1; rw [List.length_append] at la1; omega)
            simp_arith only [g1]
            exact ⟨_, rfl⟩
        · simp_arith only [wf_of ec]
          refine wl_filter (xs := pt c) dT (fun p => !decide (p ∈ acc)) dT (by simp [szl]; omega) (fun p hp => ?_) ?_
          · have hd1 := subs_dp c p ((mem_pt c p).mp hp).1
            have nn := nin_dT (t := p) (ts := acc) (by omega) da
            simp_arith only [nn]
            all_goals first | rfl | exact ⟨rfl, fun _ => rfl, fun _ => ⟨rfl, rfl⟩⟩ | exact fun _ => trivial
          · have g1 := cat_dT (A := acc) (B := (pt c).filter fun p => !decide (p ∈ acc)) (by unfold stp at la1; rw [List.length_append] at la1; omega)
            simp_arith only [g1]
            exact ⟨_, rfl⟩
      · rintro s ⟨x2, rfl⟩
        rw [List.take_length]
        have ef := pt_ch t
        have d1 : ∀ s ∈ (ch t).foldl stp [], dp s ≤ 62 := by have := dacc (ch t).length; rw [List.take_length] at this; exact this
        have l1 : ((ch t).foldl stp []).length ≤ 10000 := by have := lacc (ch t).length; rw [List.take_length] at this; exact this
        have nn := nin_dT (t := t) (ts := (ch t).foldl stp []) (by omega) d1
        rw [e] at nn
        generalize (ch t).foldl stp [] = f at *
        simp_arith only [in7, q7]
        cases hl : lk t with
        | false =>
          have e2 : pt t = f := by rw [ef]; unfold fin; rw [if_neg (by rw [hl]; simp)]
          simp_arith only [e2]
          all_goals first | exact ⟨.inl rfl, rfl⟩ | exact ⟨.inr rfl, rfl⟩ | exact .inl rfl | exact .inr rfl | trivial
        | true =>
          by_cases hm : t ∈ f
          · have e2 : pt t = f := by rw [ef]; unfold fin; rw [if_neg (fun z => z.2 hm)]
            rw [decide_eq_true hm] at nn
            simp_arith only [nn, e2]
            all_goals first | exact ⟨.inl rfl, rfl⟩ | exact ⟨.inr rfl, rfl⟩ | exact .inl rfl | exact .inr rfl | trivial
          · have e2 : pt t = f ++ [t] := by rw [ef]; unfold fin; rw [if_pos ⟨hl, hm⟩]
            have g1 := cat_dT (A := f) (B := [t]) (by simp; omega)
            rw [List.map_cons, List.map_nil, e] at g1
            rw [decide_eq_false hm] at nn
            simp_arith only [nn, e2, g1]
            all_goals first | exact ⟨.inl rfl, rfl⟩ | exact ⟨.inr rfl, rfl⟩ | exact .inl rfl | exact .inr rfl | trivial
end K31
set_option Elab.async false
set_option linter.all false
set_option maxRecDepth 100000
set_option maxHeartbeats 4000000
namespace K31
open PySem hiding ret plain
open Fz hiding tb nx
theorem cut_m1 {xs : List D} {a : D} : cutD (xs ++ [a]) none (some (-1)) = xs := by
  unfold cutD
  have e : HT.sIx (xs ++ [a]).length (xs ++ [a]).length (some (-1)) = xs.length := by
    show (if (-1 : Int) < 0 then ((-1 : Int) + ((xs ++ [a]).length : Int)).toNat else min (-1 : Int).toNat (xs ++ [a]).length) = _
    rw [if_pos (by decide)]
    simp
    omega
  rw [HT.sIx_none, e]
  simp
theorem cut_m2 {xs : List D} {a b : D} : cutD (xs ++ [a, b]) none (some (-2)) = xs := by
  unfold cutD
  have e : HT.sIx (xs ++ [a, b]).length (xs ++ [a, b]).length (some (-2)) = xs.length := by
    show (if (-2 : Int) < 0 then ((-2 : Int) + ((xs ++ [a, b]).length : Int)).toNat else min (-2 : Int).toNat (xs ++ [a, b]).length) = _
    rw [if_pos (by decide)]
    simp
    omega
  rw [HT.sIx_none, e]
  simp
theorem ix_m1 {xs : List D} {a : D} : dIx (.lst (xs ++ [a])) (.int (-1)) = some a := by
  show L2.atI (xs ++ [a]) (-1) = some a
  have e : L2.ixN (xs ++ [a]).length (-1) = some xs.length := by
    unfold L2.ixN
    simp
    omega
  unfold L2.atI
  rw [e]
  simp
theorem ix_m1b {xs : List D} {a b : D} : dIx (.lst (xs ++ [a, b])) (.int (-1)) = some b := by
  have := ix_m1 (xs := xs ++ [a]) (a := b)
  simpa using this
theorem ix_m2 {xs : List D} {a b : D} : dIx (.lst (xs ++ [a, b])) (.int (-2)) = some a := by
  show L2.atI (xs ++ [a, b]) (-2) = some a
  have e : L2.ixN (xs ++ [a, b]).length (-2) = some xs.length := by
    unfold L2.ixN
    simp
    omega
  unfold L2.atI
  rw [e]
  simp
theorem neg_i {i : Int} : dNeg (.int i) = some (.int (-i)) := rfl
theorem split1 {α : Type} {l : List α} (h : 0 < l.length) : ∃ u a, l = u ++ [a] := by
  have : l ≠ [] := fun e => by rw [e] at h; cases h
  exact ⟨l.dropLast, l.getLast this, (List.dropLast_concat_getLast this).symm⟩
theorem split2 {α : Type} {l : List α} (h : 1 < l.length) : ∃ u a b, l = u ++ [a, b] := by
  obtain ⟨u, b, rfl⟩ := split1 (l := l) (by omega)
  obtain ⟨v, a, rfl⟩ := split1 (l := u) (by simp at h; omega)
  exact ⟨v, a, b, by simp⟩
def o10 : List Str := ["not", "next", "before", "early", "soon", "ever", "once", "sofar", "again", "settles"]
def t7 : List Str := ["and", "or", "then", "until", "since", "frees", "held"]
def Rwt : Tr → Prop
  | .one w t => w ∈ o10 ∧ Rwt t
  | .two w a b => w ∈ t7 ∧ Rwt a ∧ Rwt b
  | _ => True
theorem at_l (l : List Str) (q : Int) (k : Nat) (h0 : 0 < k) (hl : k ≤ l.length) : ∃ w ∈ l, dIx (.lst (l.map D.str)) (.int (q % (k : Int))) = some (.str w) := by
  obtain ⟨j, hj, e⟩ := mod_nat q k h0
  have hj2 : j < l.length := by omega
  refine ⟨l[j], List.getElem_mem hj2, ?_⟩
  rw [e, e_ixn]
  simp [hj2]
theorem at_i (l : List Int) (q : Int) (k : Nat) (h0 : 0 < k) (hl : k ≤ l.length) : ∃ w : Int, dIx (.lst (l.map D.int)) (.int (q % (k : Int))) = some (.int w) := by
  obtain ⟨j, hj, e⟩ := mod_nat q k h0
  have hj2 : j < l.length := by omega
  refine ⟨l[j], ?_⟩
  rw [e, e_ixn]
  simp [hj2]
theorem at_leaf (m : Str) (q : Int) : ∃ t : Tr, Rwt t ∧ (subs t).length = 1 ∧ dIx (.lst [.tup [.str "now", .str m], .tup [.str "now", .str m], .tup [.str "now", .str m], .tup [.str "now", .str m], .tup [.str "yes"], .tup [.str "no"]]) (.int (q % 6)) = some (dT t) := by
  obtain ⟨j, hj, e⟩ := mod_nat q 6 (by decide)
  have e : q % 6 = (j : Int) := e
  rw [e]
  have h3 : j = 0 ∨ j = 1 ∨ j = 2 ∨ j = 3 ∨ j = 4 ∨ j = 5 := by omega
  rcases h3 with rfl | rfl | rfl | rfl | rfl | rfl
  · exact ⟨.now m, trivial, rfl, rfl⟩
  · exact ⟨.now m, trivial, rfl, rfl⟩
  · exact ⟨.now m, trivial, rfl, rfl⟩
  · exact ⟨.now m, trivial, rfl, rfl⟩
  · exact ⟨.yes, trivial, rfl, rfl⟩
  · exact ⟨.no, trivial, rfl, rfl⟩
theorem imms_dT : ∀ ts : List Tr, imms (ts.map dT) = true
  | [] => rfl
  | t :: r => by show (imm (dT t) && imms (r.map dT)) = true; rw [imm_dT, imms_dT r]; rfl
def szs (ts : List Tr) : Nat := (ts.flatMap subs).length
theorem szs_app (a b : List Tr) : szs (a ++ b) = szs a + szs b := by unfold szs; rw [List.flatMap_append, List.length_append]
theorem szs_1 (a : Tr) : szs [a] = (subs a).length := by unfold szs; simp
theorem szs_2 (a b : Tr) : szs [a, b] = (subs a).length + (subs b).length := by unfold szs; simp
def Pile (ts : List Tr) (n : Nat) : Prop := (∀ t ∈ ts, Rwt t) ∧ szs ts ≤ n
theorem Pile.push {ts : List Tr} {n : Nat} (h : Pile ts n) {t : Tr} (ht : Rwt t) (hs : (subs t).length = 1) : Pile (ts ++ [t]) (n + 1) := by
  refine ⟨fun x hx => ?_, ?_⟩
  · rcases List.mem_append.mp hx with hx | hx
    · exact h.1 x hx
    · simp at hx; subst hx; exact ht
  · rw [szs_app, szs_1]; have := h.2; omega
theorem Pile.one {us : List Tr} {a : Tr} {n : Nat} (h : Pile (us ++ [a]) n) {w : Str} (hw : w ∈ o10) : Pile (us ++ [.one w a]) (n + 1) := by
  have h2 := h.2
  rw [szs_app, szs_1] at h2
  refine ⟨fun x hx => ?_, ?_⟩
  · rcases List.mem_append.mp hx with hx | hx
    · exact h.1 x (List.mem_append_left _ hx)
    · simp at hx; subst hx; exact ⟨hw, h.1 a (by simp)⟩
  · rw [szs_app, szs_1]; show _ + ((subs a).length + 1) ≤ _; omega
theorem Pile.two {us : List Tr} {a b : Tr} {n : Nat} (h : Pile (us ++ [a, b]) n) {w : Str} (hw : w ∈ t7) : Pile (us ++ [.two w a b]) (n + 1) := by
  have h2 := h.2
  rw [szs_app, szs_2] at h2
  refine ⟨fun x hx => ?_, ?_⟩
  · rcases List.mem_append.mp hx with hx | hx
    · exact h.1 x (List.mem_append_left _ hx)
    · simp at hx; subst hx; exact ⟨hw, h.1 a (by simp), h.1 b (by simp)⟩
  · rw [szs_app, szs_1]; show _ + ((subs a ++ subs b).length + 1) ≤ _; rw [List.length_append]; omega
theorem small_wf (rs : List Int) (ms : List Str) (m0 : Int) (hr : ∀ r ∈ rs, 0 ≤ r) (h0 : 0 < rs.length) (h8 : rs.length ≤ 8) (hm : 0 < ms.length) : wf F__law_small [.d (.lst (rs.map D.int)), .d (.lst (ms.map D.str)), .d (.int m0)] fun o q => ∃ t, Rwt t ∧ (subs t).length ≤ 16 ∧ o = .v (.d (dT t)) ∧ q = [.d (.lst (rs.map D.int)), .d (.lst (ms.map D.str)), .d (.int m0)] := by
  have e10 : [D.str "not", D.str "next", D.str "before", D.str "early", D.str "soon", D.str "ever", D.str "once", D.str "sofar", D.str "again", D.str "settles"] = o10.map D.str := rfl
  have e7 : [D.str "and", D.str "or", D.str "then", D.str "until", D.str "since", D.str "frees", D.str "held"] = t7.map D.str := rfl
  have i0 : dIx (.lst (o10.map D.str)) (.int 0) = some (.str "not") := rfl
  have il0 : dIx (.lst [.int 0, .int 1, .int 1, .int 1, .int 1, .int 1, .int 1, .int 1, .int 2, .int 2]) (.int 0) = some (.int 0) := rfl
  have i37a : dIx (.lst [.int 3, .int 7]) (.int 0) = some (.int 3) := rfl
  have i37b : dIx (.lst [.int 3, .int 7]) (.int 1) = some (.int 7) := rfl
  have nw : ("not" : Str) ∈ o10 := by decide +kernel
  have ml0 : ((0 : Int) < (ms.length : Int)) = True := eq_true (by omega)
  unfold F__law_small
  have l10 : o10.length = 10 := rfl
  have l7 : t7.length = 7 := rfl
  simp_arith only [b__law_small, e10, e7, l10, l7]
  refine ws_for (fun ds s => ∃ (n : Nat) (qs : List Int) (ts : List Tr) (lf : Int) (x7 x8 x9 x10 : Option R), ds = qs.map D.int ∧ (∀ r ∈ qs, 0 ≤ r) ∧ n + qs.length = rs.length ∧ Pile ts n ∧ ts.length ≤ n ∧ (0 < n → 0 < ts.length) ∧ s = [some (R.d (.lst (rs.map D.int))), some (R.d (.lst (ms.map D.str))), some (R.d (.int m0)), some (R.ol (o10.map D.str)), some (R.ol (t7.map D.str)), some (R.ol (ts.map dT)), some (R.d (.int lf)), x7, x8, x9, x10]) ?_ ?_ ?_
  · exact ⟨0, rs, [], m0, none, none, none, none, rfl, hr, by simp, ⟨fun t h => (by cases h), Nat.le_refl _⟩, Nat.le_refl _, fun h => (by omega), rfl⟩
  · rintro d r s ⟨n, qs, ts, lf, x7, x8, x9, x10, hd, hq, hn, hP, hl, hpos, rfl⟩
    cases qs with
    | nil => simp at hd
    | cons q qs =>
      rw [List.map_cons] at hd
      injection hd with hd1 hd2
      subst hd1 hd2
      have hq0 := hq q (.head _)
      have hq1 : ∀ r ∈ qs, 0 ≤ r := fun r h => hq r (.tail _ h)
      simp only [List.length_cons] at hn
      obtain ⟨c0, ec0⟩ := at_i [0, 1, 1, 1, 1, 1, 1, 1, 2, 2] (q / 5) 10 (by decide) (by simp)
      have ec0 : dIx (.lst [.int 0, .int 1, .int 1, .int 1, .int 1, .int 1, .int 1, .int 1, .int 2, .int 2]) (.int (q / 5 % 10)) = some (.int c0) := ec0
      obtain ⟨mk, _, emk⟩ := at_l ms (q / 5) ms.length hm (Nat.le_refl _)
      obtain ⟨t, ht, hs, et⟩ := at_leaf mk (q / 31)
      have hz1 : (ts.length < 16777216) = True := eq_true (by omega)
      simp_arith only []
      refine wd_of (fun h1 => ?_) (fun h1 => ?_)
      · have h1 := of_decide_eq_true h1
        have gs : (q % 5 = 2) = False := eq_false (by omega)
        simp_arith only []
        refine wd_of (fun h2 => ?_) (fun h2 => ?_)
        · have h2 := of_decide_eq_true h2
          obtain ⟨us, a, rfl⟩ := split1 (l := ts) (by omega)
          obtain ⟨w, hw, ew⟩ := at_l o10 (q / 5) 10 (by decide) (by simp [o10])
          have ew : dIx (.lst (o10.map D.str)) (.int (q / 5 % 10)) = some (.str w) := ew
          have im : ∀ w, imms (us.map dT ++ [D.tup [D.str w, dT a]]) = true := fun w => by have := imms_dT (us ++ [.one w a]); rw [List.map_append] at this; exact this
          simp only [List.length_append, List.length_cons, List.length_nil] at hl
          have hz2 : (us.length + 1 ≤ 16777216) = True := eq_true (by omega)
          simp_arith only [ec0]
          refine wd_of (fun h3 => ?_) (fun h3 => ?_)
          · simp_arith only [il0, i0, List.map_append, neg_i, cut_m1, ix_m1, gCat, hz2, im]
            exact ⟨n + 1, qs, us ++ [.one "not" a], _, _, _, _, _, rfl, hq1, by omega, hP.one nw, by simp; omega, fun _ => (by simp), by rw [List.map_append]; rfl⟩
          · simp_arith only [ec0, ew, List.map_append, neg_i, cut_m1, ix_m1, gCat, hz2, im]
            exact ⟨n + 1, qs, us ++ [.one w a], _, _, _, _, _, rfl, hq1, by omega, hP.one hw, by simp; omega, fun _ => (by simp), by rw [List.map_append]; rfl⟩
        · simp_arith only [gs, emk, et, hz1, ml0]
          exact ⟨n + 1, qs, ts ++ [t], _, _, _, _, _, rfl, hq1, by omega, hP.push ht hs, by simp; omega, fun _ => (by simp), by rw [List.map_append]; rfl⟩
      · have h1 := of_decide_eq_false h1
        simp_arith only []
        refine wd_of (fun h2 => ?_) (fun h2 => ?_)
        · have gs := h2
          simp_arith only []
          refine wd_of (fun h3 => ?_) (fun h3 => ?_)
          · have h3 := of_decide_eq_true h3
            obtain ⟨us, a, c, rfl⟩ := split2 (l := ts) (by omega)
            have im : ∀ w, imms (us.map dT ++ [D.tup [D.str w, dT a, dT c]]) = true := fun w => by have := imms_dT (us ++ [.two w a c]); rw [List.map_append] at this; exact this
            simp only [List.length_append, List.length_cons, List.length_nil] at hl
            have hz2 : (us.length + 1 ≤ 16777216) = True := eq_true (by omega)
            by_cases hlf : (0 : Int) < lf
            · obtain ⟨w, hw, ew⟩ := at_l t7 (q / 5) 7 (by decide) (by simp [t7])
              have ew : dIx (.lst (t7.map D.str)) (.int (q / 5 % 7)) = some (.str w) := ew
              have lf1 : ((0 : Int) < lf) = True := eq_true hlf
              simp_arith only [lf1, i37b, List.map_append, neg_i, cut_m2, ix_m1b, ix_m2, ew, gCat, hz2, im]
              exact ⟨n + 1, qs, us ++ [.two w a c], _, _, _, _, _, rfl, hq1, by omega, hP.two hw, by simp; omega, fun _ => (by simp), by rw [List.map_append]; rfl⟩
            · obtain ⟨w, hw, ew⟩ := at_l t7 (q / 5) 3 (by decide) (by simp [t7])
              have ew : dIx (.lst (t7.map D.str)) (.int (q / 5 % 3)) = some (.str w) := ew
              have lf1 : ((0 : Int) < lf) = False := eq_false hlf
              simp_arith only [lf1, i37a, List.map_append, neg_i, cut_m2, ix_m1b, ix_m2, ew, gCat, hz2, im]
              exact ⟨n + 1, qs, us ++ [.two w a c], _, _, _, _, _, rfl, hq1, by omega, hP.two hw, by simp; omega, fun _ => (by simp), by rw [List.map_append]; rfl⟩
          · simp_arith only [gs, emk, et, hz1, ml0]
            exact ⟨n + 1, qs, ts ++ [t], _, _, _, _, _, rfl, hq1, by omega, hP.push ht hs, by simp; omega, fun _ => (by simp), by rw [List.map_append]; rfl⟩
        · have gs := h2
          simp_arith only [gs, emk, et, hz1, ml0]
          exact ⟨n + 1, qs, ts ++ [t], _, _, _, _, _, rfl, hq1, by omega, hP.push ht hs, by simp; omega, fun _ => (by simp), by rw [List.map_append]; rfl⟩
  · rintro s ⟨n, qs, ts, lf, x7, x8, x9, x10, hd, hq, hn, hP, hl, hpos, rfl⟩
    have hq0 : qs = [] := by cases qs with | nil => rfl | cons a b => simp at hd
    subst hq0
    simp only [List.length_nil, Nat.add_zero] at hn
    rw [kSeq_nx, n_sSeq]
    have h1 : 0 < ts.length := hpos (by omega)
    have hP2 := hP.2
    have er : (rs.map D.int)[0]? = some (.int (rs.getD 0 0)) := by simp [h0]
    refine ws_while (fun k s => ∃ (ts : List Tr) (x4 x5 : Option R), k = ts.length ∧ 0 < ts.length ∧ (∀ t ∈ ts, Rwt t) ∧ szs ts + ts.length ≤ 16 ∧ (x4 = some (R.ol (t7.map D.str)) ∨ x4 = some (R.d (.lst (t7.map D.str)))) ∧ (x5 = some (R.ol (ts.map dT)) ∨ x5 = some (R.d (.lst (ts.map dT)))) ∧
      s = [some (R.d (.lst (rs.map D.int))), some (R.d (.lst (ms.map D.str))), some (R.d (.int m0)), some (R.ol (o10.map D.str)), x4, x5, some (R.d (.int lf)), x7, x8, x9, x10]) (k := ts.length) (by omega) ⟨ts, _, _, rfl, h1, hP.1, by omega, .inl rfl, .inl rfl, rfl⟩ ?_
    rintro k s ⟨ts, x4, x5, rfl, g1, g2, g3, g4, g5, rfl⟩
    have fin : ∀ x4, wp (eTst (eBin dGt (eOp dLen (eCons (eVar 5) eNil)) (Fz.ret (D.int 1)))) [some (R.d (.lst (rs.map D.int))), some (R.d (.lst (ms.map D.str))), some (R.d (.int m0)), some (R.ol (o10.map D.str)), x4, x5, some (R.d (.int lf)), x7, x8, x9, x10] fun o s => o = .v (decide ((1 : Int) < (ts.length : Int))) ∧ s = [some (R.d (.lst (rs.map D.int))), some (R.d (.lst (ms.map D.str))), some (R.d (.int m0)), some (R.ol (o10.map D.str)), x4, some (R.d (.lst (ts.map dT))), some (R.d (.int lf)), x7, x8, x9, x10] := by
      intro x4
      rcases g5 with rfl | rfl
      · simp_arith only []
        exact ⟨rfl, rfl⟩
      · simp_arith only []
        exact ⟨rfl, rfl⟩
    refine wp_sub (fun o s z => ?_) (fin x4)
    obtain ⟨rfl, rfl⟩ := z
    rw [vs_v]
    refine wb_of (fun h2 => ?_) (fun h2 => ?_)
    · have h2 := of_decide_eq_true h2
      obtain ⟨us, a, c, rfl⟩ := split2 (l := ts) (by omega)
      obtain ⟨w, hw, ew⟩ := at_l t7 (rs.getD 0 0 / 5) 3 (by decide) (by simp [t7])
      have ew : dIx (.lst (t7.map D.str)) (.int (rs.getD 0 0 / 5 % 3)) = some (.str w) := ew
      simp only [List.length_append, List.length_cons, List.length_nil] at g3
      rw [szs_app, szs_2] at g3
      have hz2 : (us.length + 1 ≤ 16777216) = True := eq_true (by omega)
      have hp : Pile (us ++ [a, c]) (szs (us ++ [a, c])) := ⟨g2, Nat.le_refl _⟩
      have hp2 := hp.two hw
      have hp3 := hp2.2
      rw [szs_app us [a, c], szs_2] at hp3
      have fin2 : ∀ x4', (x4' = some (R.ol (t7.map D.str)) ∨ x4' = some (R.d (.lst (t7.map D.str)))) → ∃ j, j < us.length + 2 ∧ ∃ (ts : List Tr) (x4 x5 : Option R), j = ts.length ∧ 0 < ts.length ∧ (∀ t ∈ ts, Rwt t) ∧ szs ts + ts.length ≤ 16 ∧ (x4 = some (R.ol (t7.map D.str)) ∨ x4 = some (R.d (.lst (t7.map D.str)))) ∧ (x5 = some (R.ol (ts.map dT)) ∨ x5 = some (R.d (.lst (ts.map dT)))) ∧
          [some (R.d (.lst (rs.map D.int))), some (R.d (.lst (ms.map D.str))), some (R.d (.int m0)), some (R.ol (o10.map D.str)), x4', some (R.ol (us.map dT ++ [D.tup [D.str w, dT a, dT c]])), some (R.d (.int lf)), x7, x8, x9, x10] = [some (R.d (.lst (rs.map D.int))), some (R.d (.lst (ms.map D.str))), some (R.d (.int m0)), some (R.ol (o10.map D.str)), x4, x5, some (R.d (.int lf)), x7, x8, x9, x10] := fun x4' h4 =>
        ⟨us.length + 1, by omega, us ++ [.two w a c], x4', _, by simp, by simp, hp2.1, by simp only [List.length_append, List.length_cons, List.length_nil]; omega, h4, .inl (by rw [List.map_append]; rfl), rfl⟩
      rcases g4 with rfl | rfl
      · simp_arith only [List.map_append, neg_i, cut_m2, ix_m1b, ix_m2, er, ew, gCat, hz2]
        exact fin2 _ (.inr rfl)
      · simp_arith only [List.map_append, neg_i, cut_m2, ix_m1b, ix_m2, er, ew, gCat, hz2]
        exact fin2 _ (.inr rfl)
    · have h2 := of_decide_eq_false h2
      obtain ⟨t, rfl⟩ : ∃ t, ts = [t] := by
        match ts, g1, h2 with
        | [t], _, _ => exact ⟨t, rfl⟩
        | _ :: _ :: _, _, h2 => simp at h2; omega
      simp_arith only []
      exact ⟨t, g2 t (by simp), by rw [szs_1] at g3; simp only [List.length_cons, List.length_nil] at g3; omega, rfl⟩
end K31
set_option Elab.async false
set_option linter.all false
set_option maxRecDepth 100000
set_option maxHeartbeats 4000000
namespace K31
open PySem hiding ret plain
open Fz hiding tb nx
def plT : Tr → Tr
  | .one w t => if w = "soon" then .two "until" .yes (plT t) else if w = "ever" then .two "frees" .no (plT t) else if w = "once" then .two "since" .yes (plT t) else if w = "sofar" then .two "held" .no (plT t)
    else if w = "again" then .two "frees" .no (.two "until" .yes (plT t)) else if w = "settles" then .two "until" .yes (.two "frees" .no (plT t)) else .one w (plT t)
  | .two w a b => if w = "then" then .two "or" (.one "not" (plT a)) (plT b) else .two w (plT a) (plT b)
  | t => t
theorem in_o10 {w : Str} (h : w ∈ o10) : w = "not" ∨ w = "next" ∨ w = "before" ∨ w = "early" ∨ w = "soon" ∨ w = "ever" ∨ w = "once" ∨ w = "sofar" ∨ w = "again" ∨ w = "settles" := by
  unfold o10 at h
  simp only [List.mem_cons, List.not_mem_nil, or_false] at h
  exact h
theorem in_t7 {w : Str} (h : w ∈ t7) : w = "and" ∨ w = "or" ∨ w = "then" ∨ w = "until" ∨ w = "since" ∨ w = "frees" ∨ w = "held" := by
  unfold t7 at h
  simp only [List.mem_cons, List.not_mem_nil, or_false] at h
  exact h
theorem lplain_ok : ∀ (t : Tr) (n : Nat), dp t ≤ n → Rwt t → F__law_plain n [.d (dT t)] = some (.v (.d (dT (plT t))), [.d (dT t)]) := by
  intro t
  induction t with
  | yes => intro n hn _; cases n with | zero => simp [dp] at hn | succ n => rfl
  | no => intro n hn _; cases n with | zero => simp [dp] at hn | succ n => rfl
  | now m =>
    intro n hn _
    cases n with
    | zero => simp [dp] at hn
    | succ n =>
      refine wf_eq ?_
      show wf (fnOf _ _ _ (b__law_plain (F__law_plain n))) [.d (.tup [.str "now", .str m])] _
      simp_arith only [b__law_plain]
      exact ⟨rfl, rfl⟩
  | one w t ih =>
    intro n hn hk
    cases n with
    | zero => simp [dp] at hn
    | succ n =>
      have e := ih n (by simp only [dp] at hn; omega) hk.2
      refine wf_eq ?_
      show wf (fnOf _ _ _ (b__law_plain (F__law_plain n))) [.d (.tup [.str w, dT t])] _
      rcases in_o10 hk.1 with rfl | rfl | rfl | rfl | rfl | rfl | rfl | rfl | rfl | rfl <;> (simp_arith only [b__law_plain, wn_now, wn_yes, wn_no, wn_not, wn_next, wn_before, wn_early, wn_soon, wn_ever, wn_once, wn_sofar, wn_again, wn_settles, wn_and, wn_or, wn_then, wn_until, wn_since, wn_frees, wn_held, eq_self, e_in2, e_in2l, wf_of e]; exact ⟨rfl, rfl⟩)
  | two w a b iha ihb =>
    intro n hn hk
    cases n with
    | zero => simp [dp] at hn
    | succ n =>
      have ea := iha n (by simp only [dp] at hn; omega) hk.2.1
      have eb := ihb n (by simp only [dp] at hn; omega) hk.2.2
      refine wf_eq ?_
      show wf (fnOf _ _ _ (b__law_plain (F__law_plain n))) [.d (.tup [.str w, dT a, dT b])] _
      rcases in_t7 hk.1 with rfl | rfl | rfl | rfl | rfl | rfl | rfl <;> (simp_arith only [b__law_plain, wn_now, wn_yes, wn_no, wn_not, wn_next, wn_before, wn_early, wn_soon, wn_ever, wn_once, wn_sofar, wn_again, wn_settles, wn_and, wn_or, wn_then, wn_until, wn_since, wn_frees, wn_held, eq_self, e_in2, e_in2l, wf_of ea, wf_of eb]; exact ⟨rfl, rfl⟩)
theorem plT_pl : ∀ t : Tr, Rwt t → Pl (plT t) ∧ dp (plT t) ≤ 2 * dp t ∧ (subs (plT t)).length ≤ 4 * (subs t).length := by
  intro t
  induction t with
  | yes => intro _; exact ⟨trivial, by decide, by decide⟩
  | no => intro _; exact ⟨trivial, by decide, by decide⟩
  | now m => intro _; exact ⟨trivial, by show 1 ≤ 2 * 1; decide, by show 1 ≤ 4 * 1; decide⟩
  | one w t ih =>
    intro h
    obtain ⟨h1, h2, h3⟩ := ih h.2
    have e : (subs (.one w t)).length = (subs t).length + 1 := rfl
    have d : dp (.one w t) = dp t + 1 := rfl
    have p := dp_pos (plT t)
    rw [e, d]
    have u2 : ∀ (v : Str) (x : Tr), dp x ≤ dp (plT t) + 1 → (subs x).length = 1 → dp (.two v x (plT t)) ≤ 2 * (dp t + 1) := fun v x hx _ => by show max (dp x) (dp (plT t)) + 1 ≤ _; omega
    have s2 : ∀ (v : Str) (x y : Tr), (subs (.two v x y)).length = (subs x).length + (subs y).length + 1 := fun v x y => by show (subs x ++ subs y).length + 1 = _; rw [List.length_append]
    have s1 : ∀ (v : Str) (x : Tr), (subs (.one v x)).length = (subs x).length + 1 := fun v x => rfl
    have sy : (subs .yes).length = 1 := rfl
    have sn : (subs .no).length = 1 := rfl
    have dy : dp .yes = 1 := rfl
    have dn : dp .no = 1 := rfl
    have d2 : ∀ (v : Str) (x y : Tr), dp (.two v x y) = max (dp x) (dp y) + 1 := fun _ _ _ => rfl
    have d1 : ∀ (v : Str) (x : Tr), dp (.one v x) = dp x + 1 := fun _ _ => rfl
    rcases in_o10 h.1 with rfl | rfl | rfl | rfl | rfl | rfl | rfl | rfl | rfl | rfl
    · show Pl (.one "not" (plT t)) ∧ dp (.one "not" (plT t)) ≤ _ ∧ (subs (.one "not" (plT t))).length ≤ _
      exact ⟨⟨.inl rfl, h1⟩, by rw [d1]; omega, by rw [s1]; omega⟩
    · show Pl (.one "next" (plT t)) ∧ dp (.one "next" (plT t)) ≤ _ ∧ (subs (.one "next" (plT t))).length ≤ _
      exact ⟨⟨.inr (.inl rfl), h1⟩, by rw [d1]; omega, by rw [s1]; omega⟩
    · show Pl (.one "before" (plT t)) ∧ dp (.one "before" (plT t)) ≤ _ ∧ (subs (.one "before" (plT t))).length ≤ _
      exact ⟨⟨.inr (.inr (.inl rfl)), h1⟩, by rw [d1]; omega, by rw [s1]; omega⟩
    · show Pl (.one "early" (plT t)) ∧ dp (.one "early" (plT t)) ≤ _ ∧ (subs (.one "early" (plT t))).length ≤ _
      exact ⟨⟨.inr (.inr (.inr rfl)), h1⟩, by rw [d1]; omega, by rw [s1]; omega⟩
    · show Pl (.two "until" .yes (plT t)) ∧ dp (.two "until" .yes (plT t)) ≤ _ ∧ (subs (.two "until" .yes (plT t))).length ≤ _
      exact ⟨⟨.inr (.inr (.inl rfl)), trivial, h1⟩, by rw [d2, dy]; omega, by rw [s2, sy]; omega⟩
    · show Pl (.two "frees" .no (plT t)) ∧ dp (.two "frees" .no (plT t)) ≤ _ ∧ (subs (.two "frees" .no (plT t))).length ≤ _
      exact ⟨⟨.inr (.inr (.inr (.inr (.inl rfl)))), trivial, h1⟩, by rw [d2, dn]; omega, by rw [s2, sn]; omega⟩
    · show Pl (.two "since" .yes (plT t)) ∧ dp (.two "since" .yes (plT t)) ≤ _ ∧ (subs (.two "since" .yes (plT t))).length ≤ _
      exact ⟨⟨.inr (.inr (.inr (.inl rfl))), trivial, h1⟩, by rw [d2, dy]; omega, by rw [s2, sy]; omega⟩
    · show Pl (.two "held" .no (plT t)) ∧ dp (.two "held" .no (plT t)) ≤ _ ∧ (subs (.two "held" .no (plT t))).length ≤ _
      exact ⟨⟨.inr (.inr (.inr (.inr (.inr rfl)))), trivial, h1⟩, by rw [d2, dn]; omega, by rw [s2, sn]; omega⟩
    · show Pl (.two "frees" .no (.two "until" .yes (plT t))) ∧ dp (.two "frees" .no (.two "until" .yes (plT t))) ≤ _ ∧ (subs (.two "frees" .no (.two "until" .yes (plT t)))).length ≤ _
      exact ⟨⟨.inr (.inr (.inr (.inr (.inl rfl)))), trivial, .inr (.inr (.inl rfl)), trivial, h1⟩, by rw [d2, d2, dn, dy]; omega, by rw [s2, s2, sn, sy]; omega⟩
    · show Pl (.two "until" .yes (.two "frees" .no (plT t))) ∧ dp (.two "until" .yes (.two "frees" .no (plT t))) ≤ _ ∧ (subs (.two "until" .yes (.two "frees" .no (plT t)))).length ≤ _
      exact ⟨⟨.inr (.inr (.inl rfl)), trivial, .inr (.inr (.inr (.inr (.inl rfl)))), trivial, h1⟩, by rw [d2, d2, dn, dy]; omega, by rw [s2, s2, sn, sy]; omega⟩
  | two w a b iha ihb =>
    intro h
    obtain ⟨a1, a2, a3⟩ := iha h.2.1
    obtain ⟨b1, b2, b3⟩ := ihb h.2.2
    have e : (subs (.two w a b)).length = (subs a).length + (subs b).length + 1 := by show (subs a ++ subs b).length + 1 = _; rw [List.length_append]
    have d : dp (.two w a b) = max (dp a) (dp b) + 1 := rfl
    have s2 : ∀ (v : Str) (x y : Tr), (subs (.two v x y)).length = (subs x).length + (subs y).length + 1 := fun v x y => by show (subs x ++ subs y).length + 1 = _; rw [List.length_append]
    have s1 : ∀ (v : Str) (x : Tr), (subs (.one v x)).length = (subs x).length + 1 := fun v x => rfl
    have d2 : ∀ (v : Str) (x y : Tr), dp (.two v x y) = max (dp x) (dp y) + 1 := fun _ _ _ => rfl
    have d1 : ∀ (v : Str) (x : Tr), dp (.one v x) = dp x + 1 := fun _ _ => rfl
    rw [e, d]
    rcases in_t7 h.1 with rfl | rfl | rfl | rfl | rfl | rfl | rfl
    · show Pl (.two "and" (plT a) (plT b)) ∧ dp (.two "and" (plT a) (plT b)) ≤ _ ∧ (subs (.two "and" (plT a) (plT b))).length ≤ _
      exact ⟨⟨.inl rfl, a1, b1⟩, by rw [d2]; omega, by rw [s2]; omega⟩
    · show Pl (.two "or" (plT a) (plT b)) ∧ dp (.two "or" (plT a) (plT b)) ≤ _ ∧ (subs (.two "or" (plT a) (plT b))).length ≤ _
      exact ⟨⟨.inr (.inl rfl), a1, b1⟩, by rw [d2]; omega, by rw [s2]; omega⟩
    · show Pl (.two "or" (.one "not" (plT a)) (plT b)) ∧ dp (.two "or" (.one "not" (plT a)) (plT b)) ≤ _ ∧ (subs (.two "or" (.one "not" (plT a)) (plT b))).length ≤ _
      exact ⟨⟨.inr (.inl rfl), ⟨.inl rfl, a1⟩, b1⟩, by rw [d2, d1]; omega, by rw [s2, s1]; omega⟩
    · show Pl (.two "until" (plT a) (plT b)) ∧ dp (.two "until" (plT a) (plT b)) ≤ _ ∧ (subs (.two "until" (plT a) (plT b))).length ≤ _
      exact ⟨⟨.inr (.inr (.inl rfl)), a1, b1⟩, by rw [d2]; omega, by rw [s2]; omega⟩
    · show Pl (.two "since" (plT a) (plT b)) ∧ dp (.two "since" (plT a) (plT b)) ≤ _ ∧ (subs (.two "since" (plT a) (plT b))).length ≤ _
      exact ⟨⟨.inr (.inr (.inr (.inl rfl))), a1, b1⟩, by rw [d2]; omega, by rw [s2]; omega⟩
    · show Pl (.two "frees" (plT a) (plT b)) ∧ dp (.two "frees" (plT a) (plT b)) ≤ _ ∧ (subs (.two "frees" (plT a) (plT b))).length ≤ _
      exact ⟨⟨.inr (.inr (.inr (.inr (.inl rfl)))), a1, b1⟩, by rw [d2]; omega, by rw [s2]; omega⟩
    · show Pl (.two "held" (plT a) (plT b)) ∧ dp (.two "held" (plT a) (plT b)) ≤ _ ∧ (subs (.two "held" (plT a) (plT b))).length ≤ _
      exact ⟨⟨.inr (.inr (.inr (.inr (.inr rfl)))), a1, b1⟩, by rw [d2]; omega, by rw [s2]; omega⟩
theorem dp_subs : ∀ t : Tr, dp t ≤ (subs t).length := by
  intro t
  induction t with
  | one w t ih => show dp t + 1 ≤ (subs t).length + 1; omega
  | two w a b iha ihb => show max (dp a) (dp b) + 1 ≤ (subs a ++ subs b).length + 1; rw [List.length_append]; omega
  | _ => exact Nat.le_refl _
end K31
set_option Elab.async false
set_option linter.all false
set_option maxRecDepth 100000
set_option maxHeartbeats 4000000
namespace K31
open PySem hiding ret plain
open Fz hiding tb nx
mutual
theorem eqv_self : ∀ d : D, plain d = true → PyData.eqv (py d) (py d) = true
  | .non, _ => rfl
  | .bl b, _ => by simp [py, PyData.eqv]
  | .int i, _ => by simp [py, PyData.eqv]
  | .str s, _ => by simp [py, PyData.eqv]
  | .tup ds, h => by simp only [py, PyData.eqv]; exact eqvs_self ds (by simpa [plain] using h)
  | .lst ds, h => by simp only [py, PyData.eqv]; exact eqvs_self ds (by simpa [plain] using h)
  | .obj _ _, h => by simp [plain] at h
  | .dct _ _, h => by simp [plain] at h
  | .ext _ _, h => by simp [plain] at h
theorem eqvs_self : ∀ ds : List D, plains ds = true → PyData.eqvAll (pys ds) (pys ds) = true
  | [], _ => rfl
  | d :: ds, h => by
    have h := (Bool.and_eq_true _ _).mp (show (plain d && plains ds) = true from h)
    simp only [pys, PyData.eqvAll, Bool.and_eq_true]
    exact ⟨eqv_self d h.1, eqvs_self ds h.2⟩
end
theorem eq_self' {d : D} (h : cok d = true) : dEq d d = some (.bl true) := by
  unfold dEq same
  rw [h, eqv_self d (cok_plain h)]; rfl
theorem flatp {ds : List D} (h : ∀ d ∈ ds, plain d = true ∧ dep d = 0) : plains ds = true ∧ deps ds = 0 := by
  induction ds with
  | nil => exact ⟨rfl, rfl⟩
  | cons d r ih =>
    obtain ⟨a, b⟩ := h d (.head _)
    obtain ⟨c, e⟩ := ih fun x hx => h x (.tail _ hx)
    exact ⟨by show (plain d && plains r) = true; rw [a, c]; rfl, by show max (dep d) (deps r) = 0; rw [b, e]; rfl⟩
theorem cokL {ds : List D} (h : ∀ d ∈ ds, plain d = true ∧ dep d = 0) : cok (.lst ds) = true := by
  obtain ⟨a, b⟩ := flatp h
  unfold cok
  rw [show plain (.lst ds) = true from a, show dep (.lst ds) = deps ds + 1 from rfl, b]; rfl
theorem cokT {ds : List D} (h : ∀ d ∈ ds, plain d = true ∧ dep d = 0) : cok (.tup ds) = true := by
  obtain ⟨a, b⟩ := flatp h
  unfold cok
  rw [show plain (.tup ds) = true from a, show dep (.tup ds) = deps ds + 1 from rfl, b]; rfl
theorem cok_bT (l : List Bool) : cok (bT l) = true := cokT fun d hd => by obtain ⟨b, _, rfl⟩ := List.mem_map.mp hd; exact ⟨rfl, rfl⟩
theorem cok_iL (l : List Nat) : cok (.tup (iL l)) = true := cokT fun d hd => by obtain ⟨b, _, rfl⟩ := List.mem_map.mp hd; exact ⟨rfl, rfl⟩
theorem isb_int {i : Int} : dIsi "bool" (.int i) = some (.bl false) := rfl
theorem ist_tup {ds : List D} : dIsi "tuple" (.tup ds) = some (.bl true) := rfl
section
variable {M : D} {mm : Str → Bool} {lb gs : List Bool}
theorem asked_ok {t : Tr} (hP : Pl t) (hd : dp t ≤ 39) (hs : (subs t).length ≤ 1000) (C : Ct M mm lb gs (pt t)) (w : Int) (h0 : 0 ≤ w) (h5 : w < 5) : F__law_asked [.d (.int w), .d (dT t), .d M, .d (bT lb), .d (bT gs), .d (.lst ((pt t).map dT))] = some (.v (.d (.bl true)), [.d (.int w), .d (dT t), .d M, .d (bT lb), .d (bT gs), .d (.lst ((pt t).map dT))]) := by
  have H := pt_ok hP hd hs
  have few := H.few
  have kn : ∀ s ∈ subs t ++ pt t, Kn (pt t) s := fun s hs => by
    rcases List.mem_append.mp hs with h | h
    · exact kn_of hP hd h
    · exact (H.ex s h).2
  have e1 := goes_ok C H
  have e2 := lgoes_ok C H
  have e3 := next_ok C H
  have e4 := lbehind_ok C H
  have e5 := first_ok H
  have e6 := lfirst_ok H
  have e7 := rung_ok C H
  have e8 := lrung_ok C H
  have e9 := within_ok 40 t (by omega) hP (by omega)
  unfold ar4 at e1 e2 e3 e4 e7 e8
  refine wf_eq ?_
  unfold F__law_asked
  have fb : ∀ (l : List Bool), (l.filter fun _ => false).map D.bl = [] := fun l => by simp
  have q3 : dNeL (.lst []) (.lst []) = some (.bl false) := rfl
  have hw : w = 0 ∨ w = 1 ∨ w = 2 ∨ w = 3 ∨ w = 4 := by omega
  have bm : ∀ l : List Bool, bT l = .tup (l.map D.bl) := fun _ => rfl
  rcases hw with rfl | rfl | rfl | rfl | rfl
  · have g1 := cat_dT (A := subs t) (B := pt t) (by omega)
    have ck : cok (.lst ((subs t ++ pt t).map fun s => D.bl (rd mm lb gs (pt t) s))) = true := cokL fun d hd => by obtain ⟨b, _, rfl⟩ := List.mem_map.mp hd; exact ⟨rfl, rfl⟩
    have mb : ((subs t ++ pt t).map fun s => D.bl (rd mm lb gs (pt t) s)) = ((subs t ++ pt t).map (rd mm lb gs (pt t))).map D.bl := by rw [List.map_map]; rfl
    have ll : ((subs t ++ pt t).map (rd mm lb gs (pt t))).length ≤ 2000 := by rw [List.length_map, List.length_append]; omega
    simp_arith only [b__law_asked, wf_of e9, g1]
    refine wl_map (xs := subs t ++ pt t) dT (fun s => .bl (rd mm lb gs (pt t) s)) (by simp only [szl, List.length_append, List.length_nil]; omega) (fun s hs => ?_) ?_
    · have er := reads_ok C (kn s hs)
      unfold ar at er
      simp_arith only [wf_of er]
      all_goals first | rfl | exact ⟨rfl, rfl⟩ | trivial
    · rw [mb] at ck ⊢
      simp_arith only []
      refine wl_filter (xs := (subs t ++ pt t).map (rd mm lb gs (pt t))) D.bl (fun _ => false) D.bl (by simp only [szl, List.length_nil]; omega) (fun b hb => ?_) ?_
      · simp_arith only []
        all_goals first | rfl | exact ⟨rfl, fun _ => rfl, fun h => absurd h (by decide)⟩ | exact ⟨fun _ => trivial, fun h => h.elim⟩ | trivial
      · simp_arith only [fb, q3, wf_of e9, g1]
        refine wl_map (xs := subs t ++ pt t) dT (fun s => .bl (rd mm lb gs (pt t) s)) (by simp only [szl, List.length_append, List.length_nil]; omega) (fun s hs => ?_) ?_
        · have er := lreads_ok C s 40 (by have := (kn s hs).dp; omega) (kn s hs)
          unfold ar at er
          simp_arith only [wf_of er]
          all_goals first | rfl | exact ⟨rfl, rfl⟩ | trivial
        · rw [mb]
          simp_arith only [eq_self' ck]
          all_goals first | rfl | exact ⟨rfl, rfl⟩
  · have eb : dEq (.bl (goesN mm lb gs (pt t) (pt t).length)) (.bl (goesN mm lb gs (pt t) (pt t).length)) = some (.bl true) := eq_self' rfl
    simp_arith only [b__law_asked, wf_of e1, wf_of e2, eb]
    all_goals first | rfl | exact ⟨rfl, rfl⟩
  · have eb := eq_self' (cok_bT (behN mm lb gs (pt t) (pt t).length))
    have ll := beh_len (mm := mm) (lb := lb) (gs := gs) (ps := pt t) (pt t).length
    generalize behN mm lb gs (pt t) (pt t).length = l at *
    rw [bm l] at e3 e4 eb
    simp_arith only [b__law_asked, wf_of e3, ist_tup]
    refine wl_filter (xs := l) D.bl (fun _ => false) D.bl (by simp only [szl, List.length_nil]; omega) (fun b hb => ?_) ?_
    · simp_arith only []
      all_goals first | rfl | exact ⟨rfl, fun _ => rfl, fun h => absurd h (by decide)⟩ | exact ⟨fun _ => trivial, fun h => h.elim⟩ | trivial
    · simp_arith only [fb, q3, wf_of e4, eb]
      all_goals first | rfl | exact ⟨rfl, rfl⟩
  · have eb := eq_self' (cok_bT (fiN (pt t)))
    have ll : (fiN (pt t)).length = (pt t).length := by unfold fiN; simp
    generalize fiN (pt t) = l at *
    rw [bm l] at e5 e6 eb
    simp_arith only [b__law_asked, wf_of e5, ist_tup]
    refine wl_filter (xs := l) D.bl (fun _ => false) D.bl (by simp only [szl, List.length_nil]; omega) (fun b hb => ?_) ?_
    · simp_arith only []
      all_goals first | rfl | exact ⟨rfl, fun _ => rfl, fun h => absurd h (by decide)⟩ | exact ⟨fun _ => trivial, fun h => h.elim⟩ | trivial
    · simp_arith only [fb, q3, wf_of e6, eb]
      all_goals first | rfl | exact ⟨rfl, rfl⟩
  · have eb := eq_self' (cok_iL (bl mm lb gs (pt t) 0 ((pt t).filter rg)))
    have ll : (bl mm lb gs (pt t) 0 ((pt t).filter rg)).length ≤ 1000 := by
      have h1 := bl_len (mm := mm) (lb := lb) (gs := gs) (ps := pt t) ((pt t).filter rg) 0
      have h2 : ((pt t).filter rg).length ≤ (pt t).length := List.length_filter_le _ _
      omega
    have fi0 : ∀ (l : List Nat), (l.filter fun _ => false).map (fun k : Nat => D.int (k : Int)) = [] := fun l => by simp
    generalize bl mm lb gs (pt t) 0 ((pt t).filter rg) = l at *
    unfold iL at e7 e8 eb
    simp_arith only [b__law_asked, wf_of e7, ist_tup]
    refine wl_filter (xs := l) (fun k : Nat => D.int (k : Int)) (fun _ => false) (fun k : Nat => D.int (k : Int)) (by simp only [szl, List.length_nil]; omega) (fun b hb => ?_) ?_
    · simp_arith only [isb_int]
      all_goals first | rfl | exact ⟨rfl, fun _ => rfl, fun h => absurd h (by decide)⟩ | exact ⟨fun _ => trivial, fun h => h.elim⟩ | trivial
    · simp_arith only [fi0, q3, wf_of e8, eb]
      all_goals first | rfl | exact ⟨rfl, rfl⟩
end
end K31
set_option Elab.async false
set_option linter.all false
set_option maxRecDepth 100000
set_option maxHeartbeats 4000000
namespace K31
open PySem hiding ret plain
open Fz hiding tb nx
theorem mark_fn (b : Int) (hb : 0 ≤ b) : ∃ g : Nat → Str, ∀ t : Nat, t < 26 → F__law_mark [.d (.int b), .d (.int (0 + (t : Int)))] = some (.v (.d (.str (g t))), [.d (.int b), .d (.int (0 + (t : Int)))]) := by
  refine (Classical.skolem (p := fun (t : Nat) (m : Str) => t < 26 → F__law_mark [.d (.int b), .d (.int (0 + (t : Int)))] = some (.v (.d (.str m)), [.d (.int b), .d (.int (0 + (t : Int)))]))).mp fun t => ?_
  by_cases h : t < 26
  · obtain ⟨o, rs, e, m, hm, rfl, rfl⟩ := wf_get (mark_wf b (0 + (t : Int)) hb (by omega) (by omega))
    exact ⟨m, fun _ => e⟩
  · exact ⟨"", fun h1 => absurd h1 h⟩
theorem sort_names {ms : List Str} (h : ms.length ≤ 4) : gSortSet [.lst (ms.map D.str)] = some ((ssort (nub ms)).map D.str) := by
  show ((dStrs _).bind fun ss => if ss.length + 1 < scanBound then some ((ssort (nub ss)).map D.str) else none) = _
  rw [dStrs_map]
  exact if_pos (by unfold scanBound; omega)
theorem nub_len : ∀ l : List Str, (nub l).length ≤ l.length
  | [] => Nat.le_refl _
  | x :: r => by
    have := nub_len r
    unfold nub
    split
    · simp; omega
    · simp; omega
theorem nub_pos : ∀ l : List Str, 0 < l.length → 0 < (nub l).length
  | [], h => by simp at h
  | x :: r, _ => by
    unfold nub
    split
    · rename_i hx
      cases r with
      | nil => simp at hx
      | cons y r => exact nub_pos (y :: r) (by simp)
    · simp
theorem names_len {ms : List Str} (h : ms.length ≤ 3) : (ssort (nub ms)).length ≤ 3 := by
  rw [(ssort_perm _).length_eq]
  exact Nat.le_trans (nub_len _) h
theorem names_pos {ms : List Str} (h : 0 < ms.length) : 0 < (ssort (nub ms)).length := by
  rw [(ssort_perm _).length_eq]
  exact nub_pos _ h
theorem e_sortS {ss : List Str} (h : ss.length < 64) : gSorted [.lst (ss.map D.str)] = some ((ssort ss).map D.str) := by
  show ((dStrs _).bind fun ss => if ss.length < 64 then some ((ssort ss).map D.str) else none) = _
  rw [dStrs_map]
  exact if_pos h
theorem pig : ∀ (l ss : List Str), l.Nodup → (∀ x ∈ l, x ∈ ss) → l.length ≤ ss.length
  | [], ss, _, _ => Nat.zero_le _
  | x :: r, ss, hn, h => by
    have hn := List.nodup_cons.mp hn
    have hx := h x (.head _)
    have := pig r (ss.erase x) hn.2 fun y hy => (List.mem_erase_of_ne (fun e => hn.1 (by rw [← e]; exact hy))).mpr (h y (.tail _ hy))
    rw [List.length_erase_of_mem hx] at this
    have : 0 < ss.length := List.length_pos_of_mem hx
    simp only [List.length_cons]; omega
def four : List Str := ["zz", "z1", "a0", "z2"]
theorem foreign {ss : List Str} (h : ss.length ≤ 3) : ∃ s r, four.filter (fun x => !decide (x ∈ ss)) = s :: r := by
  cases e : four.filter (fun x => !decide (x ∈ ss)) with
  | cons s r => exact ⟨s, r, rfl⟩
  | nil =>
    have hall : ∀ x ∈ four, x ∈ ss := fun x hx => by
      have := List.filter_eq_nil_iff.mp e x hx
      simpa using this
    have := pig four ss (by decide +kernel) hall
    have : four.length = 4 := rfl
    omega
def bit (k : Nat) : Int := ([1, 2, 4, 8] : List Int).getD k 0
theorem at_bit {k : Nat} (h : k < 4) : dIx (.lst [.int 1, .int 2, .int 4, .int 8]) (.int (k : Int)) = some (.int (bit k)) := by
  have : k = 0 ∨ k = 1 ∨ k = 2 ∨ k = 3 := by omega
  rcases this with rfl | rfl | rfl | rfl <;> rfl
theorem bit_ne {k : Nat} (h : k < 4) : (0 : Int) < bit k := by
  have : k = 0 ∨ k = 1 ∨ k = 2 ∨ k = 3 := by omega
  rcases this with rfl | rfl | rfl | rfl <;> decide
theorem bit_le {k : Nat} (h : k < 4) : bit k < 1073741824 := by
  have : k = 0 ∨ k = 1 ∨ k = 2 ∨ k = 3 := by omega
  rcases this with rfl | rfl | rfl | rfl <;> decide
theorem ct_of {ps : List Tr} {ss : List Str} {lb gs : List Bool} (h1 : lb.length = ps.length) (h2 : gs.length = ps.length) (h : ∀ t ∈ ps, dp t ≤ 39) : Ct (.tup (ss.map D.str)) (fun m => decide (m ∈ ss)) lb gs ps :=
  ⟨fun m => e_inwt, by
    show imms (ss.map D.str) = true
    induction ss with
    | nil => rfl
    | cons s r ih => show (imm (.str s) && imms (r.map D.str)) = true; rw [ih]; rfl, h1, h2, h⟩
theorem law_ok : Fz.LawDoes F_law := by
  intro ns hns
  have h : wf F_law [.d (.lst (ns.map D.int))] (fun o rs => o = .v (.d (.bl true))) := by
    unfold F_law
    obtain ⟨rs, hl, h0, er⟩ := row_ok ns 28 (.int 28) rfl (by decide)
    obtain ⟨f, hf⟩ : ∃ f : Nat → Int, f = fun k => rs.getD k 0 := ⟨_, rfl⟩
    have f0 : ∀ k, 0 ≤ f k := fun k => by
      subst hf
      show 0 ≤ rs.getD k 0
      by_cases hk : k < rs.length
      · exact h0 _ (Fz.getD_mem hk)
      · rw [List.getD_eq_getElem?_getD, List.getElem?_eq_none (by omega)]; exact Int.le_refl 0
    have fL : ∀ k : Nat, k < 28 → dIx (.lst (rs.map D.int)) (.int (k : Int)) = some (.int (f k)) := fun k hk => by
      subst hf
      have : k < rs.length := by omega
      rw [e_ixn]
      simp [this]
    obtain ⟨n8, hn8, en8⟩ := mod_nat (f 22) 8 (by decide)
    have en8 : f 22 % 8 = (n8 : Int) := en8
    have cut : cutD (rs.map D.int) none (some (1 + (n8 : Int))) = (rs.take (1 + n8)).map D.int := by
      have := cutD_to (xs := rs.map D.int) (k := 1 + n8)
      rw [show ((1 + n8 : Nat) : Int) = 1 + (n8 : Int) from by omega, ← List.map_take] at this
      exact this
    have hr' : ∀ r ∈ rs.take (1 + n8), 0 ≤ r := fun r hr => h0 r (List.mem_of_mem_take hr)
    have lr' : (rs.take (1 + n8)).length = 1 + n8 := by rw [List.length_take]; omega
    generalize rs.take (1 + n8) = row at cut hr' lr'
    revert er fL cut
    generalize rs.map D.int = xs
    intro er fL cut
    have i20 : dIx (.lst xs) (.int 20) = some (.int (f 20)) := fL 20 (by decide)
    have i21 : dIx (.lst xs) (.int 21) = some (.int (f 21)) := fL 21 (by decide)
    have i22 : dIx (.lst xs) (.int 22) = some (.int (f 22)) := fL 22 (by decide)
    have i23 : dIx (.lst xs) (.int 23) = some (.int (f 23)) := fL 23 (by decide)
    have i24 : dIx (.lst xs) (.int 24) = some (.int (f 24)) := fL 24 (by decide)
    have i25 : dIx (.lst xs) (.int 25) = some (.int (f 25)) := fL 25 (by decide)
    have i26 : dIx (.lst xs) (.int 26) = some (.int (f 26)) := fL 26 (by decide)
    have i27 : dIx (.lst xs) (.int 27) = some (.int (f 27)) := fL 27 (by decide)
    have er : F__law_row [.d (.lst (ns.map D.int)), .d (.int 28)] = _ := er
    obtain ⟨g, hg⟩ := mark_fn (f 20) (f0 20)
    obtain ⟨n3, hn3, en3⟩ := mod_nat (f 21) 3 (by decide)
    have en3 : f 21 % 3 = (n3 : Int) := en3
    have r3 : dR1 [.int (1 + (n3 : Int))] = some ((List.range (1 + n3)).map fun i : Nat => D.int (0 + (i : Int))) := by
      have := dR1_n (n := 1 + n3) (by omega)
      rw [show ((1 + n3 : Nat) : Int) = 1 + (n3 : Int) from by omega] at this
      exact this
    simp_arith only [-n_sSeq, b_law]
    rw [n_sSeq]
    simp_arith only [-n_sSeq, wf_of er]
    rw [n_sSeq]
    simp_arith only [-n_sSeq, -dR1_i, i21, en3, r3]
    refine wl_map (acc := []) (xs := List.range (1 + n3)) (fun i : Nat => D.int (0 + (i : Int))) (fun i : Nat => D.str (g i)) (by simp [szl, sizeLine]; omega) (fun x hx => ?_) ?_
    · have hx : x < 1 + n3 := List.mem_range.mp hx
      simp_arith only [i20, wf_of (hg x (by omega))]
    · have hm : (List.range (1 + n3)).map (fun i : Nat => D.str (g i)) = ((List.range (1 + n3)).map g).map D.str := by rw [List.map_map]; rfl
      have sn := sort_names (ms := (List.range (1 + n3)).map g) (by simp; omega)
      have sl := names_len (ms := (List.range (1 + n3)).map g) (by simp; omega)
      have sp := names_pos (ms := (List.range (1 + n3)).map g) (by simp; omega)
      generalize hss : ssort (nub ((List.range (1 + n3)).map g)) = ss at sn sl sp
      simp_arith only [-n_sSeq, hm, sn]
      rw [n_sSeq]
      obtain ⟨_, _, es, t0, hR, hs0, rfl, rfl⟩ := wf_get (small_wf row ss (f 22 / 8 % 5) hr' (by omega) (by omega) sp)
      have d0 := dp_subs t0
      have ep := lplain_ok t0 40 (by omega) hR
      obtain ⟨hP, hd, hs⟩ := plT_pl t0 hR
      simp_arith only [-n_sSeq, i22, en8, cut, wf_of es, wf_of ep]
      generalize plT t0 = t at hP hd hs
      have hd : dp t ≤ 39 := by omega
      have hs : (subs t).length ≤ 1000 := by omega
      obtain ⟨r4, hr4, eq4⟩ := parts_ok 40 t (by omega) hd hP (by omega)
      have few := (pt_ok hP hd hs).few
      have dps : ∀ p ∈ pt t, dp p ≤ 39 := fun p hp => ((pt_ok hP hd hs).ex p hp).2.dp
      have ckp : cok (.lst ((pt t).map dT)) = true := cok_ts fun p hp => by have := dps p hp; omega
      have eqp := eq_self' ckp
      have ask0 := fun (lb gs : List Bool) (sm : List Str) (h1 : lb.length = (pt t).length) (h2 : gs.length = (pt t).length) (w : Int) (a : 0 ≤ w) (b : w < 5) => asked_ok (t := t) hP hd hs (ct_of (ss := sm) h1 h2 dps) w a b
      generalize pt t = ps at hr4 eq4 few eqp ask0
      rw [n_sSeq]
      rcases hr4 with rfl | rfl
      · simp_arith only [-n_sSeq, wf_of eq4]
        rw [n_sSeq]
        obtain ⟨fs, fr, hfo⟩ := foreign sl
        have e4 : ([D.str "zz", D.str "z1", D.str "a0", D.str "z2"] : List D) = four.map D.str := rfl
        have l4 : four.length = 4 := rfl
        simp_arith only [-n_sSeq, e4, l4]
        refine wl_filter (acc := []) (xs := four) D.str (fun x => !decide (x ∈ ss)) D.str (by decide) (fun x hx => ?_) ?_
        · simp_arith only [e_ninw]
          all_goals first | rfl | exact ⟨rfl, fun _ => rfl, fun _ => ⟨rfl, rfl⟩⟩ | exact fun _ => trivial
        · rw [hfo]
          have lz : (ss.length + 1 ≤ 16777216) = True := eq_true (by omega)
          have e5 : ss.map D.str ++ [D.str fs] = (ss ++ [fs]).map D.str := by rw [List.map_append]; rfl
          have e6 := e_sortS (ss := ss ++ [fs]) (by simp; omega)
          have lsm : (ssort (ss ++ [fs])).length ≤ 4 := by rw [(ssort_perm _).length_eq]; simp; omega
          simp_arith only [-n_sSeq]
          rw [n_sSeq]
          simp_arith only [-n_sSeq, gCat, lz, e5, e6]
          generalize ssort (ss ++ [fs]) = sm at lsm
          rw [n_sSeq]
          have rsm : dR1 [.int (sm.length : Int)] = some ((List.range sm.length).map fun i : Nat => D.int (i : Int)) := by rw [dR1_n (by omega), rng0]
          simp_arith only [-n_sSeq, -dR1_i, rsm]
          refine wl_filter (xs := List.range sm.length) (fun i : Nat => D.int (i : Int)) (fun i : Nat => decide (f 23 / bit i % 2 = 0)) (fun i : Nat => D.str (sm.getD i "")) (by simp [szl]; omega) (fun i hi => ?_) ?_
          · have hi : i < sm.length := List.mem_range.mp hi
            have b1 := at_bit (k := i) (by omega)
            have b2 : ((0 : Int) < bit i) = True := eq_true (bit_ne (by omega))
            have b5 : (bit i < 1073741824) = True := eq_true (bit_le (by omega))
            have b3 : (sm.map D.str)[i]? = some (.str (sm.getD i "")) := by simp [hi]
            have b4 : dIx (.lst (sm.map D.str)) (.int (i : Int)) = some (.str (sm.getD i "")) := by rw [e_ixn]; exact b3
            simp_arith only [i23, b1, b2, b5]
            refine wd_of (fun h => ?_) (fun h => ?_)
            · have h' : (f 23 / bit i % 2 = 0) = True := eq_true (of_decide_eq_true h)
              simp_arith only [h', b4, kr_a]
              all_goals first | rfl | exact ⟨rfl, fun _ => rfl, fun _ => ⟨rfl, rfl⟩⟩ | exact ⟨fun h => h.elim, fun _ => rfl⟩ | exact ⟨fun h => h.elim, fun _ => trivial⟩ | exact fun _ => trivial
            · have h' : (f 23 / bit i % 2 = 0) = False := eq_false (of_decide_eq_false h)
              simp_arith only [h', kr_a]
              all_goals first | rfl | exact ⟨rfl, fun _ => rfl, fun h => h.elim⟩ | exact ⟨fun _ => rfl, fun h => h.elim⟩ | exact fun _ => trivial | exact ⟨fun _ => trivial, fun h => h.elim⟩
          · have em : ((List.range sm.length).filter fun i : Nat => decide (f 23 / bit i % 2 = 0)).map (fun i : Nat => D.str (sm.getD i "")) = (((List.range sm.length).filter fun i : Nat => decide (f 23 / bit i % 2 = 0)).map fun i => sm.getD i "").map D.str := by rw [List.map_map]; rfl
            simp_arith only [-n_sSeq, em]
            generalize ((List.range sm.length).filter fun i : Nat => decide (f 23 / bit i % 2 = 0)).map (fun i => sm.getD i "") = mo
            rw [n_sSeq]
            have rps : dR1 [.int (ps.length : Int)] = some ((List.range ps.length).map fun i : Nat => D.int (i : Int)) := by rw [dR1_n (by omega), rng0]
            have bi : ∀ i : Nat, ∃ j : Nat, j < 4 ∧ (i : Int) % 4 = (j : Int) := fun i => ⟨i % 4, Nat.mod_lt _ (by decide), by omega⟩
            simp_arith only [-n_sSeq, -dR1_i, rps]
            refine wl_map (xs := List.range ps.length) (fun i : Nat => D.int (i : Int)) (fun i : Nat => D.bl (decide (f 24 / bit (i % 4) % 2 = 1))) (by simp [szl]; omega) (fun i hi => ?_) ?_
            · have b0 : (i : Int) % 4 = ((i % 4 : Nat) : Int) := by omega
              have b1 := at_bit (k := i % 4) (Nat.mod_lt _ (by decide))
              have b2 : ((0 : Int) < bit (i % 4)) = True := eq_true (bit_ne (Nat.mod_lt _ (by decide)))
              have b5 : (bit (i % 4) < 1073741824) = True := eq_true (bit_le (Nat.mod_lt _ (by decide)))
              simp_arith only [i24, b0, b1, b2, b5]
              all_goals first | rfl | exact ⟨rfl, rfl⟩
            · have em1 : (List.range ps.length).map (fun i : Nat => D.bl (decide (f 24 / bit (i % 4) % 2 = 1))) = ((List.range ps.length).map fun i : Nat => decide (f 24 / bit (i % 4) % 2 = 1)).map D.bl := by rw [List.map_map]; rfl
              have lb1 : ((List.range ps.length).map fun i : Nat => decide (f 24 / bit (i % 4) % 2 = 1)).length = ps.length := by simp
              rw [em1]
              generalize (List.range ps.length).map (fun i : Nat => decide (f 24 / bit (i % 4) % 2 = 1)) = lb at lb1
              simp_arith only [-n_sSeq]
              rw [n_sSeq]
              simp_arith only [-n_sSeq, -dR1_i, rps]
              refine wl_map (xs := List.range ps.length) (fun i : Nat => D.int (i : Int)) (fun i : Nat => D.bl (decide (f 25 / bit (i % 4) % 2 = 1))) (by simp [szl]; omega) (fun i hi => ?_) ?_
              · have b0 : (i : Int) % 4 = ((i % 4 : Nat) : Int) := by omega
                have b1 := at_bit (k := i % 4) (Nat.mod_lt _ (by decide))
                have b2 : ((0 : Int) < bit (i % 4)) = True := eq_true (bit_ne (Nat.mod_lt _ (by decide)))
                have b5 : (bit (i % 4) < 1073741824) = True := eq_true (bit_le (Nat.mod_lt _ (by decide)))
                simp_arith only [i25, b0, b1, b2, b5]
                all_goals first | rfl | exact ⟨rfl, rfl⟩
              · have em2 : (List.range ps.length).map (fun i : Nat => D.bl (decide (f 25 / bit (i % 4) % 2 = 1))) = ((List.range ps.length).map fun i : Nat => decide (f 25 / bit (i % 4) % 2 = 1)).map D.bl := by rw [List.map_map]; rfl
                have lg1 : ((List.range ps.length).map fun i : Nat => decide (f 25 / bit (i % 4) % 2 = 1)).length = ps.length := by simp
                rw [em2]
                generalize (List.range ps.length).map (fun i : Nat => decide (f 25 / bit (i % 4) % 2 = 1)) = gl at lg1
                have ask := ask0 lb gl mo lb1 lg1
                simp_arith only [-n_sSeq]
                rw [n_sSeq]
                simp_arith only [-n_sSeq]
                rw [n_sSeq]
                have h6 : dR1 [.int 6] = some ((List.range 6).map fun i : Nat => D.int (i : Int)) := by rw [show D.int 6 = .int ((6 : Nat) : Int) from rfl, dR1_n (by decide), rng0]
                simp_arith only [-n_sSeq, -dR1_i, h6]
                refine for_ix 6 _ (fun k s => ∃ (x10 x11 x12 x13 x14 : Option R), (x10 = some (.ol (ps.map dT)) ∨ x10 = some (.d (.lst (ps.map dT)))) ∧ s = [some (.d (.lst (ns.map D.int))), some (.d (.lst xs)), some (.d (.lst (ss.map D.str))), some (.d (dT t)), some (.d (.lst (ps.map dT))), some (.d (.str fs)), some (.d (.lst (sm.map D.str))), some (.d (.tup (mo.map D.str))), some (.d (.tup (lb.map D.bl))), some (.d (.tup (gl.map D.bl))), x10, x11, x12, x13, x14]) ⟨_, _, _, _, _, .inl rfl, rfl⟩ ?_ ?_
                · rintro k hk s ⟨x10, x11, x12, x13, x14, h10, rfl⟩
                  obtain ⟨c4, ec4⟩ := at_i [1, 2, 3, 4] (f 27) 4 (by decide) (by simp)
                  have ec4 : dIx (.lst [.int 1, .int 2, .int 3, .int 4]) (.int (f 27 % 4)) = some (.int c4) := ec4
                  have cm : CMulB (k : Int) c4 = True := eq_true (.inl (by omega))
                  have ea := ask ((f 26 + (k : Int) * c4) % 5) (Int.emod_nonneg _ (by decide)) (Int.emod_lt_of_pos _ (by decide))
                  unfold bT at ea
                  rcases h10 with rfl | rfl
                  · simp_arith only [i26, i27, ec4, cm, wf_of ea]
                    exact ⟨_, _, _, _, _, .inr rfl, rfl⟩
                  · simp_arith only [i26, i27, ec4, cm, wf_of ea]
                    exact ⟨_, _, _, _, _, .inr rfl, rfl⟩
                · rintro s ⟨x10, x11, x12, x13, x14, h10, rfl⟩
                  rcases h10 with rfl | rfl
                  · simp_arith only [eqp]
                  · simp_arith only [eqp]
      · simp_arith only [-n_sSeq, wf_of eq4]
        rw [n_sSeq]
        obtain ⟨fs, fr, hfo⟩ := foreign sl
        have e4 : ([D.str "zz", D.str "z1", D.str "a0", D.str "z2"] : List D) = four.map D.str := rfl
        have l4 : four.length = 4 := rfl
        simp_arith only [-n_sSeq, e4, l4]
        refine wl_filter (acc := []) (xs := four) D.str (fun x => !decide (x ∈ ss)) D.str (by decide) (fun x hx => ?_) ?_
        · simp_arith only [e_ninw]
          all_goals first | rfl | exact ⟨rfl, fun _ => rfl, fun _ => ⟨rfl, rfl⟩⟩ | exact fun _ => trivial
        · rw [hfo]
          have lz : (ss.length + 1 ≤ 16777216) = True := eq_true (by omega)
          have e5 : ss.map D.str ++ [D.str fs] = (ss ++ [fs]).map D.str := by rw [List.map_append]; rfl
          have e6 := e_sortS (ss := ss ++ [fs]) (by simp; omega)
          have lsm : (ssort (ss ++ [fs])).length ≤ 4 := by rw [(ssort_perm _).length_eq]; simp; omega
          simp_arith only [-n_sSeq]
          rw [n_sSeq]
          simp_arith only [-n_sSeq, gCat, lz, e5, e6]
          generalize ssort (ss ++ [fs]) = sm at lsm
          rw [n_sSeq]
          have rsm : dR1 [.int (sm.length : Int)] = some ((List.range sm.length).map fun i : Nat => D.int (i : Int)) := by rw [dR1_n (by omega), rng0]
          simp_arith only [-n_sSeq, -dR1_i, rsm]
          refine wl_filter (xs := List.range sm.length) (fun i : Nat => D.int (i : Int)) (fun i : Nat => decide (f 23 / bit i % 2 = 0)) (fun i : Nat => D.str (sm.getD i "")) (by simp [szl]; omega) (fun i hi => ?_) ?_
          · have hi : i < sm.length := List.mem_range.mp hi
            have b1 := at_bit (k := i) (by omega)
            have b2 : ((0 : Int) < bit i) = True := eq_true (bit_ne (by omega))
            have b5 : (bit i < 1073741824) = True := eq_true (bit_le (by omega))
            have b3 : (sm.map D.str)[i]? = some (.str (sm.getD i "")) := by simp [hi]
            have b4 : dIx (.lst (sm.map D.str)) (.int (i : Int)) = some (.str (sm.getD i "")) := by rw [e_ixn]; exact b3
            simp_arith only [i23, b1, b2, b5]
            refine wd_of (fun h => ?_) (fun h => ?_)
            · have h' : (f 23 / bit i % 2 = 0) = True := eq_true (of_decide_eq_true h)
              simp_arith only [h', b4, kr_a]
              all_goals first | rfl | exact ⟨rfl, fun _ => rfl, fun _ => ⟨rfl, rfl⟩⟩ | exact ⟨fun h => h.elim, fun _ => rfl⟩ | exact ⟨fun h => h.elim, fun _ => trivial⟩ | exact fun _ => trivial
            · have h' : (f 23 / bit i % 2 = 0) = False := eq_false (of_decide_eq_false h)
              simp_arith only [h', kr_a]
              all_goals first | rfl | exact ⟨rfl, fun _ => rfl, fun h => h.elim⟩ | exact ⟨fun _ => rfl, fun h => h.elim⟩ | exact fun _ => trivial | exact ⟨fun _ => trivial, fun h => h.elim⟩
          · have em : ((List.range sm.length).filter fun i : Nat => decide (f 23 / bit i % 2 = 0)).map (fun i : Nat => D.str (sm.getD i "")) = (((List.range sm.length).filter fun i : Nat => decide (f 23 / bit i % 2 = 0)).map fun i => sm.getD i "").map D.str := by rw [List.map_map]; rfl
            simp_arith only [-n_sSeq, em]
            generalize ((List.range sm.length).filter fun i : Nat => decide (f 23 / bit i % 2 = 0)).map (fun i => sm.getD i "") = mo
            rw [n_sSeq]
            have rps : dR1 [.int (ps.length : Int)] = some ((List.range ps.length).map fun i : Nat => D.int (i : Int)) := by rw [dR1_n (by omega), rng0]
            have bi : ∀ i : Nat, ∃ j : Nat, j < 4 ∧ (i : Int) % 4 = (j : Int) := fun i => ⟨i % 4, Nat.mod_lt _ (by decide), by omega⟩
            simp_arith only [-n_sSeq, -dR1_i, rps]
            refine wl_map (xs := List.range ps.length) (fun i : Nat => D.int (i : Int)) (fun i : Nat => D.bl (decide (f 24 / bit (i % 4) % 2 = 1))) (by simp [szl]; omega) (fun i hi => ?_) ?_
            · have b0 : (i : Int) % 4 = ((i % 4 : Nat) : Int) := by omega
              have b1 := at_bit (k := i % 4) (Nat.mod_lt _ (by decide))
              have b2 : ((0 : Int) < bit (i % 4)) = True := eq_true (bit_ne (Nat.mod_lt _ (by decide)))
              have b5 : (bit (i % 4) < 1073741824) = True := eq_true (bit_le (Nat.mod_lt _ (by decide)))
              simp_arith only [i24, b0, b1, b2, b5]
              all_goals first | rfl | exact ⟨rfl, rfl⟩
            · have em1 : (List.range ps.length).map (fun i : Nat => D.bl (decide (f 24 / bit (i % 4) % 2 = 1))) = ((List.range ps.length).map fun i : Nat => decide (f 24 / bit (i % 4) % 2 = 1)).map D.bl := by rw [List.map_map]; rfl
              have lb1 : ((List.range ps.length).map fun i : Nat => decide (f 24 / bit (i % 4) % 2 = 1)).length = ps.length := by simp
              rw [em1]
              generalize (List.range ps.length).map (fun i : Nat => decide (f 24 / bit (i % 4) % 2 = 1)) = lb at lb1
              simp_arith only [-n_sSeq]
              rw [n_sSeq]
              simp_arith only [-n_sSeq, -dR1_i, rps]
              refine wl_map (xs := List.range ps.length) (fun i : Nat => D.int (i : Int)) (fun i : Nat => D.bl (decide (f 25 / bit (i % 4) % 2 = 1))) (by simp [szl]; omega) (fun i hi => ?_) ?_
              · have b0 : (i : Int) % 4 = ((i % 4 : Nat) : Int) := by omega
                have b1 := at_bit (k := i % 4) (Nat.mod_lt _ (by decide))
                have b2 : ((0 : Int) < bit (i % 4)) = True := eq_true (bit_ne (Nat.mod_lt _ (by decide)))
                have b5 : (bit (i % 4) < 1073741824) = True := eq_true (bit_le (Nat.mod_lt _ (by decide)))
                simp_arith only [i25, b0, b1, b2, b5]
                all_goals first | rfl | exact ⟨rfl, rfl⟩
              · have em2 : (List.range ps.length).map (fun i : Nat => D.bl (decide (f 25 / bit (i % 4) % 2 = 1))) = ((List.range ps.length).map fun i : Nat => decide (f 25 / bit (i % 4) % 2 = 1)).map D.bl := by rw [List.map_map]; rfl
                have lg1 : ((List.range ps.length).map fun i : Nat => decide (f 25 / bit (i % 4) % 2 = 1)).length = ps.length := by simp
                rw [em2]
                generalize (List.range ps.length).map (fun i : Nat => decide (f 25 / bit (i % 4) % 2 = 1)) = gl at lg1
                have ask := ask0 lb gl mo lb1 lg1
                simp_arith only [-n_sSeq]
                rw [n_sSeq]
                simp_arith only [-n_sSeq]
                rw [n_sSeq]
                have h6 : dR1 [.int 6] = some ((List.range 6).map fun i : Nat => D.int (i : Int)) := by rw [show D.int 6 = .int ((6 : Nat) : Int) from rfl, dR1_n (by decide), rng0]
                simp_arith only [-n_sSeq, -dR1_i, h6]
                refine for_ix 6 _ (fun k s => ∃ (x10 x11 x12 x13 x14 : Option R), (x10 = some (.ol (ps.map dT)) ∨ x10 = some (.d (.lst (ps.map dT)))) ∧ s = [some (.d (.lst (ns.map D.int))), some (.d (.lst xs)), some (.d (.lst (ss.map D.str))), some (.d (dT t)), some (.d (.lst (ps.map dT))), some (.d (.str fs)), some (.d (.lst (sm.map D.str))), some (.d (.tup (mo.map D.str))), some (.d (.tup (lb.map D.bl))), some (.d (.tup (gl.map D.bl))), x10, x11, x12, x13, x14]) ⟨_, _, _, _, _, .inl rfl, rfl⟩ ?_ ?_
                · rintro k hk s ⟨x10, x11, x12, x13, x14, h10, rfl⟩
                  obtain ⟨c4, ec4⟩ := at_i [1, 2, 3, 4] (f 27) 4 (by decide) (by simp)
                  have ec4 : dIx (.lst [.int 1, .int 2, .int 3, .int 4]) (.int (f 27 % 4)) = some (.int c4) := ec4
                  have cm : CMulB (k : Int) c4 = True := eq_true (.inl (by omega))
                  have ea := ask ((f 26 + (k : Int) * c4) % 5) (Int.emod_nonneg _ (by decide)) (Int.emod_lt_of_pos _ (by decide))
                  unfold bT at ea
                  rcases h10 with rfl | rfl
                  · simp_arith only [i26, i27, ec4, cm, wf_of ea]
                    exact ⟨_, _, _, _, _, .inr rfl, rfl⟩
                  · simp_arith only [i26, i27, ec4, cm, wf_of ea]
                    exact ⟨_, _, _, _, _, .inr rfl, rfl⟩
                · rintro s ⟨x10, x11, x12, x13, x14, h10, rfl⟩
                  rcases h10 with rfl | rfl
                  · simp_arith only [eqp]
                  · simp_arith only [eqp]
  obtain ⟨o, rs, e, rfl⟩ := wf_get h
  exact ⟨rs, e⟩
end K31
set_option Elab.async false
set_option linter.all false
set_option maxRecDepth 100000
set_option maxHeartbeats 0
namespace K31
open PySem PySem.Spec PyProof.Rows L2 Fz
theorem cb_all {K : PySem.W.Frag} (h : (fas.all fun f => f K) = true) : (fas0.all fun f => f K) = true ∧ (fas1.all fun f => f K) = true ∧ (fas2.all fun f => f K) = true := by
  unfold fas at h
  simp only [List.all_append, Bool.and_eq_true, and_assoc] at h
  exact h
theorem cb0 {w : World} {K : PySem.W.Frag} (c : SaysC chk fns tss w K) : (fas0.all fun f => f K) = true := (cb_all c.b).1
theorem cb1 {w : World} {K : PySem.W.Frag} (c : SaysC chk fns tss w K) : (fas1.all fun f => f K) = true := (cb_all c.b).2.1
theorem cb2 {w : World} {K : PySem.W.Frag} (c : SaysC chk fns tss w K) : (fas2.all fun f => f K) = true := (cb_all c.b).2.2
section
variable {w : World} {K : PySem.W.Frag} {h : Heap} {mg : Str → Option Value}
theorem vx_n_bool (X : K.In h) (G : h.Ns mainGlobals mg) (c : SaysC chk fns tss w K) : mg "bool" = none := He.free_ok X G (fact_at (f := fas_26) (cb1 c) 6)
theorem vx_n_enumerate (X : K.In h) (G : h.Ns mainGlobals mg) (c : SaysC chk fns tss w K) : mg "enumerate" = none := He.free_ok X G (fact_at (f := fas_27) (cb1 c) 7)
theorem vx_n_int (X : K.In h) (G : h.Ns mainGlobals mg) (c : SaysC chk fns tss w K) : mg "int" = none := He.free_ok X G (fact_at (f := fas_28) (cb1 c) 8)
theorem vx_n_isinstance (X : K.In h) (G : h.Ns mainGlobals mg) (c : SaysC chk fns tss w K) : mg "isinstance" = none := He.free_ok X G (fact_at (f := fas_29) (cb1 c) 9)
theorem vx_n_len (X : K.In h) (G : h.Ns mainGlobals mg) (c : SaysC chk fns tss w K) : mg "len" = none := He.free_ok X G (fact_at (f := fas_30) (cb1 c) 10)
theorem vx_n_list (X : K.In h) (G : h.Ns mainGlobals mg) (c : SaysC chk fns tss w K) : mg "list" = none := He.free_ok X G (fact_at (f := fas_31) (cb1 c) 11)
theorem vx_n_range (X : K.In h) (G : h.Ns mainGlobals mg) (c : SaysC chk fns tss w K) : mg "range" = none := He.free_ok X G (fact_at (f := fas_32) (cb1 c) 12)
theorem vx_n_set (X : K.In h) (G : h.Ns mainGlobals mg) (c : SaysC chk fns tss w K) : mg "set" = none := He.free_ok X G (fact_at (f := fas_33) (cb1 c) 13)
theorem vx_n_sorted (X : K.In h) (G : h.Ns mainGlobals mg) (c : SaysC chk fns tss w K) : mg "sorted" = none := He.free_ok X G (fact_at (f := fas_34) (cb1 c) 14)
theorem vx_n_str (X : K.In h) (G : h.Ns mainGlobals mg) (c : SaysC chk fns tss w K) : mg "str" = none := He.free_ok X G (fact_at (f := fas_35) (cb1 c) 15)
theorem vx_n_tuple (X : K.In h) (G : h.Ns mainGlobals mg) (c : SaysC chk fns tss w K) : mg "tuple" = none := He.free_ok X G (fact_at (f := fas_36) (cb1 c) 16)
theorem vx_c_LOOKING_ON (X : K.In h) (G : h.Ns mainGlobals mg) (c : SaysC chk fns tss w K) : GlobD (tb w K) mg "LOOKING_ON" c_LOOKING_ON := globD_lst (zs := ["next", "until", "frees"]) rfl X G (fact_at (f := fas_37) (cb1 c) 17) (fact_at (f := fas_38) (cb1 c) 18) (by decide +kernel)
theorem vx_c_RINGING (X : K.In h) (G : h.Ns mainGlobals mg) (c : SaysC chk fns tss w K) : GlobD (tb w K) mg "RINGING" c_RINGING := globD_lst (zs := ["until", "frees"]) rfl X G (fact_at (f := fas_39) (cb1 c) 19) (fact_at (f := fas_40) (cb2 c) 0) (by decide +kernel)
theorem vx_f_look_of_one (X : K.In h) (G : h.Ns mainGlobals mg) (c : SaysC chk fns tss w K) : GFun (tb w K) mg "look_of_one" s_look_of_one P_look_of_one := let ⟨fd, F⟩ := c.t.d.def_ (d := fns_0) 0; ⟨_, fd, He.glo_ok X G (fact_at (f := fas_0) (cb0 c) 0), fun_of F, FunD.bindsN (ps := P_look_of_one) F (fun _ _ _ _ _ _ us hl => match us, hl with | [_, _], _ => rfl)⟩
theorem vx_f_look_of_two (X : K.In h) (G : h.Ns mainGlobals mg) (c : SaysC chk fns tss w K) : GFun (tb w K) mg "look_of_two" s_look_of_two P_look_of_two := let ⟨fd, F⟩ := c.t.d.def_ (d := fns_1) 1; ⟨_, fd, He.glo_ok X G (fact_at (f := fas_1) (cb0 c) 1), fun_of F, FunD.bindsN (ps := P_look_of_two) F (fun _ _ _ _ _ _ us hl => match us, hl with | [_, _, _, _], _ => rfl)⟩
theorem vx_f_look_of (X : K.In h) (G : h.Ns mainGlobals mg) (c : SaysC chk fns tss w K) : GFun (tb w K) mg "look_of" s_look_of P_look_of := let ⟨fd, F⟩ := c.t.d.def_ (d := fns_2) 2; ⟨_, fd, He.glo_ok X G (fact_at (f := fas_2) (cb0 c) 2), fun_of F, FunD.bindsN (ps := P_look_of) F (fun _ _ _ _ _ _ us hl => match us, hl with | [_, _], _ => rfl)⟩
theorem vx_f_reads (X : K.In h) (G : h.Ns mainGlobals mg) (c : SaysC chk fns tss w K) : GFun (tb w K) mg "reads" s_reads P_reads := let ⟨fd, F⟩ := c.t.d.def_ (d := fns_3) 3; ⟨_, fd, He.glo_ok X G (fact_at (f := fas_3) (cb0 c) 3), fun_of F, FunD.bindsN (ps := P_reads) F (fun _ _ _ _ _ _ us hl => match us, hl with | [_, _, _, _, _], _ => rfl)⟩
theorem vx_f_goes_with (X : K.In h) (G : h.Ns mainGlobals mg) (c : SaysC chk fns tss w K) : GFun (tb w K) mg "goes_with" s_goes_with P_goes_with := let ⟨fd, F⟩ := c.t.d.def_ (d := fns_4) 4; ⟨_, fd, He.glo_ok X G (fact_at (f := fas_4) (cb0 c) 4), fun_of F, FunD.bindsN (ps := P_goes_with) F (fun _ _ _ _ _ _ us hl => match us, hl with | [_, _, _, _], _ => rfl)⟩
theorem vx_f_next_label (X : K.In h) (G : h.Ns mainGlobals mg) (c : SaysC chk fns tss w K) : GFun (tb w K) mg "next_label" s_next_label P_next_label := let ⟨fd, F⟩ := c.t.d.def_ (d := fns_5) 5; ⟨_, fd, He.glo_ok X G (fact_at (f := fas_5) (cb0 c) 5), fun_of F, FunD.bindsN (ps := P_next_label) F (fun _ _ _ _ _ _ us hl => match us, hl with | [_, _, _, _], _ => rfl)⟩
theorem vx_f_first_label (X : K.In h) (G : h.Ns mainGlobals mg) (c : SaysC chk fns tss w K) : GFun (tb w K) mg "first_label" s_first_label P_first_label := let ⟨fd, F⟩ := c.t.d.def_ (d := fns_6) 6; ⟨_, fd, He.glo_ok X G (fact_at (f := fas_6) (cb0 c) 6), fun_of F, FunD.bindsN (ps := P_first_label) F (fun _ _ _ _ _ _ us hl => match us, hl with | [_], _ => rfl)⟩
theorem vx_f_bells_rung (X : K.In h) (G : h.Ns mainGlobals mg) (c : SaysC chk fns tss w K) : GFun (tb w K) mg "bells_rung" s_bells_rung P_bells_rung := let ⟨fd, F⟩ := c.t.d.def_ (d := fns_7) 7; ⟨_, fd, He.glo_ok X G (fact_at (f := fas_7) (cb0 c) 7), fun_of F, FunD.bindsN (ps := P_bells_rung) F (fun _ _ _ _ _ _ us hl => match us, hl with | [_, _, _, _], _ => rfl)⟩
theorem vx_f__law_row (X : K.In h) (G : h.Ns mainGlobals mg) (c : SaysC chk fns tss w K) : GFun (tb w K) mg "_law_row" s__law_row P__law_row := let ⟨fd, F⟩ := c.t.d.def_ (d := fns_8) 8; ⟨_, fd, He.glo_ok X G (fact_at (f := fas_8) (cb0 c) 8), fun_of F, FunD.bindsN (ps := P__law_row) F (fun _ _ _ _ _ _ us hl => match us, hl with | [_, _], _ => rfl)⟩
theorem vx_f__law_kept (X : K.In h) (G : h.Ns mainGlobals mg) (c : SaysC chk fns tss w K) : GFun (tb w K) mg "_law_kept" s__law_kept P__law_kept := let ⟨fd, F⟩ := c.t.d.def_ (d := fns_9) 9; ⟨_, fd, He.glo_ok X G (fact_at (f := fas_9) (cb0 c) 9), fun_of F, FunD.bindsN (ps := P__law_kept) F (fun _ _ _ _ _ _ us hl => match us, hl with | [], _ => rfl)⟩
theorem vx_f__law_mark (X : K.In h) (G : h.Ns mainGlobals mg) (c : SaysC chk fns tss w K) : GFun (tb w K) mg "_law_mark" s__law_mark P__law_mark := let ⟨fd, F⟩ := c.t.d.def_ (d := fns_10) 10; ⟨_, fd, He.glo_ok X G (fact_at (f := fas_10) (cb0 c) 10), fun_of F, FunD.bindsN (ps := P__law_mark) F (fun _ _ _ _ _ _ us hl => match us, hl with | [_, _], _ => rfl)⟩
theorem vx_f__law_small (X : K.In h) (G : h.Ns mainGlobals mg) (c : SaysC chk fns tss w K) : GFun (tb w K) mg "_law_small" s__law_small P__law_small := let ⟨fd, F⟩ := c.t.d.def_ (d := fns_11) 11; ⟨_, fd, He.glo_ok X G (fact_at (f := fas_11) (cb0 c) 11), fun_of F, FunD.bindsN (ps := P__law_small) F (fun _ _ _ _ _ _ us hl => match us, hl with | [_, _, _], _ => rfl)⟩
theorem vx_f__law_plain (X : K.In h) (G : h.Ns mainGlobals mg) (c : SaysC chk fns tss w K) : GFun (tb w K) mg "_law_plain" s__law_plain P__law_plain := let ⟨fd, F⟩ := c.t.d.def_ (d := fns_12) 12; ⟨_, fd, He.glo_ok X G (fact_at (f := fas_12) (cb0 c) 12), fun_of F, FunD.bindsN (ps := P__law_plain) F (fun _ _ _ _ _ _ us hl => match us, hl with | [_], _ => rfl)⟩
theorem vx_f__law_parts (X : K.In h) (G : h.Ns mainGlobals mg) (c : SaysC chk fns tss w K) : GFun (tb w K) mg "_law_parts" s__law_parts P__law_parts := let ⟨fd, F⟩ := c.t.d.def_ (d := fns_13) 13; ⟨_, fd, He.glo_ok X G (fact_at (f := fas_13) (cb0 c) 13), fun_of F, FunD.bindsN (ps := P__law_parts) F (fun _ _ _ _ _ _ us hl => match us, hl with | [_], _ => rfl)⟩
theorem vx_f__law_reads (X : K.In h) (G : h.Ns mainGlobals mg) (c : SaysC chk fns tss w K) : GFun (tb w K) mg "_law_reads" s__law_reads P__law_reads := let ⟨fd, F⟩ := c.t.d.def_ (d := fns_14) 14; ⟨_, fd, He.glo_ok X G (fact_at (f := fas_14) (cb0 c) 14), fun_of F, FunD.bindsN (ps := P__law_reads) F (fun _ _ _ _ _ _ us hl => match us, hl with | [_, _, _, _, _], _ => rfl)⟩
theorem vx_f__law_goes (X : K.In h) (G : h.Ns mainGlobals mg) (c : SaysC chk fns tss w K) : GFun (tb w K) mg "_law_goes" s__law_goes P__law_goes := let ⟨fd, F⟩ := c.t.d.def_ (d := fns_15) 15; ⟨_, fd, He.glo_ok X G (fact_at (f := fas_15) (cb0 c) 15), fun_of F, FunD.bindsN (ps := P__law_goes) F (fun _ _ _ _ _ _ us hl => match us, hl with | [_, _, _, _], _ => rfl)⟩
theorem vx_f__law_behind (X : K.In h) (G : h.Ns mainGlobals mg) (c : SaysC chk fns tss w K) : GFun (tb w K) mg "_law_behind" s__law_behind P__law_behind := let ⟨fd, F⟩ := c.t.d.def_ (d := fns_16) 16; ⟨_, fd, He.glo_ok X G (fact_at (f := fas_16) (cb0 c) 16), fun_of F, FunD.bindsN (ps := P__law_behind) F (fun _ _ _ _ _ _ us hl => match us, hl with | [_, _, _, _], _ => rfl)⟩
theorem vx_f__law_rung (X : K.In h) (G : h.Ns mainGlobals mg) (c : SaysC chk fns tss w K) : GFun (tb w K) mg "_law_rung" s__law_rung P__law_rung := let ⟨fd, F⟩ := c.t.d.def_ (d := fns_17) 17; ⟨_, fd, He.glo_ok X G (fact_at (f := fas_17) (cb0 c) 17), fun_of F, FunD.bindsN (ps := P__law_rung) F (fun _ _ _ _ _ _ us hl => match us, hl with | [_, _, _, _], _ => rfl)⟩
theorem vx_f__law_first (X : K.In h) (G : h.Ns mainGlobals mg) (c : SaysC chk fns tss w K) : GFun (tb w K) mg "_law_first" s__law_first P__law_first := let ⟨fd, F⟩ := c.t.d.def_ (d := fns_18) 18; ⟨_, fd, He.glo_ok X G (fact_at (f := fas_18) (cb0 c) 18), fun_of F, FunD.bindsN (ps := P__law_first) F (fun _ _ _ _ _ _ us hl => match us, hl with | [_], _ => rfl)⟩
theorem vx_f__law_within (X : K.In h) (G : h.Ns mainGlobals mg) (c : SaysC chk fns tss w K) : GFun (tb w K) mg "_law_within" s__law_within P__law_within := let ⟨fd, F⟩ := c.t.d.def_ (d := fns_19) 19; ⟨_, fd, He.glo_ok X G (fact_at (f := fas_19) (cb0 c) 19), fun_of F, FunD.bindsN (ps := P__law_within) F (fun _ _ _ _ _ _ us hl => match us, hl with | [_], _ => rfl)⟩
theorem vx_f__law_asked (X : K.In h) (G : h.Ns mainGlobals mg) (c : SaysC chk fns tss w K) : GFun (tb w K) mg "_law_asked" s__law_asked P__law_asked := let ⟨fd, F⟩ := c.t.d.def_ (d := fns_20) 20; ⟨_, fd, He.glo_ok X G (fact_at (f := fas_20) (cb1 c) 0), fun_of F, FunD.bindsN (ps := P__law_asked) F (fun _ _ _ _ _ _ us hl => match us, hl with | [_, _, _, _, _, _], _ => rfl)⟩
theorem vx_f_law (X : K.In h) (G : h.Ns mainGlobals mg) (c : SaysC chk fns tss w K) : GFun (tb w K) mg "law" s_law P_law := let ⟨fd, F⟩ := c.t.d.def_ (d := fns_21) 21; ⟨_, fd, He.glo_ok X G (fact_at (f := fas_21) (cb1 c) 1), fun_of F, FunD.bindsN (ps := P_law) F (fun _ _ _ _ _ _ us hl => match us, hl with | [_], _ => rfl)⟩
theorem vx_fc_look_of_one (X : K.In h) (G : h.Ns mainGlobals mg) (c : SaysC chk fns tss w K) : GFunC (tb w K) mg "look_of_one" s_look_of_one P_look_of_one (cpIn K "look_of_one").1 := gfunC_of X G (fact_at (f := fas_22) (cb1 c) 2) (vx_f_look_of_one X G c)
theorem vx_fc_look_of_two (X : K.In h) (G : h.Ns mainGlobals mg) (c : SaysC chk fns tss w K) : GFunC (tb w K) mg "look_of_two" s_look_of_two P_look_of_two (cpIn K "look_of_two").1 := gfunC_of X G (fact_at (f := fas_23) (cb1 c) 3) (vx_f_look_of_two X G c)
theorem vx_fc_look_of (X : K.In h) (G : h.Ns mainGlobals mg) (c : SaysC chk fns tss w K) : GFunC (tb w K) mg "look_of" s_look_of P_look_of (cpIn K "look_of").1 := gfunC_of X G (fact_at (f := fas_24) (cb1 c) 4) (vx_f_look_of X G c)
theorem vx_un (X : K.In h) (G : h.Ns mainGlobals mg) (c : SaysC chk fns tss w K) : (mkN.map fun y => (cpIn K y).2).Nodup := of_decide_eq_true (fact_at (f := fas_25) (cb1 c) 5)
theorem vx (X : K.In h) (G : h.Ns mainGlobals mg) (c : SaysC chk fns tss w K) : Vx w K mg where
  n_bool := vx_n_bool X G c
  n_enumerate := vx_n_enumerate X G c
  n_int := vx_n_int X G c
  n_isinstance := vx_n_isinstance X G c
  n_len := vx_n_len X G c
  n_list := vx_n_list X G c
  n_range := vx_n_range X G c
  n_set := vx_n_set X G c
  n_sorted := vx_n_sorted X G c
  n_str := vx_n_str X G c
  n_tuple := vx_n_tuple X G c
  c_LOOKING_ON := vx_c_LOOKING_ON X G c
  c_RINGING := vx_c_RINGING X G c
  f_look_of_one := vx_f_look_of_one X G c
  f_look_of_two := vx_f_look_of_two X G c
  f_look_of := vx_f_look_of X G c
  f_reads := vx_f_reads X G c
  f_goes_with := vx_f_goes_with X G c
  f_next_label := vx_f_next_label X G c
  f_first_label := vx_f_first_label X G c
  f_bells_rung := vx_f_bells_rung X G c
  f__law_row := vx_f__law_row X G c
  f__law_kept := vx_f__law_kept X G c
  f__law_mark := vx_f__law_mark X G c
  f__law_small := vx_f__law_small X G c
  f__law_plain := vx_f__law_plain X G c
  f__law_parts := vx_f__law_parts X G c
  f__law_reads := vx_f__law_reads X G c
  f__law_goes := vx_f__law_goes X G c
  f__law_behind := vx_f__law_behind X G c
  f__law_rung := vx_f__law_rung X G c
  f__law_first := vx_f__law_first X G c
  f__law_within := vx_f__law_within X G c
  f__law_asked := vx_f__law_asked X G c
  f_law := vx_f_law X G c
  fc_look_of_one := vx_fc_look_of_one X G c
  fc_look_of_two := vx_fc_look_of_two X G c
  fc_look_of := vx_fc_look_of X G c
  un := vx_un X G c
end
end K31
open PySem PySem.W PySem.Calls PyProof.Rows
theorem K31.holds (hlaw : Fz.LawDoes K31.F_law) : PySem.Challenge.rw_everwalk_k31_what_forms_read.Holds := by
  w_on; o_law
  refine HandSHeadRun.head_any (r := OpenLaw.row PySem.Challenge.rw_everwalk_k31_what_forms_read) (q := view (OpenLaw.row PySem.Challenge.rw_everwalk_k31_what_forms_read).prog [25]) (H := K31.hk) (ob := K31.obH) (M := 30000) (loose := K31.nms) (d := HandSHeadRun.topDef (OpenLaw.row PySem.Challenge.rw_everwalk_k31_what_forms_read).prog 25) (kwd := []) K31.obH_eq
    (by kernel_rfl) (fun s => by kernel_rfl) K31.runH (by kernel_rfl) (by kernel_rfl) (by kernel_rfl) (by rfl) (by first | assumption | decide +kernel) (by decide +kernel) ⟨rfl, rfl, rfl, rfl, rfl, by decide +kernel⟩ ?hw ?hc
  case hw => w_witness2
  case hc =>
    refine Fz.walk_ofT (mk := K31.mkN) (l := PySem.Challenge.rw_everwalk_k31_what_forms_read) (k := 87) (x := "_law_script") rfl (by kernel_rfl) ⟨rfl, by decide, by decide, rfl⟩ ?F
    intro w mg fa h Y G hmg0
    obtain ⟨K, KX, c, mk⟩ := Y
    have hmg : mg ("law" : PySem.Str) = some (.ref fa) := by
      have e : (HandSHeadRun.topDef (OpenLaw.row PySem.Challenge.rw_everwalk_k31_what_forms_read).prog 25).name = ("law" : PySem.Str) := by kernel_rfl
      rw [← e]
      exact hmg0
    have V := K31.vx KX G c
    obtain ⟨f, fd, g1, g2, g3⟩ := V.f_law
    have e := hmg.symm.trans g1
    cases e
    refine ⟨K31.tb w K, fd, K31.F_law, Fz.tt_of, KX, mk, fun s u => ?_, hlaw, fun base _ _ tabs => Fz.ok_def g2 K31.sc_law (K31.does_law ⟨V, tabs⟩ fa)⟩
    obtain ⟨oc, od, kV, doc, pm, an, cdv, ct, osl, e, _, _⟩ := g2.ex
    subst e
    exact .of_eq rfl
open PySem PySem.W PyProof.Rows
set_option maxRecDepth 100000 in
set_option maxHeartbeats 8000000 in
theorem PySem.Challenge.cw_everwalk_k31_what_forms_read_holds : PySem.Challenge.rw_everwalk_k31_what_forms_read.Holds := by
  exact K31.holds K31.law_ok
