import PyProof.Rows.All
import Wide.All
import OpenK.AllK
import Wide.FinOn
import HandS.ForMost
import HandS.ForExc
import HandS.Lambda
import HandS.Evl
import HandS.Wide
import HandS.FStr
import HandS.IsInst
import HandS.Defaults
import HandS.OwnEq
import KE.KCallOwn
import HandS.Head0
import HandS.Head1
import HandS.Head2
import HandS.HeadEnd
import HandS.HeadHook1
import HandS.HeadHook2
import HandS.HeadWalk
import KE.KNest
import PyProof.ZipIter
import KE.KItemsList
import HandS.Style
import HandS.TryOnly
import HandS.ExcIs
import HandS.TupAny
import HandS.Zip
import HandS.SortKw
import KE.DataMinMax
import HandS.More
import HandS.HeadHook3
import HandS.TupLe
import PyProof.NeKinds
import HandS.TupSets
import HandS.DictTup
import KE.SortData
import KE.GoesMore
import KE.KTupSum
import HandS.Conv
import HandS.ExcInit
import HandS.ExcField
import HandS.TryMany
import HandS.TupMul
import KE.KIsAll
import KE.KDictPairs
import KE.KDictCopyH
import HandS.CallLocal
import KE.GoesEnum
import KE.KDictList
import HandS.DictSubView
import KE.DataEq
import KE.KTurns
import HandS.Deep
import KE.KDictZip
import KE.KEqDict
import HandS.Set
import PySem.Challenge.RW_farbetween_k62_farthest_words
set_option Elab.async false
set_option linter.all false
set_option maxRecDepth 100000
set_option maxHeartbeats 4000000
structure Hd (p : Prop) : Prop where
  o : p
theorem hE {p : Prop} (h : p) : Hd p = True := eq_true ⟨h⟩
namespace Pw
open PySem PySem.Spec PyProof.Rows L2
open Evl (Ex)
abbrev mkC : HO := .own 1
abbrev mkO : HO := .own 0
structure IsCod (c : Addr) (oc : Obj) (P : Addr) (q : Str) : Prop where
  hd : ∀ h : PySem.Heap, h.get? c = some oc → PySem.W.CodeHd h c P
  nm : ∃ (vs : Array Value) (t : Tok), oc.data = .fields vs ∧ vs[1]? = some (.str q t)
def Tab (H : Hp) (P : Addr) (q : Str) : Prop := ∃ ps : Array Value, H P = some (.tbl ps) ∧ TriplesOk ps.toList ∧ ∀ (pos : Pos) (cv : Value), codeAmong pos ps.toList = some cv → ∃ c oc P', cv = .ref c ∧ H c = some (.frz oc mkC) ∧ IsCod c oc P' q
def innerQ (q : Str) : Str := (q ++ ".<locals>.") ++ "<lambda>"
def Nm (tbs : List (Addr × Str)) (H : Hp) (P : Addr) (q : Str) : Prop := (P, q) ∈ tbs ∨ ∃ c oc q0, H c = some (.frz oc mkC) ∧ IsCod c oc P q0 ∧ q = innerQ q0
structure TabsOk (tbs : List (Addr × Str)) (H : Hp) : Prop where
  tab : ∀ P q, Nm tbs H P q → Tab H P q
  uniq : ∀ P q q', Nm tbs H P q → Nm tbs H P q' → q = q'
theorem IsCod.one {c P P' : Addr} {oc : Obj} {q q' : Str} {h : PySem.Heap} (e : h.get? c = some oc) (a : IsCod c oc P q) (b : IsCod c oc P' q') : P = P' ∧ q = q' := by
  obtain ⟨o1, vs1, _, _, _, _, _, _, _, e1, _, d1, v1, _⟩ := a.hd h e
  obtain ⟨o2, vs2, _, _, _, _, _, _, _, e2, _, d2, v2, _⟩ := b.hd h e
  rw [e] at e1 e2
  cases e1
  cases e2
  rw [d1] at d2
  cases d2
  rw [v1] at v2
  cases v2
  refine ⟨rfl, ?_⟩
  obtain ⟨vs, t, n1, n2⟩ := a.nm
  obtain ⟨vs', t', n3, n4⟩ := b.nm
  rw [n1] at n3
  cases n3
  rw [n2] at n4
  cases n4
  rfl
theorem TabsOk.keep {tbs : List (Addr × Str)} {H H' : Hp} (t : TabsOk tbs H) (a : ∀ b ps, H b = some (.tbl ps) → H' b = some (.tbl ps)) (k : ∀ b oc, H b = some (.frz oc mkC) → H' b = some (.frz oc mkC)) (n : ∀ b oc, H' b = some (.frz oc mkC) → H b = some (.frz oc mkC)) : TabsOk tbs H' := by
  have key : ∀ P q, Tab H P q → Tab H' P q := fun P q ⟨ps, h1, h2, h3⟩ => ⟨ps, a _ _ h1, h2, fun pos cv hc => by
    obtain ⟨c, oc, P', e1, e2, e3⟩ := h3 pos cv hc
    exact ⟨c, oc, P', e1, k _ _ e2, e3⟩⟩
  have nm : ∀ P q, Nm tbs H' P q → Nm tbs H P q := fun P q h => h.imp id fun ⟨c, oc, q0, e, i, z⟩ => ⟨c, oc, q0, n _ _ e, i, z⟩
  exact ⟨fun P q h => key _ _ (t.tab P q (nm _ _ h)), fun P q q' h h' => t.uniq P q q' (nm _ _ h) (nm _ _ h')⟩
structure LExt (H H' : Hp) : Prop where
  keep : ∀ b u, H b = some u → (∀ ps, u ≠ .tbl ps) → H' b = some u
  tbl : ∀ b ps, H b = some (.tbl ps) → ∃ more, H' b = some (.tbl (ps ++ more))
theorem LExt.refl (H : Hp) : LExt H H := ⟨fun _ _ h _ => h, fun b ps h => ⟨#[], by rw [h]; simp⟩⟩
section
variable {M : Model} {A : Around} {E : Value → Shared → Prop} {s : Shared} {name qual : Str} {params : Arguments} {body : Expr} {scope : Scope} {env : Env} {c P : Addr} {ps : Array Value} {pos : Pos} {firstLine : Nat} {mg : Str → Option Value}
  {clos : List (Str × Addr)} {Q : Value → Shared → Prop}
end
section
variable {X : Cx} {pins : List (Addr × Obj)} {σ : L2.St} {H : Hp} {s : Shared}
structure GStep (G G1 : Hp) (c : Addr) (oc : Obj) : Prop where
  old : ∀ b o, G b = some (.frz o mkC) → G1 b = some (.frz o mkC)
  new : ∀ b o, G1 b = some (.frz o mkC) → G b = some (.frz o mkC) ∨ b = c ∧ o = oc
  tbl : ∀ b u, G1 b = some u → G b = some u ∨ (∃ ps, u = .tbl ps) ∨ b = c ∧ u = .frz oc mkC
  at_ : G1 c = some (.frz oc mkC)
theorem GStep.refl {G : Hp} {c : Addr} {oc : Obj} (h : G c = some (.frz oc mkC)) : GStep G G c oc := ⟨fun _ _ e => e, fun _ _ e => .inl e, fun _ _ e => .inl e, h⟩
end
def CellIs (ob : Obj) (v : V) : Prop := ∃ u, ob.data = .cell (some u) ∧ RelV v u
abbrev SpL := List V → Hp → VK → Prop
def CallOk (P : Program) (w : World) (K : PySem.W.Frag) (mg : Str → Option Value) (base : PySem.Heap) (k : Nat) (f : Addr) (o : Obj) (cells : List (Addr × V)) (cc : Addr × Obj) (sp : SpL) : Prop :=
  ∀ (A : Around) (outer : List Env) (s : Shared) (H : Hp) (us : List Value) (vs : List V) (Q : VK), Room k A → Env0 P w K mg base A outer s H → s.heap.get? f = some o → (∀ p ∈ cells, ∃ ob, H p.1 = some (.frz ob mkO) ∧ CellIs ob p.2) → H cc.1 = some (.frz cc.2 mkC) → Vals vs us → sp vs H Q →
    codeAny (model P w) A (.call (.ref f) ⟨us, []⟩) (CR (fun _ _ _ _ _ _ => False) outer P w H s Q (fun _ _ _ => False)) s
structure CapOk (cl : List (Str × Addr)) (fr : List Str) (cells : List (Addr × V)) : Prop where
  inj : ∀ y z c, cl.lookup y = some c → cl.lookup z = some c → y = z
  dom : ∀ y c, cl.lookup y = some c → y ∈ fr
  len : cells.length = fr.length
  get : ∀ (i : Nat) y, fr[i]? = some y → ∃ c v, cl.lookup y = some c ∧ cells[i]? = some (c, v)
theorem CapOk.cell {cl : List (Str × Addr)} {fr : List Str} {cells : List (Addr × V)} (C : CapOk cl fr cells) {y : Str} {c : Addr} (h : cl.lookup y = some c) : c ∈ cells.map (·.1) := by
  obtain ⟨i, hi⟩ := List.getElem?_of_mem (C.dom y c h)
  obtain ⟨c', v, e, g⟩ := C.get i y hi
  rw [h] at e
  cases e
  exact List.mem_map.2 ⟨_, List.mem_of_getElem? g, rfl⟩
def FunO (o : Obj) : Prop := ∃ fd : FuncData, o = { cls := .type "function", data := .func fd }
def fnH (P : Program) (w : World) (K : PySem.W.Frag) (mg : Str → Option Value) (base : PySem.Heap) (k : Nat) (f : Addr) (o : Obj) (cells : List (Addr × V)) (cc : Addr × Obj) (sp : SpL) : HO := .frz o (.ext fun _ => CallOk P w K mg base k f o cells cc sp)
def BmOk (base : PySem.Heap) (mg : Str → Option Value) : Prop := ∃ P, base.BuiltinsAt mg P
theorem BmOk.at {X : Cx} {pins : List (Addr × Obj)} {σ : L2.St} {H : Hp} {s : Shared} (b : BmOk X.base X.mg) (I : Inv X pins σ H s) {P : Addr} {u : HO} (h : H P = some u) : s.heap.BuiltinsAt X.mg P ∧ mainGlobals ≠ P := by
  obtain ⟨P0, bm, ob, b1, b2, b3, b4, b5, b6, b7, b8⟩ := b
  have nb : ∀ a o, X.base.get? a = some o → a ≠ P := fun a o e z => by
    have := (I.bs a o e).2
    rw [z, h] at this; cases this
  refine ⟨⟨bm, ob, b1, b2, b3, nb bm ob b5, I.bk _ _ b5, b6, b7, b8⟩, ?_⟩
  obtain ⟨o, _, _, e, _⟩ := I.mod.glob
  exact nb _ o e
open Evl (Ex ex_l ex_t fresh_back)
inductive D where
  | non | bl (b : Bool) | int (i : Int) | str (x : Str) | ty (n : String) | ptr (a : Addr)
  | lst (ds : List D) | seq (ds : List D) | tup (ds : List D) | ins (c : Nat) (fs : List (Str × D)) | dic (kvs : List (Key × D))
  | key (ks : List Key) | dit (kvs : List (List Key × D)) | dil (kvs : List (Key × D)) | cod (c : Addr) (oc : Obj) (P : Addr) (q : Str) | dut (kvs : List (List Key × D))
inductive MO where
  | lst (ds : List D) | dK (kvs : List (Key × D)) | ins (c : Nat) (fs : List (Str × D)) | well (b : Nat) | dT (kvs : List (List Key × D)) | lkK (kvs : List (Key × D)) (o : HO) | lkT (kvs : List (List Key × D)) (o : HO)
  | clo (k : Nat) (f : Addr) (o : Obj) (cells : List (Addr × V)) (cc : Addr × Obj) (sp : SpL) (caps : List (D × V)) | cel (ob : Obj)
abbrev Mu := Addr → Option MO
abbrev mu0 : Mu := fun _ => none
def put (μ : Mu) (a : Addr) (m : MO) : Mu := fun b => if b = a then some m else μ b
def del (μ : Mu) (a : Addr) : Mu := fun b => if b = a then none else μ b
theorem put_same {μ : Mu} {a : Addr} {m : MO} : put μ a m a = some m := if_pos rfl
theorem put_ne {μ : Mu} {a b : Addr} {m : MO} (h : b ≠ a) : put μ a m b = μ b := if_neg h
theorem put_put {μ : Mu} {a : Addr} {m n : MO} : put (put μ a m) a n = put μ a n := by
  funext b; unfold put; split <;> rfl
theorem del_put {μ : Mu} {a : Addr} {m : MO} (h : μ a = none) : del (put μ a m) a = μ := by
  funext b; unfold del put; split
  · rename_i e; rw [e, h]
  · rfl
theorem put_get {μ : Mu} {a : Addr} {m : MO} (h : μ a = some m) : put μ a m = μ := by
  funext b; unfold put; split
  · rename_i e; rw [e, h]
  · rfl
structure Cfg where
  K : PySem.W.Frag
  cls : Nat → Addr
  P : Program
  w : World
  mg : Str → Option Value
  base : PySem.Heap
  tbs : List (Addr × Str)
def Cfg.nl (T : Cfg) : Cfg := { T with tbs := [] }
inductive Rep (T : Cfg) (H : Hp) : D → V → Prop where
  | non : Rep T H .non .non
  | bl (b : Bool) : Rep T H (.bl b) (.bl b)
  | int (i : Int) : Rep T H (.int i) (.int i)
  | str (x : Str) : Rep T H (.str x) (.str x)
  | ty (n : String) : Rep T H (.ty n) (.ty n)
  | ptr (a : Addr) : Rep T H (.ptr a) (.ref a)
  | lst {a : Addr} {ds : List D} {xs : List V} (h : H a = some (.lst xs)) (l : ds.length = xs.length) (r : ∀ (i : Nat) (d : D) (v : V), ds[i]? = some d → xs[i]? = some v → Rep T H d v) : Rep T H (.lst ds) (.ref a)
  | seq {a : Addr} {ds : List D} {xs : List V} (h : SqL T.K H a xs) (l : ds.length = xs.length) (r : ∀ (i : Nat) (d : D) (v : V), ds[i]? = some d → xs[i]? = some v → Rep T H d v) : Rep T H (.seq ds) (.ref a)
  | tup {a : Addr} {ds : List D} {xs : List V} (h : SqT T.K H a xs) (l : ds.length = xs.length) (r : ∀ (i : Nat) (d : D) (v : V), ds[i]? = some d → xs[i]? = some v → Rep T H d v) : Rep T H (.tup ds) (.ref a)
  | ins {a dx : Addr} {c : Nat} {gs : List (Str × D)} {fs : List (Str × V)} (h : H a = some (.ins (T.cls c) dx fs)) (l : gs.map (·.1) = fs.map (·.1)) (r : ∀ (i : Nat) (g : Str × D) (f : Str × V), gs[i]? = some g → fs[i]? = some f → Rep T H g.2 f.2) : Rep T H (.ins c gs) (.ref a)
  | dic {a : Addr} {gs : List (Key × D)} {fs : List (Key × V)} (h : H a = some (.dK fs)) (l : gs.map (·.1) = fs.map (·.1)) (r : ∀ (i : Nat) (g : Key × D) (f : Key × V), gs[i]? = some g → fs[i]? = some f → Rep T H g.2 f.2) : Rep T H (.dic gs) (.ref a)
  | key {a : Addr} {ks : List Key} (h : H a = some (.tup (ks.map kV))) : Rep T H (.key ks) (.ref a)
  | dit {a : Addr} {od : Obj} {gs : List (List Key × D)} {fs : List (List Key × V)} (h : H a = some (.frz od (.dT fs))) (l : gs.map (·.1) = fs.map (·.1)) (r : ∀ (i : Nat) (g : List Key × D) (f : List Key × V), gs[i]? = some g → fs[i]? = some f → Rep T H g.2 f.2) : Rep T H (.dit gs) (.ref a)
  | dil {a : Addr} {od : Obj} {gs : List (Key × D)} {fs : List (Key × V)} (h : H a = some (.frz od (.dK fs))) (l : gs.map (·.1) = fs.map (·.1)) (r : ∀ (i : Nat) (g : Key × D) (f : Key × V), gs[i]? = some g → fs[i]? = some f → Rep T H g.2 f.2) : Rep T H (.dil gs) (.ref a)
  | cod {c P : Addr} {oc : Obj} {q : Str} (h : H c = some (.frz oc mkC)) (i : IsCod c oc P q) : Rep T H (.cod c oc P q) (.ref c)
  | dut {a : Addr} {gs : List (List Key × D)} {fs : List (List Key × V)} (h : H a = some (.dT fs)) (l : gs.map (·.1) = fs.map (·.1)) (r : ∀ (i : Nat) (g : List Key × D) (f : List Key × V), gs[i]? = some g → fs[i]? = some f → Rep T H g.2 f.2) : Rep T H (.dut gs) (.ref a)
def RepL (T : Cfg) (H : Hp) (ds : List D) (xs : List V) : Prop := ds.length = xs.length ∧ ∀ (i : Nat) (d : D) (v : V), ds[i]? = some d → xs[i]? = some v → Rep T H d v
def RepP {α : Type} (T : Cfg) (H : Hp) (gs : List (α × D)) (fs : List (α × V)) : Prop := gs.map (·.1) = fs.map (·.1) ∧ ∀ (i : Nat) (g : α × D) (f : α × V), gs[i]? = some g → fs[i]? = some f → Rep T H g.2 f.2
section
variable {T : Cfg} {H H' : Hp}
theorem Rep.mono {d : D} {v : V} (e : Ex H H') (h : Rep T H d v) : Rep T H' d v := by
  induction h with
  | non => exact .non
  | bl b => exact .bl b
  | int i => exact .int i
  | str x => exact .str x
  | ty n => exact .ty n
  | ptr a => exact .ptr a
  | lst h l r ih => exact .lst (e _ _ h) l ih
  | seq h l r ih => exact .seq (ex_l e h) l ih
  | tup h l r ih => exact .tup (ex_t e h) l ih
  | ins h l r ih => exact .ins (e _ _ h) l ih
  | dic h l r ih => exact .dic (e _ _ h) l ih
  | key h => exact .key (e _ _ h)
  | dit h l r ih => exact .dit (e _ _ h) l ih
  | dil h l r ih => exact .dil (e _ _ h) l ih
  | dut h l r ih => exact .dut (e _ _ h) l ih
  | cod h i => exact .cod (e _ _ h) i
theorem RepL.mono {ds : List D} {xs : List V} (e : Ex H H') (h : RepL T H ds xs) : RepL T H' ds xs := ⟨h.1, fun i d v a b => (h.2 i d v a b).mono e⟩
theorem RepP.mono {α : Type} {gs : List (α × D)} {fs : List (α × V)} (e : Ex H H') (h : RepP T H gs fs) : RepP T H' gs fs := ⟨h.1, fun i d v a b => (h.2 i d v a b).mono e⟩
theorem RepL.nil : RepL T H [] [] := ⟨rfl, fun i d v a _ => by simp at a⟩
theorem RepL.cons {d : D} {v : V} {ds : List D} {xs : List V} (h : Rep T H d v) (t : RepL T H ds xs) : RepL T H (d :: ds) (v :: xs) := by
  refine ⟨by simp [t.1], fun i e w a b => ?_⟩
  cases i with
  | zero =>
    simp at a b
    subst a; subst b
    exact h
  | succ i =>
    simp at a b
    exact t.2 i e w a b
theorem RepL.head {d : D} {v : V} {ds : List D} {xs : List V} (h : RepL T H (d :: ds) (v :: xs)) : Rep T H d v := h.2 0 d v rfl rfl
theorem RepL.tail {d : D} {v : V} {ds : List D} {xs : List V} (h : RepL T H (d :: ds) (v :: xs)) : RepL T H ds xs := by
  refine ⟨by have := h.1; simpa using this, fun i e w a b => h.2 (i + 1) e w (by simpa using a) (by simpa using b)⟩
theorem RepL.nil_inv {xs : List V} (h : RepL T H [] xs) : xs = [] := by
  have := h.1
  cases xs with
  | nil => rfl
  | cons _ _ => simp at this
theorem RepL.cons_inv {d : D} {ds : List D} {xs : List V} (h : RepL T H (d :: ds) xs) : ∃ v ys, xs = v :: ys ∧ Rep T H d v ∧ RepL T H ds ys := by
  cases xs with
  | nil => have := h.1; simp at this
  | cons v ys => exact ⟨v, ys, rfl, h.head, h.tail⟩
theorem RepL.app {ds es : List D} {xs ys : List V} (h : RepL T H ds xs) (k : RepL T H es ys) : RepL T H (ds ++ es) (xs ++ ys) := by
  refine ⟨by simp [h.1, k.1], fun i d v a b => ?_⟩
  by_cases hi : i < ds.length
  · rw [List.getElem?_append_left hi] at a
    rw [List.getElem?_append_left (by rw [← h.1]; exact hi)] at b
    exact h.2 i d v a b
  · rw [List.getElem?_append_right (by omega)] at a
    rw [List.getElem?_append_right (by rw [← h.1]; omega), ← h.1] at b
    exact k.2 _ d v a b
theorem RepL.get {ds : List D} {xs : List V} (h : RepL T H ds xs) {i : Nat} {d : D} (a : ds[i]? = some d) : ∃ v, xs[i]? = some v ∧ Rep T H d v := by
  have hi : i < ds.length := (List.getElem?_eq_some_iff.mp a).1
  have hx : i < xs.length := by rw [← h.1]; exact hi
  exact ⟨xs[i], List.getElem?_eq_getElem hx, h.2 i d _ a (List.getElem?_eq_getElem hx)⟩
theorem RepL.drop {ds : List D} {xs : List V} (h : RepL T H ds xs) (n : Nat) : RepL T H (ds.drop n) (xs.drop n) :=
  ⟨by simp [h.1], fun i d v a b => h.2 (n + i) d v (by simpa using a) (by simpa using b)⟩
theorem RepL.take {ds : List D} {xs : List V} (h : RepL T H ds xs) (n : Nat) : RepL T H (ds.take n) (xs.take n) := by
  refine ⟨by simp [h.1], fun i d v a b => ?_⟩
  rw [List.getElem?_take] at a b
  split at a
  · rename_i hi
    rw [if_pos hi] at b
    exact h.2 i d v a b
  · cases a
theorem RepL.set {ds : List D} {xs : List V} (h : RepL T H ds xs) {j : Nat} {d : D} {v : V} (r : Rep T H d v) : RepL T H (ds.set j d) (xs.set j v) := by
  refine ⟨by simp [h.1], fun i e w a b => ?_⟩
  rw [List.getElem?_set] at a b
  split at a
  · rename_i hij
    rw [if_pos hij] at b
    split at a
    · split at b
      · cases a; cases b; exact r
      · cases b
    · cases a
  · rename_i hij
    rw [if_neg hij] at b
    exact h.2 i e w a b
theorem RepL.ints {ns : List Int} {xs : List V} (h : RepL T H (ns.map D.int) xs) : xs = ns.map V.int := by
  induction ns generalizing xs with
  | nil => exact h.nil_inv
  | cons n r ih =>
    obtain ⟨v, ys, rfl, a, b⟩ := RepL.cons_inv (d := D.int n) (ds := r.map D.int) h
    cases a
    rw [ih b]
    rfl
theorem RepL.bls {bs : List Bool} {xs : List V} (h : RepL T H (bs.map D.bl) xs) : xs = bs.map V.bl := by
  induction bs generalizing xs with
  | nil => exact h.nil_inv
  | cons n r ih =>
    obtain ⟨v, ys, rfl, a, b⟩ := RepL.cons_inv (d := D.bl n) (ds := r.map D.bl) h
    cases a
    rw [ih b]
    rfl
theorem Rep.lst_inv {ds : List D} {v : V} (h : Rep T H (.lst ds) v) : ∃ a xs, v = .ref a ∧ H a = some (.lst xs) ∧ RepL T H ds xs := by
  cases h with
  | lst h l r => exact ⟨_, _, rfl, h, l, r⟩
theorem Rep.seq_inv {ds : List D} {v : V} (h : Rep T H (.seq ds) v) : ∃ a xs, v = .ref a ∧ SqL T.K H a xs ∧ RepL T H ds xs := by
  cases h with
  | seq h l r => exact ⟨_, _, rfl, h, l, r⟩
theorem Rep.tup_inv {ds : List D} {v : V} (h : Rep T H (.tup ds) v) : ∃ a xs, v = .ref a ∧ SqT T.K H a xs ∧ RepL T H ds xs := by
  cases h with
  | tup h l r => exact ⟨_, _, rfl, h, l, r⟩
theorem Rep.ins_inv {c : Nat} {gs : List (Str × D)} {v : V} (h : Rep T H (.ins c gs) v) : ∃ a dx fs, v = .ref a ∧ H a = some (.ins (T.cls c) dx fs) ∧ RepP T H gs fs := by
  cases h with
  | ins h l r => exact ⟨_, _, _, rfl, h, l, r⟩
theorem RepP.look {gs : List (Str × D)} {fs : List (Str × V)} (h : RepP T H gs fs) {f : Str} {d : D} (e : gs.lookup f = some d) : ∃ v, fs.lookup f = some v ∧ Rep T H d v := by
  obtain ⟨h1, h2⟩ := h
  induction gs generalizing fs with
  | nil => simp at e
  | cons g gs ih =>
    cases fs with
    | nil => simp at h1
    | cons z fs =>
      obtain ⟨a, d'⟩ := g
      obtain ⟨b, v'⟩ := z
      simp only [List.map_cons, List.cons.injEq] at h1
      obtain ⟨e1, e2⟩ := h1
      have e1 : a = b := e1
      subst e1
      rw [List.lookup_cons] at e ⊢
      by_cases hf : (f == a) = true
      · rw [hf] at e ⊢
        have := h2 0 (a, d') (a, v') rfl rfl
        cases e
        exact ⟨v', rfl, this⟩
      · simp only [Bool.not_eq_true] at hf
        rw [hf] at e ⊢
        exact ih e e2 fun i g f a b => h2 (i + 1) g f (by simpa using a) (by simpa using b)
theorem RepP.lookNone {gs : List (Str × D)} {fs : List (Str × V)} (h : gs.map (·.1) = fs.map (·.1)) {f : Str} (e : gs.lookup f = none) : fs.lookup f = none := by
  induction gs generalizing fs with
  | nil => cases fs with
    | nil => rfl
    | cons _ _ => simp at h
  | cons g gs ih =>
    cases fs with
    | nil => simp at h
    | cons z fs =>
      obtain ⟨a, d'⟩ := g
      obtain ⟨b, v'⟩ := z
      simp only [List.map_cons, List.cons.injEq] at h
      obtain ⟨e1, e2⟩ := h
      have e1 : a = b := e1
      subst e1
      rw [List.lookup_cons] at e ⊢
      by_cases hf : (f == a) = true
      · rw [hf] at e; cases e
      · simp only [Bool.not_eq_true] at hf
        rw [hf] at e ⊢
        exact ih e2 e
end
def putG (f : Str) (d : D) : List (Str × D) → List (Str × D)
  | [] => [(f, d)]
  | (g, x) :: r => if g = f then (g, d) :: r else (g, x) :: putG f d r
def ObjRep (T : Cfg) (Hb : Hp) : MO → HO → Prop
  | .lst ds, .lst xs => RepL T Hb ds xs
  | .dK kvs, .dK es => RepP T Hb kvs es
  | .dT kvs, .dT es => RepP T Hb kvs es
  | .lkK kvs o, o' => o' = o ∧ ∃ od fs, o = .frz od (.dK fs) ∧ RepP T Hb kvs fs
  | .lkT kvs o, o' => o' = o ∧ ∃ od fs, o = .frz od (.dT fs) ∧ RepP T Hb kvs fs
  | .ins c gs, .ins C _ fs => C = T.cls c ∧ RepP T Hb gs fs
  | .clo k f o cells cc sp caps, o' => o' = fnH T.P T.w T.K T.mg T.base k f o cells cc sp ∧ FunO o ∧ Hb cc.1 = some (.frz cc.2 mkC) ∧ ∀ z ∈ caps, Rep T Hb z.1 z.2
  | .cel ob, o' => o' = .frz ob mkO
  | .well b, .lst xs => ∃ w0 w1 w2 : Int, xs = [.int w0, .int w1, .int w2] ∧ 0 ≤ w0 ∧ 0 ≤ w1 ∧ w1 < 2147483647 ∧ 0 ≤ w2 ∧ w2 + (b : Int) ≤ 1073741824
  | _, _ => False
theorem ObjRep.mono {T : Cfg} {H H' : Hp} {m : MO} {o : HO} (e : Ex H H') (h : ObjRep T H m o) : ObjRep T H' m o := by
  cases m <;> cases o <;> first
    | exact h.elim
    | exact RepL.mono e h
    | exact RepP.mono e h
    | exact ⟨h.1, RepP.mono e h.2⟩
    | (obtain ⟨h1, od, fs, h2, h3⟩ := h; exact ⟨h1, od, fs, h2, RepP.mono e h3⟩)
    | (obtain ⟨h1, h2, h3, h4⟩ := h; exact ⟨h1, h2, e _ _ h3, fun z hz => (h4 z hz).mono e⟩)
    | exact h
def NoTC (o : HO) : Prop := (∀ ps, o ≠ .tbl ps) ∧ ∀ oc, o ≠ .frz oc mkC
theorem ObjRep.ntc {T : Cfg} {Hb : Hp} {m : MO} {o : HO} (r : ObjRep T Hb m o) : NoTC o := by
  refine ⟨fun ps e => ?_, fun oc e => ?_⟩ <;> subst e <;> cases m <;> first
    | exact r
    | (obtain ⟨h1, od, fs, h2, h3⟩ := r; rw [h2] at h1; cases h1)
    | (obtain ⟨h1, _⟩ := r; exact HO.noConfusion h1)
    | exact HO.noConfusion r
    | (obtain ⟨h1, _⟩ := r; exact HO.noConfusion (HO.frz.inj h1).2)
    | exact absurd (HO.own.inj (HO.frz.inj r).2) (by decide)
def TabsIn (T : Cfg) (Hb H : Hp) : Prop := ∃ G, Ex G H ∧ TabsOk T.tbs G ∧ (∀ c oc, G c = some (.frz oc mkC) ↔ Hb c = some (.frz oc mkC)) ∧ ∀ a u, G a = some u → ¬ NoTC u
structure SimMu (T : Cfg) (μ : Mu) (Hb H : Hp) : Prop where
  of : ∀ a m, μ a = some m → Hb a = none ∧ ∃ o, H a = some o ∧ ObjRep T Hb m o
  tab : TabsIn T Hb H
  ntb : ∀ a ps, Hb a ≠ some (.tbl ps)
instance {T : Cfg} {μ : Mu} {Hb H : Hp} : CoeFun (SimMu T μ Hb H) (fun _ => ∀ a m, μ a = some m → Hb a = none ∧ ∃ o, H a = some o ∧ ObjRep T Hb m o) := ⟨SimMu.of⟩
theorem SimMu.nil {T : Cfg} {μ : Mu} {Hb H : Hp} (s : SimMu T μ Hb H) : SimMu T mu0 Hb H := ⟨fun _ _ h => (nomatch h), s.tab, s.ntb⟩
theorem SimMu.as {T : Cfg} {μ μ' : Mu} {Hb H : Hp} (s : SimMu T μ Hb H) (h : ∀ a m, μ' a = some m → Hb a = none ∧ ∃ o, H a = some o ∧ ObjRep T Hb m o) : SimMu T μ' Hb H := ⟨h, s.tab, s.ntb⟩
theorem SimMu.up {T : Cfg} {μ μ' : Mu} {Hb H Hb' H' : Hp} (s : SimMu T μ Hb H) (e : ∀ a u, ¬ NoTC u → H a = some u → H' a = some u) (x : ∀ a u, ¬ NoTC u → (Hb' a = some u ↔ Hb a = some u)) (h : ∀ a m, μ' a = some m → Hb' a = none ∧ ∃ o, H' a = some o ∧ ObjRep T Hb' m o) : SimMu T μ' Hb' H' := by
  obtain ⟨G, xG, TO, hc, hn⟩ := s.tab
  exact ⟨h, ⟨G, fun a u q => e a u (hn a u q) (xG a u q), TO, fun c oc => (hc c oc).trans (x c _ fun z => z.2 oc rfl).symm, hn⟩, fun a ps q => s.ntb a ps ((x a _ fun z => z.1 ps rfl).1 q)⟩
theorem SimMu.frz_iff {T : Cfg} {μ : Mu} {Hb H : Hp} (s : SimMu T μ Hb H) {b : Addr} {m : MO} {u : HO} (hm : μ b = some m) (hu : ¬ NoTC u) : H b = some u ↔ Hb b = some u := by
  obtain ⟨n, o, ho, r⟩ := s b m hm
  exact ⟨fun e => by rw [ho] at e; cases e; exact absurd r.ntc hu, fun e => by rw [n] at e; cases e⟩
theorem upd_ntc {H : Hp} {p : Addr} {o : HO} (hp : ∀ u, H p = some u → NoTC u) (ho : NoTC o) : ∀ a u, ¬ NoTC u → (upd H p o a = some u ↔ H a = some u) := fun a u hu => by
  by_cases e : a = p
  · subst e
    rw [upd_same]
    exact ⟨fun q => absurd (Option.some.inj q ▸ ho) hu, fun q => absurd (hp u q) hu⟩
  · rw [upd_ne e]
structure Go (T : Cfg) (μ : Mu) (Hb H : Hp) (μ' : Mu) (Hb' H' : Hp) : Prop where
  ex : Ex Hb Hb'
  keep : ∀ a o, H a = some o → Hb a = none → μ a = none → (T.tbs = [] ∨ ∀ ps, o ≠ .tbl ps) → H' a = some o ∧ ((∀ xs, o ≠ .tup xs) → Hb' a = none)
  new : ∀ a m, μ' a = some m → μ a ≠ none ∨ H a = none
  alive : ∀ a o, H a = some o → ∃ o', H' a = some o'
  sub : Ex Hb' H'
  mu : SimMu T μ' Hb' H'
section
variable {T : Cfg} {μ μ1 μ2 : Mu} {Hb H Hb1 H1 Hb2 H2 : Hp}
theorem Go.refl (s : Ex Hb H) (m : SimMu T μ Hb H) : Go T μ Hb H μ Hb H :=
  ⟨Ex.refl _, fun _ _ h n _ _ => ⟨h, fun _ => n⟩, fun _ _ h => .inl (by rw [h]; simp), fun _ o h => ⟨o, h⟩, s, m⟩
theorem Go.trans (a : Go T μ Hb H μ1 Hb1 H1) (b : Go T μ1 Hb1 H1 μ2 Hb2 H2) : Go T μ Hb H μ2 Hb2 H2 where
  ex := a.ex.trans b.ex
  keep := fun c o h n m nt => by
    obtain ⟨h1, n1⟩ := a.keep c o h n m nt
    have m1 : μ1 c = none := by
      cases e : μ1 c with
      | none => rfl
      | some z =>
        rcases a.new c z e with q | q
        · exact absurd m q
        · rw [h] at q; cases q
    cases hb : Hb1 c with
    | none => exact b.keep c o h1 hb m1 nt
    | some o' =>
      have eo : o' = o := by
        have := a.sub c o' hb
        rw [h1] at this
        exact (Option.some.inj this).symm
      subst eo
      refine ⟨b.sub c _ (b.ex c _ hb), fun nt => ?_⟩
      rw [n1 nt] at hb
      cases hb
  new := fun c z h => by
    have dead : H1 c = none → H c = none := fun q => by
      cases e : H c with
      | none => rfl
      | some o =>
        obtain ⟨o', e'⟩ := a.alive c o e
        rw [q] at e'; cases e'
    rcases b.new c z h with q | q
    · cases e : μ1 c with
      | none => exact absurd e q
      | some y => exact a.new c y e
    · exact .inr (dead q)
  alive := fun c o h => by
    obtain ⟨o', e⟩ := a.alive c o h
    exact b.alive c o' e
  sub := b.sub
  mu := b.mu
theorem Go.lay (s : Ex Hb H) (m : SimMu T μ Hb H) {p : Addr} {o : HO} (hp : H p = none) (ho : NoTC o := by exact ⟨fun _ z => (nomatch z), fun _ z => (nomatch z)⟩) : Go T μ Hb H μ (upd Hb p o) (upd H p o) := by
  have hb : Hb p = none := fresh_back s hp
  refine ⟨Evl.Ex.new hb, fun a u h n _ _ => ?_, fun _ _ h => .inl (by rw [h]; simp), fun a u h => ?_, fun a u h => ?_, m.up (fun a u n q => (upd_ntc (fun u q => by rw [hp] at q; cases q) ho a u n).2 q) (upd_ntc (fun u q => by rw [hb] at q; cases q) ho) fun a z h => ?_⟩
  · have ne : a ≠ p := ne_of_none h hp
    rw [upd_ne ne, upd_ne ne]
    exact ⟨h, fun _ => n⟩
  · have ne : a ≠ p := ne_of_none h hp
    exact ⟨u, by rw [upd_ne ne]; exact h⟩
  · by_cases e : a = p
    · subst e; rw [upd_same] at h ⊢; exact h
    · rw [upd_ne e] at h ⊢; exact s a u h
  · obtain ⟨n, u, hu, r⟩ := m a z h
    have ne : a ≠ p := ne_of_none hu hp
    exact ⟨by rw [upd_ne ne]; exact n, u, by rw [upd_ne ne]; exact hu, r.mono (Evl.Ex.new hb)⟩
theorem Go.own (s : Ex Hb H) (m : SimMu T μ Hb H) {p : Addr} {o : HO} {z : MO} (hp : H p = none) (r : ObjRep T Hb z o) : Go T μ Hb H (put μ p z) Hb (upd H p o) := by
  have hb : Hb p = none := fresh_back s hp
  refine ⟨Ex.refl _, fun a u h n _ _ => ⟨by rw [upd_ne (ne_of_none h hp)]; exact h, fun _ => n⟩, fun a y h => ?_, fun a u h => ⟨u, by rw [upd_ne (ne_of_none h hp)]; exact h⟩, fun a u h => ?_, m.up (fun a u n q => (upd_ntc (fun u q => by rw [hp] at q; cases q) r.ntc a u n).2 q) (fun _ _ _ => Iff.rfl) fun a y h => ?_⟩
  · by_cases e : a = p
    · subst e; exact .inr hp
    · rw [put_ne e] at h; exact .inl (by rw [h]; simp)
  · rw [upd_ne (ne_of_none (s a u h) hp)]; exact s a u h
  · by_cases e : a = p
    · subst e
      rw [put_same] at h
      cases h
      exact ⟨hb, o, upd_same, r⟩
    · rw [put_ne e] at h
      obtain ⟨n, u, hu, q⟩ := m a y h
      exact ⟨n, u, by rw [upd_ne e]; exact hu, q⟩
theorem Go.chg (s : Ex Hb H) (m : SimMu T μ Hb H) {p : Addr} {o : HO} {z y : MO} (hp : μ p = some y) (r : ObjRep T Hb z o) : Go T μ Hb H (put μ p z) Hb (upd H p o) := by
  obtain ⟨hb, u0, hu0, r0⟩ := m p y hp
  refine ⟨Ex.refl _, fun a u h n w _ => ?_, fun a x h => ?_, fun a u h => ?_, fun a u h => ?_, m.up (fun a u n q => (upd_ntc (fun u q => by rw [hu0] at q; cases q; exact r0.ntc) r.ntc a u n).2 q) (fun _ _ _ => Iff.rfl) fun a x h => ?_⟩
  · have ne : a ≠ p := fun e => by subst e; rw [hp] at w; cases w
    exact ⟨by rw [upd_ne ne]; exact h, fun _ => n⟩
  · by_cases e : a = p
    · subst e; exact .inl (by rw [hp]; simp)
    · rw [put_ne e] at h; exact .inl (by rw [h]; simp)
  · by_cases e : a = p
    · subst e; exact ⟨o, upd_same⟩
    · exact ⟨u, by rw [upd_ne e]; exact h⟩
  · have ne : a ≠ p := fun e => by subst e; rw [h] at hb; cases hb
    rw [upd_ne ne]; exact s a u h
  · by_cases e : a = p
    · subst e
      rw [put_same] at h
      cases h
      exact ⟨hb, o, upd_same, r⟩
    · rw [put_ne e] at h
      obtain ⟨n, u, hu, q⟩ := m a x h
      exact ⟨n, u, by rw [upd_ne e]; exact hu, q⟩
theorem Go.freeze (s : Ex Hb H) (m : SimMu T μ Hb H) {p : Addr} {o : HO} {y : MO} (hp : μ p = some y) (ho : H p = some o) : Go T μ Hb H (del μ p) (upd Hb p o) H := by
  obtain ⟨hb, u0, hu0, r0⟩ := m p y hp
  have ex : Ex Hb (upd Hb p o) := Evl.Ex.new hb
  refine ⟨ex, fun a u h n w _ => ?_, fun a x h => ?_, fun a u h => ⟨u, h⟩, fun a u h => ?_, m.up (fun _ _ _ q => q) (upd_ntc (fun u q => by rw [hb] at q; cases q) (by rw [ho] at hu0; cases hu0; exact r0.ntc)) fun a x h => ?_⟩
  · have ne : a ≠ p := fun e => by subst e; rw [hp] at w; cases w
    exact ⟨h, fun _ => by rw [upd_ne ne]; exact n⟩
  · unfold del at h
    split at h
    · cases h
    · exact .inl (by rw [h]; simp)
  · by_cases e : a = p
    · subst e; rw [upd_same] at h; cases h; exact ho
    · rw [upd_ne e] at h; exact s a u h
  · unfold del at h
    split at h
    · cases h
    · rename_i e
      obtain ⟨n, u, hu, q⟩ := m a x h
      exact ⟨by rw [upd_ne e]; exact n, u, hu, q.mono ex⟩
end
theorem ObjRep.notTup {T : Cfg} {Hb : Hp} {m : MO} {o : HO} (r : ObjRep T Hb m o) (xs : List V) : o ≠ .tup xs := fun e => by
  subst e
  cases m <;> first
    | exact r
    | (obtain ⟨h1, od, fs, h2, h3⟩ := r; rw [h2] at h1; cases h1)
    | (obtain ⟨h1, _⟩ := r; exact HO.noConfusion h1)
    | exact HO.noConfusion r
theorem Go.keepN {T : Cfg} {μ μ' : Mu} {Hb H Hb' H' Hc : Hp} {a : Addr} {o : HO} {m : MO} (g : Go T μ Hb H μ' Hb' H') (h : H a = some o) (hb : Hb a = none) (hm : μ a = none) (r : ObjRep T Hc m o) : H' a = some o ∧ Hb' a = none :=
  ⟨(g.keep a o h hb hm (.inr r.ntc.1)).1, (g.keep a o h hb hm (.inr r.ntc.1)).2 r.notTup⟩
theorem Go.tup {T : Cfg} {μ : Mu} {Hb H : Hp} (s : Ex Hb H) (m : SimMu T μ Hb H) {p : Addr} {xs : List V} (hp : H p = some (.tup xs)) : Go T μ Hb H μ (upd Hb p (.tup xs)) H := by
  have ex : Ex Hb (upd Hb p (.tup xs)) := fun a o h => by
    by_cases e : a = p
    · subst e
      have := s a o h
      rw [hp] at this
      rw [upd_same]
      exact this
    · rw [upd_ne e]; exact h
  refine ⟨ex, fun a u h n w _ => ⟨h, fun nt => ?_⟩, fun a x h => .inl (by rw [h]; simp), fun a u h => ⟨u, h⟩, fun a u h => ?_, m.up (fun _ _ _ q => q) (upd_ntc (fun u q => by have := s p u q; rw [hp] at this; cases this; exact ⟨fun _ z => (nomatch z), fun _ z => (nomatch z)⟩) ⟨fun _ z => (nomatch z), fun _ z => (nomatch z)⟩) fun a x h => ?_⟩
  · have ne : a ≠ p := fun e => by subst e; rw [hp] at h; exact nt xs (Option.some.inj h).symm
    rw [upd_ne ne]; exact n
  · by_cases e : a = p
    · subst e; rw [upd_same] at h; cases h; exact hp
    · rw [upd_ne e] at h; exact s a u h
  · obtain ⟨n, u, hu, r⟩ := m a x h
    have ne : a ≠ p := fun e => by
      subst e
      rw [hp] at hu
      exact r.notTup xs (Option.some.inj hu).symm
    exact ⟨by rw [upd_ne ne]; exact n, u, hu, r.mono ex⟩
structure S where
  r : List (Option D)
  m : Mu
structure Sim (T : Cfg) (s : S) (σ : L2.St) (Hb H : Hp) : Prop where
  len : s.r.length = σ.length
  vars : ∀ (i : Nat) (d : D), s.r[i]? = some (some d) → ∃ v, σ[i]? = some (some v) ∧ Rep T Hb d v
  sub : Ex Hb H
  mu : SimMu T s.m Hb H
section
variable {T : Cfg} {s : S} {ρ : List (Option D)} {m0 : Mu} {σ : L2.St} {Hb H Hb' H' : Hp} {μ' : Mu}
theorem Sim.refl (h : Sim T s σ Hb H) : Go T s.m Hb H s.m Hb H := .refl h.sub h.mu
theorem Sim.go (h : Sim T s σ Hb H) (g : Go T s.m Hb H μ' Hb' H') : Sim T ⟨s.r, μ'⟩ σ Hb' H' :=
  ⟨h.len, fun i d e => by obtain ⟨v, a, b⟩ := h.vars i d e; exact ⟨v, a, b.mono g.ex⟩, g.sub, g.mu⟩
theorem Sim.set (h : Sim T s σ Hb H) (i : Nat) {d : D} {v : V} (r : Rep T Hb d v) : Sim T ⟨s.r.set i (some d), s.m⟩ (σ.set i (some v)) Hb H := by
  refine ⟨by simp [h.len], fun j e a => ?_, h.sub, h.mu⟩
  have a : (s.r.set i (some d))[j]? = some (some e) := a
  rw [List.getElem?_set] at a
  rw [List.getElem?_set]
  split at a
  · rename_i hij
    rw [if_pos hij]
    split at a
    · rename_i hl
      rw [if_pos (by rw [← h.len]; exact hl)]
      cases a
      exact ⟨v, rfl, r⟩
    · cases a
  · rename_i hij
    rw [if_neg hij]
    exact h.vars j e a
end
structure XD where
  cls : Value
  val : Option (Str × D)
def RepX (T : Cfg) (Hb : Hp) (x : XD) (cls : Value) (dd : Option Addr) : Prop :=
  cls = x.cls ∧ match x.val with
  | none => dd = none
  | some (f, d) => ∃ a v, dd = some a ∧ Hb a = some (.xd [(f, v)]) ∧ Rep T Hb d v
abbrev XW := XD → Mu → Prop
def EV (T : Cfg) (te : TE) (W : WX) (s : S) (P : D → Mu → Prop) (XP : XW) : Prop :=
  ∀ σ Hb H Q, Sim T s σ Hb H → (∀ d μ' v Hb' H', Go T s.m Hb H μ' Hb' H' → Rep T Hb' d v → P d μ' → Q v H') →
    (∀ x μ' cls dd Hb' H', Go T s.m Hb H μ' Hb' H' → RepX T Hb' x cls dd → XP x μ' → W cls dd σ H') → te σ H Q
def EA (T : Cfg) (ta : TA) (W : WX) (s : S) (P : List D → Mu → Prop) (XP : XW) : Prop :=
  ∀ σ Hb H Q, Sim T s σ Hb H → (∀ ds μ' vs Hb' H', Go T s.m Hb H μ' Hb' H' → RepL T Hb' ds vs → P ds μ' → Q vs H') →
    (∀ x μ' cls dd Hb' H', Go T s.m Hb H μ' Hb' H' → RepX T Hb' x cls dd → XP x μ' → W cls dd σ H') → ta σ H Q
def TV (T : Cfg) (tt : TT) (W : WX) (s : S) (P : Bool → Mu → Prop) (XP : XW) : Prop :=
  ∀ σ Hb H Q, Sim T s σ Hb H → (∀ b μ' Hb' H', Go T s.m Hb H μ' Hb' H' → P b μ' → Q b H') →
    (∀ x μ' cls dd Hb' H', Go T s.m Hb H μ' Hb' H' → RepX T Hb' x cls dd → XP x μ' → W cls dd σ H') → tt σ H Q
def OV' (T : Cfg) (to : TO) (W : WX) (s : S) (P : Option Int → Mu → Prop) (XP : XW) : Prop :=
  ∀ σ Hb H Q, Sim T s σ Hb H → (∀ o μ' Hb' H', Go T s.m Hb H μ' Hb' H' → P o μ' → Q o H') →
    (∀ x μ' cls dd Hb' H', Go T s.m Hb H μ' Hb' H' → RepX T Hb' x cls dd → XP x μ' → W cls dd σ H') → to σ H Q
def OV (T : Cfg) (r : R2) (d e : D) (μ : Mu) (P : D → Mu → Prop) : Prop :=
  ∀ x y Hb H Q, Ex Hb H → SimMu T μ Hb H → Rep T Hb d x → Rep T Hb e y → (∀ z μ' v Hb' H', Go T μ Hb H μ' Hb' H' → Rep T Hb' z v → P z μ' → Q v H') → r x y H Q
def UV (T : Cfg) (r : V → Hp → VK → Prop) (d : D) (μ : Mu) (P : D → Mu → Prop) : Prop :=
  ∀ x Hb H Q, Ex Hb H → SimMu T μ Hb H → Rep T Hb d x → (∀ z μ' v Hb' H', Go T μ Hb H μ' Hb' H' → Rep T Hb' z v → P z μ' → Q v H') → r x H Q
def CV (T : Cfg) (r : List V → Hp → VK → Prop) (ds : List D) (μ : Mu) (P : D → Mu → Prop) : Prop :=
  ∀ xs Hb H Q, Ex Hb H → SimMu T μ Hb H → RepL T Hb ds xs → (∀ z μ' v Hb' H', Go T μ Hb H μ' Hb' H' → Rep T Hb' z v → P z μ' → Q v H') → r xs H Q
section
variable {T : Cfg} {W : WX} {s : S} {ρ : List (Option D)} {m0 : Mu} {P : D → Mu → Prop} {XP : XW} {ta tb te : TE}
theorem EV.imp {P' : D → Mu → Prop} (h : EV T te W s P XP) (k : ∀ d μ, P d μ → P' d μ) : EV T te W s P' XP := fun σ Hb H Q S q x => h σ Hb H Q S (fun d μ' v Hb' H' g r p => q d μ' v Hb' H' g r (k d μ' p)) x
theorem ev_var {i : Nat} {d : D} (h : ρ[i]? = some (some d)) (p : P d m0) : EV T (tVar i) W ⟨ρ, m0⟩ P XP := fun σ Hb H Q S q _ => by
  obtain ⟨v, e, r⟩ := S.vars i d h
  exact ⟨v, e, q d m0 v Hb H S.refl r p⟩
theorem ev_fz {i : Nat} {a : Addr} {ds : List D} (h : ρ[i]? = some (some (.ptr a))) (hm : m0 a = some (.lst ds)) (p : P (.lst ds) (del m0 a)) : EV T (tVar i) W ⟨ρ, m0⟩ P XP := fun σ Hb H Q S q _ => by
  obtain ⟨v, e, r⟩ := S.vars i _ h
  cases r
  obtain ⟨n, o, ho, r⟩ := S.mu a _ hm
  cases o with
  | lst xs =>
    have g := Go.freeze S.sub S.mu hm ho
    exact ⟨.ref a, e, q _ _ _ _ _ g (.lst upd_same r.1 (RepL.mono g.ex r).2) p⟩
  | _ => exact r.elim
theorem ev_int {i : Int} (p : P (.int i) m0) : EV T (tC (.int i)) W ⟨ρ, m0⟩ P XP := fun σ Hb H Q S q _ => q _ _ _ _ _ S.refl (.int i) p
theorem ev_bl {i : Bool} (p : P (.bl i) m0) : EV T (tC (.bl i)) W ⟨ρ, m0⟩ P XP := fun σ Hb H Q S q _ => q _ _ _ _ _ S.refl (.bl i) p
theorem ev_str {i : Str} (p : P (.str i) m0) : EV T (tC (.str i)) W ⟨ρ, m0⟩ P XP := fun σ Hb H Q S q _ => q _ _ _ _ _ S.refl (.str i) p
theorem ev_non (p : P .non m0) : EV T (tC .non) W ⟨ρ, m0⟩ P XP := fun σ Hb H Q S q _ => q _ _ _ _ _ S.refl .non p
theorem ev_ty {n : String} (p : P (.ty n) m0) : EV T (tC (.ty n)) W ⟨ρ, m0⟩ P XP := fun σ Hb H Q S q _ => q _ _ _ _ _ S.refl (.ty n) p
theorem ev_ref {a : Addr} (p : P (.ptr a) m0) : EV T (tC (.ref a)) W ⟨ρ, m0⟩ P XP := fun σ Hb H Q S q _ => q _ _ _ _ _ S.refl (.ptr a) p
theorem ev_op {r : R2} (h : EV T ta W ⟨ρ, m0⟩ (fun d μ1 => EV T tb W ⟨ρ, μ1⟩ (fun e μ2 => OV T r d e μ2 P) XP) XP) : EV T (tOp r ta tb) W ⟨ρ, m0⟩ P XP := fun σ Hb H Q S q x =>
  h σ Hb H _ S (fun d μ1 v Hb1 H1 g1 r1 p1 => p1 σ Hb1 H1 _ (S.go g1) (fun e μ2 w Hb2 H2 g2 r2 p2 =>
    p2 v w Hb2 H2 Q g2.sub g2.mu (r1.mono g2.ex) r2 fun z μ' u Hb' H' g3 r3 p3 => q z μ' u Hb' H' ((g1.trans g2).trans g3) r3 p3)
    (fun y μ' cls dd Hb' H' g r p => x y μ' cls dd Hb' H' (g1.trans g) r p)) x
theorem ev_un {r : V → Hp → VK → Prop} (h : EV T ta W ⟨ρ, m0⟩ (fun d μ1 => UV T r d μ1 P) XP) : EV T (tUn r ta) W ⟨ρ, m0⟩ P XP := fun σ Hb H Q S q x =>
  h σ Hb H _ S (fun d μ1 v Hb1 H1 g1 r1 p1 => p1 v Hb1 H1 Q g1.sub g1.mu r1 fun z μ' u Hb' H' g3 r3 p3 => q z μ' u Hb' H' (g1.trans g3) r3 p3) x
theorem ea_nil {P : List D → Mu → Prop} (p : P [] m0) : EA T tNil W ⟨ρ, m0⟩ P XP := fun σ Hb H Q S q _ => q [] _ [] _ _ S.refl .nil p
theorem ea_cons {tr : TA} {P : List D → Mu → Prop} (h : EV T ta W ⟨ρ, m0⟩ (fun d μ1 => EA T tr W ⟨ρ, μ1⟩ (fun ds μ2 => P (d :: ds) μ2) XP) XP) : EA T (tCons ta tr) W ⟨ρ, m0⟩ P XP := fun σ Hb H Q S q x =>
  h σ Hb H _ S (fun d μ1 v Hb1 H1 g1 r1 p1 => p1 σ Hb1 H1 _ (S.go g1) (fun ds μ2 vs Hb2 H2 g2 r2 p2 => q (d :: ds) μ2 (v :: vs) Hb2 H2 (g1.trans g2) (.cons (r1.mono g2.ex) r2) p2)
    (fun y μ' cls dd Hb' H' g r p => x y μ' cls dd Hb' H' (g1.trans g) r p)) x
theorem ev_cb {r : List V → Hp → VK → Prop} {ta : TA} (h : EA T ta W ⟨ρ, m0⟩ (fun ds μ1 => CV T r ds μ1 P) XP) : EV T (tCB r ta) W ⟨ρ, m0⟩ P XP := fun σ Hb H Q S q x =>
  h σ Hb H _ S (fun ds μ1 vs Hb1 H1 g1 r1 p1 => p1 vs Hb1 H1 Q g1.sub g1.mu r1 fun z μ' u Hb' H' g3 r3 p3 => q z μ' u Hb' H' (g1.trans g3) r3 p3) x
theorem ev_lst {ta : TA} (h : EA T ta W ⟨ρ, m0⟩ (fun ds μ1 => ds.length ≤ 100000 ∧ P (.lst ds) μ1) XP) : EV T (tLst ta) W ⟨ρ, m0⟩ P XP := fun σ Hb H Q S q x =>
  h σ Hb H _ S (fun ds μ1 vs Hb1 H1 g1 r1 ⟨hl, p1⟩ => ⟨by rw [← r1.1]; exact Evl.sz_of hl, fun p hp => by
    have g := Go.lay g1.sub g1.mu (o := .lst vs) hp
    exact q _ _ _ _ _ (g1.trans g) (.lst upd_same r1.1 (r1.mono g.ex).2) p1⟩) x
theorem ev_tup {ta : TA} (h : EA T ta W ⟨ρ, m0⟩ (fun ds μ1 => ds.length ≤ 100000 ∧ P (.tup ds) μ1) XP) : EV T (tTup ta) W ⟨ρ, m0⟩ P XP := fun σ Hb H Q S q x =>
  h σ Hb H _ S (fun ds μ1 vs Hb1 H1 g1 r1 ⟨hl, p1⟩ => ⟨by rw [← r1.1]; exact Evl.sz_of hl, fun p hp => by
    have g := Go.lay g1.sub g1.mu (o := .tup vs) hp
    exact q _ _ _ _ _ (g1.trans g) (.tup (Evl.st_of upd_same) r1.1 (r1.mono g.ex).2) p1⟩) x
theorem ev_lstM {ta : TA} (h : EA T ta W ⟨ρ, m0⟩ (fun ds μ1 => ds.length ≤ 100000 ∧ ∀ p, μ1 p = none → P (.ptr p) (put μ1 p (.lst ds))) XP) : EV T (tLst ta) W ⟨ρ, m0⟩ P XP := fun σ Hb H Q S q x =>
  h σ Hb H _ S (fun ds μ1 vs Hb1 H1 g1 r1 ⟨hl, p1⟩ => ⟨by rw [← r1.1]; exact Evl.sz_of hl, fun p hp => by
    have g := Go.own g1.sub g1.mu (o := .lst vs) (z := .lst ds) hp r1
    refine q _ _ _ _ _ (g1.trans g) (.ptr p) (p1 p ?_)
    cases e : μ1 p with
    | none => rfl
    | some m =>
      obtain ⟨_, o, ho, _⟩ := g1.mu p m e
      rw [hp] at ho; cases ho⟩) x
theorem ev_fld {f : Str} (h : EV T ta W ⟨ρ, m0⟩ (fun d μ1 => ∃ c gs e, d = .ins c gs ∧ Cls T.K (T.cls c) ∧ NoAttr T.K (T.cls c) f ∧ gs.lookup f = some e ∧ P e μ1) XP) : EV T (tFld T.K ta f) W ⟨ρ, m0⟩ P XP := fun σ Hb H Q S q x =>
  h σ Hb H _ S (fun d μ1 v Hb1 H1 g1 r1 p1 => by
    obtain ⟨c, gs, e, rfl, hc, hn, hl, p⟩ := p1
    obtain ⟨a, dx, fs, rfl, ha, r⟩ := r1.ins_inv
    obtain ⟨v, hv, rv⟩ := r.look hl
    exact ⟨a, T.cls c, dx, fs, v, rfl, g1.sub _ _ ha, hc, hn, hv, q e μ1 v Hb1 H1 g1 rv p⟩) x
theorem ev_fldM {f : Str} (h : EV T ta W ⟨ρ, m0⟩ (fun d μ1 => ∃ a c gs e, d = .ptr a ∧ μ1 a = some (.ins c gs) ∧ Cls T.K (T.cls c) ∧ NoAttr T.K (T.cls c) f ∧ gs.lookup f = some e ∧ P e μ1) XP) : EV T (tFld T.K ta f) W ⟨ρ, m0⟩ P XP := fun σ Hb H Q S q x =>
  h σ Hb H _ S (fun d μ1 v Hb1 H1 g1 r1 p1 => by
    obtain ⟨a, c, gs, e, rfl, hm, hc, hn, hl, p⟩ := p1
    cases r1
    obtain ⟨_, o, ho, r⟩ := g1.mu a _ hm
    cases o with
    | ins C dx fs =>
      obtain ⟨rfl, r⟩ := r
      obtain ⟨v, hv, rv⟩ := r.look hl
      exact ⟨a, T.cls c, dx, fs, v, rfl, ho, hc, hn, hv, q e μ1 v Hb1 H1 g1 rv p⟩
    | _ => exact r.elim) x
theorem ev_if {t : TT} (h : TV T t W ⟨ρ, m0⟩ (fun b μ1 => (b = true → EV T ta W ⟨ρ, μ1⟩ P XP) ∧ (b = false → EV T tb W ⟨ρ, μ1⟩ P XP)) XP) : EV T (tIf t ta tb) W ⟨ρ, m0⟩ P XP := fun σ Hb H Q S q x =>
  h σ Hb H _ S (fun b μ1 Hb1 H1 g1 ⟨p1, p2⟩ => by
    cases b with
    | true =>
      show ta σ H1 Q
      exact p1 rfl σ Hb1 H1 Q (S.go g1) (fun d μ' v Hb' H' g r p => q d μ' v Hb' H' (g1.trans g) r p) (fun y μ' cls dd Hb' H' g r p => x y μ' cls dd Hb' H' (g1.trans g) r p)
    | false =>
      show tb σ H1 Q
      exact p2 rfl σ Hb1 H1 Q (S.go g1) (fun d μ' v Hb' H' g r p => q d μ' v Hb' H' (g1.trans g) r p) (fun y μ' cls dd Hb' H' g r p => x y μ' cls dd Hb' H' (g1.trans g) r p)) x
theorem ev_and (h : EV T ta W ⟨ρ, m0⟩ (fun d μ1 => ∃ b, d = .bl b ∧ (b = true → EV T tb W ⟨ρ, μ1⟩ P XP) ∧ (b = false → P (.bl false) μ1)) XP) : EV T (tAndV ta tb) W ⟨ρ, m0⟩ P XP := fun σ Hb H Q S q x =>
  h σ Hb H _ S (fun d μ1 v Hb1 H1 g1 r1 p1 => by
    obtain ⟨b, rfl, p1, p2⟩ := p1
    cases r1
    refine ⟨b, rfl, ?_⟩
    cases b with
    | true =>
      show tb σ H1 Q
      exact p1 rfl σ Hb1 H1 Q (S.go g1) (fun d μ' v Hb' H' g r p => q d μ' v Hb' H' (g1.trans g) r p) (fun y μ' cls dd Hb' H' g r p => x y μ' cls dd Hb' H' (g1.trans g) r p)
    | false => exact q _ _ _ _ _ g1 (.bl false) (p2 rfl)) x
theorem ev_or (h : EV T ta W ⟨ρ, m0⟩ (fun d μ1 => ∃ b, d = .bl b ∧ (b = false → EV T tb W ⟨ρ, μ1⟩ P XP) ∧ (b = true → P (.bl true) μ1)) XP) : EV T (tOrV ta tb) W ⟨ρ, m0⟩ P XP := fun σ Hb H Q S q x =>
  h σ Hb H _ S (fun d μ1 v Hb1 H1 g1 r1 p1 => by
    obtain ⟨b, rfl, p1, p2⟩ := p1
    cases r1
    refine ⟨b, rfl, ?_⟩
    cases b with
    | false =>
      show tb σ H1 Q
      exact p1 rfl σ Hb1 H1 Q (S.go g1) (fun d μ' v Hb' H' g r p => q d μ' v Hb' H' (g1.trans g) r p) (fun y μ' cls dd Hb' H' g r p => x y μ' cls dd Hb' H' (g1.trans g) r p)
    | true => exact q _ _ _ _ _ g1 (.bl true) (p2 rfl)) x
theorem ev_not (h : EV T ta W ⟨ρ, m0⟩ (fun d μ1 => ∃ b, d = .bl b ∧ P (.bl (!b)) μ1) XP) : EV T (tNotV ta) W ⟨ρ, m0⟩ P XP := fun σ Hb H Q S q x =>
  h σ Hb H _ S (fun d μ1 v Hb1 H1 g1 r1 p1 => by
    obtain ⟨b, rfl, p⟩ := p1
    cases r1
    exact ⟨b, rfl, q _ _ _ _ _ g1 (.bl _) p⟩) x
theorem tv_test {P : Bool → Mu → Prop} (h : EV T te W ⟨ρ, m0⟩ (fun d μ1 => ∃ b, d = .bl b ∧ P b μ1) XP) : TV T (tTest te) W ⟨ρ, m0⟩ P XP := fun σ Hb H Q S q x =>
  h σ Hb H _ S (fun d μ1 v Hb1 H1 g1 r1 p1 => by
    obtain ⟨b, rfl, p⟩ := p1
    cases r1
    exact ⟨b, rfl, q _ _ _ _ g1 p⟩) x
theorem tv_B {P : Bool → Mu → Prop} (h : EV T te W ⟨ρ, m0⟩ (fun d μ1 => ∃ b, d = .bl b ∧ P b μ1) XP) : TV T (tB te) W ⟨ρ, m0⟩ P XP := fun σ Hb H Q S q x =>
  h σ Hb H _ S (fun d μ1 v Hb1 H1 g1 r1 p1 => by
    obtain ⟨b, rfl, p⟩ := p1
    cases r1
    exact ⟨b, rfl, q _ _ _ _ g1 p⟩) x
theorem tv_and {t u : TT} {P : Bool → Mu → Prop} (h : TV T t W ⟨ρ, m0⟩ (fun b μ1 => (b = true → TV T u W ⟨ρ, μ1⟩ P XP) ∧ (b = false → P false μ1)) XP) : TV T (tAnd t u) W ⟨ρ, m0⟩ P XP := fun σ Hb H Q S q x =>
  h σ Hb H _ S (fun b μ1 Hb1 H1 g1 ⟨p1, p2⟩ => by
    cases b with
    | true =>
      show u σ H1 Q
      exact p1 rfl σ Hb1 H1 Q (S.go g1) (fun d μ' Hb' H' g p => q d μ' Hb' H' (g1.trans g) p) (fun y μ' cls dd Hb' H' g r p => x y μ' cls dd Hb' H' (g1.trans g) r p)
    | false => exact q _ _ _ _ g1 (p2 rfl)) x
theorem tv_or {t u : TT} {P : Bool → Mu → Prop} (h : TV T t W ⟨ρ, m0⟩ (fun b μ1 => (b = false → TV T u W ⟨ρ, μ1⟩ P XP) ∧ (b = true → P true μ1)) XP) : TV T (tOr t u) W ⟨ρ, m0⟩ P XP := fun σ Hb H Q S q x =>
  h σ Hb H _ S (fun b μ1 Hb1 H1 g1 ⟨p1, p2⟩ => by
    cases b with
    | false =>
      show u σ H1 Q
      exact p1 rfl σ Hb1 H1 Q (S.go g1) (fun d μ' Hb' H' g p => q d μ' Hb' H' (g1.trans g) p) (fun y μ' cls dd Hb' H' g r p => x y μ' cls dd Hb' H' (g1.trans g) r p)
    | true => exact q _ _ _ _ g1 (p2 rfl)) x
theorem tv_not {t : TT} {P : Bool → Mu → Prop} (h : TV T t W ⟨ρ, m0⟩ (fun b μ1 => P (!b) μ1) XP) : TV T (tNot t) W ⟨ρ, m0⟩ P XP := fun σ Hb H Q S q x =>
  h σ Hb H _ S (fun b μ1 Hb1 H1 g1 p => q _ _ _ _ g1 p) x
theorem tv_yes {P : Bool → Mu → Prop} (p : P true m0) : TV T tYes W ⟨ρ, m0⟩ P XP := fun σ Hb H Q S q _ => q _ _ _ _ S.refl p
theorem po_no {P : Option Int → Mu → Prop} (p : P none m0) : OV' T tNoPart W ⟨ρ, m0⟩ P XP := fun σ Hb H Q S q _ => q _ _ _ _ S.refl p
theorem po_so {P : Option Int → Mu → Prop} (h : EV T te W ⟨ρ, m0⟩ (fun d μ1 => ∃ i, d = .int i ∧ P (some i) μ1) XP) : OV' T (tPart te) W ⟨ρ, m0⟩ P XP := fun σ Hb H Q S q x =>
  h σ Hb H _ S (fun d μ1 v Hb1 H1 g1 r1 p1 => by
    obtain ⟨i, rfl, p⟩ := p1
    cases r1
    exact ⟨i, rfl, q _ _ _ _ g1 p⟩) x
end
inductive Out where
  | nx (s : S) | rt (d : D) (m : Mu) | bk (s : S) | ct (s : S) | xr (x : XD) (s : S)
structure Cn (T : Cfg) (W : WX) (m : Mu) (Hb H : Hp) (Dn : Ends) (K : Out → Prop) : Prop where
  nx : ∀ s' σ' Hb' H', Go T m Hb H s'.m Hb' H' → Sim T s' σ' Hb' H' → K (.nx s') → Dn.nx σ' H'
  rt : ∀ d μ' v Hb' H', Go T m Hb H μ' Hb' H' → Rep T Hb' d v → K (.rt d μ') → Dn.rt v H'
  bk : ∀ s' σ' Hb' H', Go T m Hb H s'.m Hb' H' → Sim T s' σ' Hb' H' → K (.bk s') → Dn.bk σ' H'
  ct : ∀ s' σ' Hb' H', Go T m Hb H s'.m Hb' H' → Sim T s' σ' Hb' H' → K (.ct s') → Dn.ct σ' H'
  xr : ∀ x s' cls dd σ' Hb' H', Go T m Hb H s'.m Hb' H' → Sim T s' σ' Hb' H' → RepX T Hb' x cls dd → K (.xr x s') → W cls dd σ' H'
def SV (T : Cfg) (ts : TS) (W : WX) (s : S) (K : Out → Prop) : Prop := ∀ σ Hb H Dn, Sim T s σ Hb H → Cn T W s.m Hb H Dn K → ts Dn σ H
section
variable {T : Cfg} {W : WX} {s : S} {ρ : List (Option D)} {m0 : Mu} {K : Out → Prop} {ta tb te : TE} {m m1 : Mu} {Hb H Hb1 H1 : Hp} {Dn : Ends}
theorem Cn.go (c : Cn T W m Hb H Dn K) (g : Go T m Hb H m1 Hb1 H1) : Cn T W m1 Hb1 H1 Dn K :=
  ⟨fun s' σ' Hb' H' g' S k => c.nx s' σ' Hb' H' (g.trans g') S k, fun d μ' v Hb' H' g' r k => c.rt d μ' v Hb' H' (g.trans g') r k, fun s' σ' Hb' H' g' S k => c.bk s' σ' Hb' H' (g.trans g') S k,
    fun s' σ' Hb' H' g' S k => c.ct s' σ' Hb' H' (g.trans g') S k, fun x s' cls dd σ' Hb' H' g' S r k => c.xr x s' cls dd σ' Hb' H' (g.trans g') S r k⟩
theorem SV.imp {ts : TS} {K' : Out → Prop} (h : SV T ts W s K) (k : ∀ o, K o → K' o) : SV T ts W s K' := fun σ Hb H Dn S c => h σ Hb H Dn S
  ⟨fun s' σ' Hb' H' g S q => c.nx s' σ' Hb' H' g S (k _ q), fun d μ' v Hb' H' g r q => c.rt d μ' v Hb' H' g r (k _ q), fun s' σ' Hb' H' g S q => c.bk s' σ' Hb' H' g S (k _ q),
    fun s' σ' Hb' H' g S q => c.ct s' σ' Hb' H' g S (k _ q), fun x s' cls dd σ' Hb' H' g S r q => c.xr x s' cls dd σ' Hb' H' g S r (k _ q)⟩
abbrev xk (s : S) (K : Out → Prop) : XW := fun x μ => K (.xr x ⟨s.r, μ⟩)
theorem Cn.x (c : Cn T W s.m Hb H Dn K) {σ : L2.St} (S : Sim T s σ Hb H) : ∀ x μ' cls dd Hb' H', Go T s.m Hb H μ' Hb' H' → RepX T Hb' x cls dd → xk s K x μ' → W cls dd σ H' :=
  fun x μ' cls dd Hb' H' g r k => c.xr x ⟨s.r, μ'⟩ cls dd σ Hb' H' g (S.go g) r k
def seqK (T : Cfg) (u : TS) (W : WX) (K : Out → Prop) : Out → Prop
  | .nx s' => SV T u W s' K
  | o => K o
theorem sv_seq {t u : TS} (h : SV T t W ⟨ρ, m0⟩ (seqK T u W K)) : SV T (tSeq t u) W ⟨ρ, m0⟩ K := fun σ Hb H Dn S c =>
  h σ Hb H { Dn with nx := u Dn } S ⟨fun s' σ' Hb' H' g S' k => k σ' Hb' H' Dn S' (c.go g), c.rt, c.bk, c.ct, c.xr⟩
theorem sv_next (k : K (.nx ⟨ρ, m0⟩)) : SV T tNext W ⟨ρ, m0⟩ K := fun σ Hb H Dn S c => c.nx ⟨ρ, m0⟩ σ Hb H S.refl S k
theorem sv_asg {i : Nat} (h : EV T te W ⟨ρ, m0⟩ (fun d μ => K (.nx ⟨ρ.set i (some d), μ⟩)) (xk ⟨ρ, m0⟩ K)) : SV T (tAsg te (gName i)) W ⟨ρ, m0⟩ K := fun σ Hb H Dn S c =>
  h σ Hb H _ S (fun d μ' v Hb' H' g r k => c.nx _ _ _ _ g ((S.go g).set i r) k) (c.x S)
theorem sv_ret (h : EV T te W ⟨ρ, m0⟩ (fun d μ => K (.rt d μ)) (xk ⟨ρ, m0⟩ K)) : SV T (tRet te) W ⟨ρ, m0⟩ K := fun σ Hb H Dn S c =>
  h σ Hb H _ S (fun d μ' v Hb' H' g r k => c.rt _ _ _ _ _ g r k) (c.x S)
theorem sv_drop (h : EV T te W ⟨ρ, m0⟩ (fun _ μ => K (.nx ⟨ρ, μ⟩)) (xk ⟨ρ, m0⟩ K)) : SV T (tDrop te) W ⟨ρ, m0⟩ K := fun σ Hb H Dn S c =>
  h σ Hb H _ S (fun d μ' v Hb' H' g r k => c.nx _ _ _ _ g (S.go g) k) (c.x S)
theorem sv_if {t : TT} {u v : TS} (h : TV T t W ⟨ρ, m0⟩ (fun b μ => (b = true → SV T u W ⟨ρ, μ⟩ K) ∧ (b = false → SV T v W ⟨ρ, μ⟩ K)) (xk ⟨ρ, m0⟩ K)) : SV T (tIfS t u v) W ⟨ρ, m0⟩ K := fun σ Hb H Dn S c =>
  h σ Hb H _ S (fun b μ' Hb' H' g ⟨k1, k2⟩ => by
    cases b with
    | true => exact k1 rfl σ Hb' H' Dn (S.go g) (c.go g)
    | false => exact k2 rfl σ Hb' H' Dn (S.go g) (c.go g)) (c.x S)
theorem sv_par {i j : Nat} {ta : TA} (h : EA T ta W ⟨ρ, m0⟩ (fun ds μ => ∃ d e, ds = [d, e] ∧ K (.nx ⟨(ρ.set i (some d)).set j (some e), μ⟩)) (xk ⟨ρ, m0⟩ K)) : SV T (tPar i j ta) W ⟨ρ, m0⟩ K := fun σ Hb H Dn S c =>
  h σ Hb H _ S (fun ds μ' vs Hb' H' g r k => by
    obtain ⟨d, e, rfl, k⟩ := k
    obtain ⟨v, ys, rfl, r1, r⟩ := r.cons_inv
    obtain ⟨w, zs, rfl, r2, r⟩ := r.cons_inv
    obtain rfl := r.nil_inv
    have S1 := ((S.go g).set i r1)
    have S2 := S1.set j (d := e) (v := w) r2
    exact ⟨v, w, rfl, c.nx _ _ _ _ g S2 k⟩) (c.x S)
def GV (T : Cfg) (g : TG) (is : List Nat) (d : D) (s : S) (K : S → Prop) : Prop := ∀ x σ Hb H Kt, Sim T s σ Hb H → Rep T Hb d x →
  (∀ s' σ', s'.m = s.m → Sim T s' σ' Hb H → (∀ vs, (∀ i ∈ is, i ∈ vs) → wipe σ' vs = wipe σ vs) → K s' → Kt σ' H) → g x σ H Kt
def GVs (T : Cfg) (g : TGs) (is : List Nat) (ds : List D) (s : S) (K : S → Prop) : Prop := ∀ xs σ Hb H Kt, Sim T s σ Hb H → RepL T Hb ds xs →
  (∀ s' σ', s'.m = s.m → Sim T s' σ' Hb H → (∀ vs, (∀ i ∈ is, i ∈ vs) → wipe σ' vs = wipe σ vs) → K s' → Kt σ' H) → g xs σ H Kt
theorem wipe_set {σ : L2.St} {i : Nat} {x : Option V} : ∀ {vs : List Nat}, i ∈ vs → wipe (σ.set i x) vs = wipe σ vs
  | [], h => by cases h
  | v :: vs, h => by
    unfold wipe
    by_cases e : v = i
    · subst e
      by_cases hi : v ∈ vs
      · rw [wipe_set hi]
      · have comm : ∀ (vs : List Nat), v ∉ vs → wipe (σ.set v x) vs = (wipe σ vs).set v x := by
          intro vs
          induction vs with
          | nil => intro _; rfl
          | cons u us ih =>
            intro hu
            simp only [List.mem_cons, not_or] at hu
            unfold wipe
            rw [ih hu.2, List.set_comm _ _ (fun z => hu.1 z)]
        rw [comm vs hi, List.set_set]
    · have hi : i ∈ vs := by
        rcases List.mem_cons.mp h with z | z
        · exact absurd z.symm e
        · exact z
      rw [wipe_set hi]
theorem gv_name {i : Nat} {d : D} {K : S → Prop} (k : K ⟨ρ.set i (some d), m0⟩) : GV T (gName i) [i] d ⟨ρ, m0⟩ K := fun x σ Hb H Kt S r q =>
  q ⟨ρ.set i (some d), m0⟩ _ rfl (S.set i r) (fun vs hv => wipe_set (hv i (by simp))) k
theorem gvs_nil {K : S → Prop} (k : K ⟨ρ, m0⟩) : GVs T gNil [] [] ⟨ρ, m0⟩ K := fun xs σ Hb H Kt S r q => by
  obtain rfl := r.nil_inv
  exact ⟨rfl, q ⟨ρ, m0⟩ σ rfl S (fun _ _ => rfl) k⟩
theorem gvs_cons {g : TG} {gs : TGs} {is js : List Nat} {d : D} {ds : List D} {K : S → Prop} (h : GV T g is d ⟨ρ, m0⟩ (fun s' => GVs T gs js ds s' K)) : GVs T (gCons g gs) (is ++ js) (d :: ds) ⟨ρ, m0⟩ K := fun xs σ Hb H Kt S r q => by
  obtain ⟨v, ys, rfl, r1, r2⟩ := r.cons_inv
  refine ⟨v, ys, rfl, h v σ Hb H _ S r1 fun s' σ' em S' w k => ?_⟩
  refine k ys σ' Hb H Kt S' r2 fun s'' σ'' em' S'' w' k' => q s'' σ'' (em'.trans em) S'' (fun vs hv => ?_) k'
  rw [w' vs fun i hi => hv i (List.mem_append_right _ hi), w vs fun i hi => hv i (List.mem_append_left _ hi)]
theorem gv_tup {n : Nat} {gs : TGs} {is : List Nat} {ds : List D} {K : S → Prop} (hn : ds.length = n) (h : GVs T gs is ds ⟨ρ, m0⟩ K) : GV T (gTup T.K n gs) is (.tup ds) ⟨ρ, m0⟩ K := fun x σ Hb H Kt S r q => by
  obtain ⟨a, xs, rfl, hx, r⟩ := r.tup_inv
  exact ⟨a, xs, rfl, ex_t S.sub hx, by rw [← r.1]; exact hn, h xs σ Hb H Kt S r q⟩
theorem sv_asgG {g : TG} {is : List Nat} (h : EV T te W ⟨ρ, m0⟩ (fun d μ => GV T g is d ⟨ρ, μ⟩ (fun s' => K (.nx s'))) (xk ⟨ρ, m0⟩ K)) : SV T (tAsg te g) W ⟨ρ, m0⟩ K := fun σ Hb H Dn S c =>
  h σ Hb H _ S (fun d μ' v Hb' H' g' r k => k v σ Hb' H' _ (S.go g') r fun s' σ' em S' _ k' => c.nx s' σ' Hb' H' (by rw [em]; exact g') S' k') (c.x S)
theorem putF_rep {Hb : Hp} {gs : List (Str × D)} {fs : List (Str × V)} {f : Str} {d : D} {v : V} (h : RepP T Hb gs fs) (r : Rep T Hb d v) : RepP T Hb (putG f d gs) (putF f v fs) := by
  obtain ⟨h1, h2⟩ := h
  induction gs generalizing fs with
  | nil =>
    cases fs with
    | nil =>
      refine ⟨rfl, fun i g z a b => ?_⟩
      cases i with
      | zero =>
        simp [putG, putF] at a b
        subst a; subst b
        exact r
      | succ i => simp [putG] at a
    | cons _ _ => simp at h1
  | cons g gs ih =>
    cases fs with
    | nil => simp at h1
    | cons z fs =>
      obtain ⟨a, d'⟩ := g
      obtain ⟨b, v'⟩ := z
      simp only [List.map_cons, List.cons.injEq] at h1
      obtain ⟨e1, e2⟩ := h1
      have e1 : a = b := e1
      subst e1
      have h2t : ∀ (i : Nat) (g : Str × D) (f : Str × V), gs[i]? = some g → fs[i]? = some f → Rep T Hb g.2 f.2 := fun i g f a b => h2 (i + 1) g f (by simpa using a) (by simpa using b)
      have h20 : Rep T Hb d' v' := h2 0 (a, d') (a, v') rfl rfl
      unfold putG putF
      by_cases hf : a = f
      · rw [if_pos hf, if_pos hf]
        refine ⟨by simp [e2], fun i g z p q => ?_⟩
        cases i with
        | zero => simp at p q; subst p; subst q; exact r
        | succ i => exact h2t i g z (by simpa using p) (by simpa using q)
      · rw [if_neg hf, if_neg hf]
        obtain ⟨i1, i2⟩ := ih e2 h2t
        refine ⟨by simp [i1], fun i g z p q => ?_⟩
        cases i with
        | zero => simp at p q; subst p; subst q; exact h20
        | succ i => exact i2 i g z (by simpa using p) (by simpa using q)
theorem sv_fld {f : Str} {tv : TE} (h : EV T tv W ⟨ρ, m0⟩ (fun e μ1 => EV T ta W ⟨ρ, μ1⟩ (fun d μ2 => ∃ a c gs, d = .ptr a ∧ μ2 a = some (.ins c gs) ∧ Cls T.K (T.cls c) ∧ NoAttr T.K (T.cls c) f ∧ gs.length < 1000 ∧ K (.nx ⟨ρ, put μ2 a (.ins c (putG f e gs))⟩)) (xk ⟨ρ, m0⟩ K)) (xk ⟨ρ, m0⟩ K)) : SV T (sFld T.K ta tv f) W ⟨ρ, m0⟩ K := fun σ Hb H Dn S c =>
  h σ Hb H _ S (fun e μ1 v Hb1 H1 g1 r1 p1 => p1 σ Hb1 H1 _ (S.go g1) (fun d μ2 w Hb2 H2 g2 r2 p2 => by
    obtain ⟨a, cc, gs, rfl, hm, hc, hn, hl, k⟩ := p2
    cases r2
    obtain ⟨n, o, ho, r⟩ := g2.mu a _ hm
    cases o with
    | ins C dx fs =>
      obtain ⟨rfl, r⟩ := r
      have hz : fs.length < 1000 := by
        have := congrArg List.length r.1
        simp at this
        omega
      have g3 := Go.chg g2.sub g2.mu (p := a) (o := .ins (T.cls cc) dx (putF f v fs)) (z := .ins cc (putG f e gs)) hm ⟨rfl, putF_rep r (r1.mono g2.ex)⟩
      have g := (g1.trans g2).trans g3
      exact ⟨a, T.cls cc, dx, fs, rfl, ho, hc, hn, hz, c.nx _ _ _ _ g (S.go g) k⟩
    | _ => exact r.elim) (fun x μ' cls dd Hb' H' g r k => c.x S x μ' cls dd Hb' H' (g1.trans g) r k)) (c.x S)
theorem sv_app (h : EV T ta W ⟨ρ, m0⟩ (fun d μ1 => ∃ a ds0, d = .ptr a ∧ μ1 a = some (.lst ds0) ∧ EV T te W ⟨ρ, μ1⟩ (fun e μ2 => ∃ ds, μ2 a = some (.lst ds) ∧ ds.length < 100000 ∧ K (.nx ⟨ρ, put μ2 a (.lst (ds ++ [e]))⟩)) (xk ⟨ρ, m0⟩ K)) (xk ⟨ρ, m0⟩ K)) :
    SV T (tDrop (tBM T.K "list" rAppend ta (tCons te tNil))) W ⟨ρ, m0⟩ K := fun σ Hb H Dn S c => by
  refine h σ Hb H _ S (fun d μ1 v Hb1 H1 g1 r1 p1 => ?_) (c.x S)
  obtain ⟨a, ds0, rfl, hm, p1⟩ := p1
  cases r1
  obtain ⟨n, o, ho, r⟩ := g1.mu a _ hm
  cases o with
  | lst xs0 =>
    refine ⟨Or.inl ⟨rfl, xs0, Evl.sq_of ho⟩, ?_⟩
    refine p1 σ Hb1 H1 _ (S.go g1) (fun e μ2 w Hb2 H2 g2 r2 p2 => ?_) (fun x μ' cls dd Hb' H' g r k => c.x S x μ' cls dd Hb' H' (g1.trans g) r k)
    obtain ⟨ds, hm2, hl, k⟩ := p2
    obtain ⟨n2, o2, ho2, rr⟩ := g2.mu a _ hm2
    cases o2 with
    | lst xs =>
      have rr : RepL T Hb2 ds xs := rr
      have g3 := Go.chg g2.sub g2.mu (p := a) (o := .lst (xs ++ [w])) (z := .lst (ds ++ [e])) hm2 (rr.app (.cons r2 .nil))
      have g := (g1.trans g2).trans g3
      exact ⟨a, xs, w, rfl, rfl, ho2, Evl.sz_lt (by rw [← rr.1]; exact hl), c.nx _ _ _ _ g (S.go g) k⟩
    | _ => exact rr.elim
  | _ => exact r.elim
theorem sv_setL (h : EV T te W ⟨ρ, m0⟩ (fun e μ1 => EV T ta W ⟨ρ, μ1⟩ (fun d μ2 => EV T tb W ⟨ρ, μ2⟩ (fun i μ3 => ∃ a ds k j, d = .ptr a ∧ μ3 a = some (.lst ds) ∧ i = .int k ∧ ixN ds.length k = some j ∧ K (.nx ⟨ρ, put μ3 a (.lst (ds.set j e))⟩)) (xk ⟨ρ, m0⟩ K)) (xk ⟨ρ, m0⟩ K)) (xk ⟨ρ, m0⟩ K)) :
    SV T (tAsg te (gSub ta tb rSetL)) W ⟨ρ, m0⟩ K := fun σ Hb H Dn S c => by
  refine h σ Hb H _ S (fun e μ1 v Hb1 H1 g1 r1 p1 => ?_) (c.x S)
  refine p1 σ Hb1 H1 _ (S.go g1) (fun d μ2 w Hb2 H2 g2 r2 p2 => ?_) (fun x μ' cls dd Hb' H' g r k => c.x S x μ' cls dd Hb' H' (g1.trans g) r k)
  refine p2 σ Hb2 H2 _ (S.go (g1.trans g2)) (fun i μ3 u Hb3 H3 g3 r3 p3 => ?_) (fun x μ' cls dd Hb' H' g r k => c.x S x μ' cls dd Hb' H' ((g1.trans g2).trans g) r k)
  obtain ⟨a, ds, k, j, rfl, hm, rfl, hj, kk⟩ := p3
  cases r2
  cases r3
  obtain ⟨n, o, ho, rr⟩ := g3.mu a _ hm
  cases o with
  | lst xs =>
    have rr : RepL T Hb3 ds xs := rr
    have g4 := Go.chg g3.sub g3.mu (p := a) (o := .lst (xs.set j v)) (z := .lst (ds.set j e)) hm (rr.set ((r1.mono g2.ex).mono g3.ex))
    have g := ((g1.trans g2).trans g3).trans g4
    exact ⟨a, xs, k, j, rfl, rfl, ho, by rw [← rr.1]; exact hj, c.nx _ _ _ _ g (S.go g) kk⟩
  | _ => exact rr.elim
def whK (I : Nat → S → Prop) (n : Nat) (K : Out → Prop) : Out → Prop
  | .nx s' => ∃ n', n' < n ∧ I n' s'
  | .ct s' => ∃ n', n' < n ∧ I n' s'
  | .bk s' => K (.nx s')
  | o => K o
theorem sv_while {t : TT} {u : TS} (I : Nat → S → Prop) (n0 : Nat) (h0 : I n0 ⟨ρ, m0⟩)
    (hs : ∀ n s', I n s' → TV T t W s' (fun b μ => (b = true → SV T u W ⟨s'.r, μ⟩ (whK I n K)) ∧ (b = false → K (.nx ⟨s'.r, μ⟩))) (xk s' K)) : SV T (tWhile t u) W ⟨ρ, m0⟩ K := fun σ Hb H Dn S c => by
  refine ⟨fun n σ' H' => ∃ s' Hb', Go T m0 Hb H s'.m Hb' H' ∧ Sim T s' σ' Hb' H' ∧ I n s', ⟨n0, ⟨ρ, m0⟩, Hb, S.refl, S, h0⟩, ?_⟩
  rintro n σ' H' ⟨s', Hb', g, S', i'⟩
  refine hs n s' i' σ' Hb' H' _ S' (fun b μ1 Hb1 H1 g1 k1 => ?_) ((c.go g).x S')
  cases b with
  | false =>
    show Dn.nx σ' H1
    exact c.nx _ _ _ _ (g.trans g1) (S'.go g1) (k1.2 rfl)
  | true =>
    show ∃ N : L2.St → Hp → Prop, _ ∧ _
    refine ⟨fun σ2 H2 => ∃ s2 Hb2, Go T m0 Hb H s2.m Hb2 H2 ∧ Sim T s2 σ2 Hb2 H2 ∧ ∃ n', n' < n ∧ I n' s2, ?_, ?_⟩
    · rintro σ2 H2 ⟨s2, Hb2, g2, S2, n', hn, i2⟩
      exact ⟨n', hn, s2, Hb2, g2, S2, i2⟩
    · refine k1.1 rfl σ' Hb1 H1 _ (S'.go g1) ⟨?_, ?_, ?_, ?_, ?_⟩
      · exact fun s2 σ2 Hb2 H2 g2 S2 k => ⟨s2, Hb2, (g.trans g1).trans g2, S2, k⟩
      · exact fun d μ' v Hb2 H2 g2 r k => c.rt d μ' v Hb2 H2 ((g.trans g1).trans g2) r k
      · exact fun s2 σ2 Hb2 H2 g2 S2 k => c.nx s2 σ2 Hb2 H2 ((g.trans g1).trans g2) S2 k
      · exact fun s2 σ2 Hb2 H2 g2 S2 k => ⟨s2, Hb2, (g.trans g1).trans g2, S2, k⟩
      · exact fun x s2 cls dd σ2 Hb2 H2 g2 S2 r k => c.xr x s2 cls dd σ2 Hb2 H2 ((g.trans g1).trans g2) S2 r k
def ItOk (T : Cfg) (J : It) (n : Nat) (f : Nat → D) (Hb0 : Hp) : Prop := ∀ Hb H, Ex Hb0 Hb → Ex Hb H →
  (∀ i, i < n → J.go i H) ∧ (∀ i, n ≤ i → J.stop i H) ∧ ∀ i x H', i < n → J.yld i H x H' → ∀ μ, SimMu T μ Hb H → ∃ Hb', Go T μ Hb H μ Hb' H' ∧ Rep T Hb' (f i) x
def IV (T : Cfg) (wi : TI) (W : WX) (s : S) (P : Nat → (Nat → D) → Mu → Prop) (XP : XW) : Prop :=
  ∀ σ Hb H R, Sim T s σ Hb H → (∀ J n f μ' Hb' H', Go T s.m Hb H μ' Hb' H' → ItOk T J n f Hb' → P n f μ' → R J H') →
    (∀ x μ' cls dd Hb' H', Go T s.m Hb H μ' Hb' H' → RepX T Hb' x cls dd → XP x μ' → W cls dd σ H') → wi σ H R
def forK (I : Nat → S → Prop) (i : Nat) (K : Out → Prop) : Out → Prop
  | .nx s' => I (i + 1) s'
  | .ct s' => I (i + 1) s'
  | .bk s' => K (.nx s')
  | o => K o
theorem sv_for {wi : TI} {g : TG} {is : List Nat} {u : TS} (h : IV T wi W ⟨ρ, m0⟩ (fun n f μ => ∃ I : Nat → S → Prop, I 0 ⟨ρ, μ⟩ ∧ (∀ i s', i < n → I i s' → GV T g is (f i) s' (fun s'' => SV T u W s'' (forK I i K))) ∧ ∀ s', I n s' → K (.nx s')) (xk ⟨ρ, m0⟩ K)) :
    SV T (tFor wi g u) W ⟨ρ, m0⟩ K := fun σ Hb H Dn S c => by
  refine h σ Hb H _ S (fun J n f μ Hb1 H1 g1 ok p => ?_) (c.x S)
  obtain ⟨I, i0, turn, done⟩ := p
  have S1 := S.go g1
  refine ⟨fun i m σ' H' => m = n - i ∧ i ≤ n ∧ ∃ s' Hb', Go T μ Hb1 H1 s'.m Hb' H' ∧ Sim T s' σ' Hb' H' ∧ I i s', ⟨n, by simp, Nat.zero_le _, _, Hb1, S1.refl, S1, i0⟩, ?_⟩
  rintro i m σ' H' ⟨rfl, hi, s', Hb', g', S', i'⟩
  obtain ⟨go, stop, yld⟩ := ok Hb' H' g'.ex S'.sub
  by_cases hlt : i < n
  · refine .inr ⟨go i hlt, fun σ2 H2 => ∃ s2 Hb2, Go T μ Hb1 H1 s2.m Hb2 H2 ∧ Sim T s2 σ2 Hb2 H2 ∧ I (i + 1) s2, ?_, ?_⟩
    · rintro σ2 H2 ⟨s2, Hb2, g2, S2, i2⟩
      exact ⟨n - (i + 1), by omega, rfl, hlt, s2, Hb2, g2, S2, i2⟩
    · intro x H2 y
      obtain ⟨Hb2, g2, r2⟩ := yld i x H2 hlt y s'.m S'.mu
      refine turn i s' hlt i' x σ' Hb2 H2 _ (S'.go g2) r2 fun s3 σ3 em S3 _ k => ?_
      have g3 : Go T μ Hb1 H1 s3.m Hb2 H2 := by
        rw [em]
        exact g'.trans g2
      have g03 := g1.trans g3
      refine k σ3 Hb2 H2 _ S3 ⟨?_, ?_, ?_, ?_, ?_⟩
      · exact fun s4 σ4 Hb4 H4 g4 S4 k4 => ⟨s4, Hb4, g3.trans g4, S4, k4⟩
      · exact fun d μ' v Hb4 H4 g4 r k4 => c.rt d μ' v Hb4 H4 (g03.trans g4) r k4
      · exact fun s4 σ4 Hb4 H4 g4 S4 k4 => c.nx s4 σ4 Hb4 H4 (g03.trans g4) S4 k4
      · exact fun s4 σ4 Hb4 H4 g4 S4 k4 => ⟨s4, Hb4, g3.trans g4, S4, k4⟩
      · exact fun x s4 cls dd σ4 Hb4 H4 g4 S4 r k4 => c.xr x s4 cls dd σ4 Hb4 H4 (g03.trans g4) S4 r k4
  · have e : i = n := by omega
    subst e
    exact .inl ⟨stop i (Nat.le_refl _), c.nx s' σ' Hb' H' (g1.trans g') S' (done s' i')⟩
def wipeD (ρ : List (Option D)) : List Nat → List (Option D)
  | [] => ρ
  | v :: vs => (wipeD ρ vs).set v none
theorem Sim.unset {σ : L2.St} {Hb H : Hp} (h : Sim T s σ Hb H) (i : Nat) : Sim T ⟨s.r.set i none, s.m⟩ (σ.set i none) Hb H := by
  refine ⟨by simp [h.len], fun j e a => ?_, h.sub, h.mu⟩
  have a : (s.r.set i none)[j]? = some (some e) := a
  rw [List.getElem?_set] at a
  rw [List.getElem?_set]
  split at a
  · split at a <;> cases a
  · rename_i hij
    rw [if_neg hij]
    exact h.vars j e a
theorem Sim.wipe {σ : L2.St} {Hb H : Hp} (h : Sim T s σ Hb H) : ∀ vs : List Nat, Sim T ⟨wipeD s.r vs, s.m⟩ (L2.wipe σ vs) Hb H
  | [] => h
  | v :: vs => (Sim.wipe h vs).unset (s := ⟨wipeD s.r vs, s.m⟩) v
theorem ev_lc {wi : TI} {g : TG} {is vs : List Nat} {tt : TT} {P : D → Mu → Prop} {XP : XW} (hv : ∀ i ∈ is, i ∈ vs)
    (h : IV T wi W ⟨ρ, m0⟩ (fun n f μ => n ≤ 100000 ∧ ∃ I : Nat → List D → Mu → Prop, I 0 [] μ ∧ (∀ i acc μ', i < n → acc.length ≤ i → I i acc μ' → GV T g is (f i) ⟨wipeD ρ vs, μ'⟩ (fun s'' => TV T tt (fun _ _ _ _ => False) s'' (fun b μ1 =>
      (b = true → EV T te (fun _ _ _ _ => False) ⟨s''.r, μ1⟩ (fun e μ2 => I (i + 1) (acc ++ [e]) μ2) (fun _ _ => False)) ∧ (b = false → I (i + 1) acc μ1)) (fun _ _ => False))) ∧ ∀ acc μ', I n acc μ' → P (.lst acc) μ') XP) :
    EV T (tLc wi g tt te vs) W ⟨ρ, m0⟩ P XP := fun σ Hb H Q S q x => by
  refine h σ Hb H _ S (fun J n f μ Hb1 H1 g1 ok p => ?_) x
  obtain ⟨hn, I, i0, turn, done⟩ := p
  have S1 := S.go g1
  intro Dl hD
  have hDb : Hb1 Dl = none := fresh_back S1.sub hD
  have hDm : μ Dl = none := by
    cases e : μ Dl with
    | none => rfl
    | some m =>
      obtain ⟨_, o, ho, _⟩ := g1.mu Dl m e
      rw [hD] at ho; cases ho
  -- the new list is one's own at Dl
  have gD : Go T μ Hb1 H1 (put μ Dl (.lst [])) Hb1 (upd H1 Dl (.lst [])) := Go.own g1.sub g1.mu hD RepL.nil
  refine ⟨fun i m H' => m = n - i ∧ i ≤ n ∧ ∃ acc μ' Hb', acc.length ≤ i ∧ μ' Dl = none ∧ Go T μ Hb1 H1 (put μ' Dl (.lst acc)) Hb' H' ∧ I i acc μ', ⟨n, by simp, Nat.zero_le _, [], μ, Hb1, Nat.le_refl _, hDm, gD, i0⟩, ?_⟩
  rintro i m H' ⟨rfl, hi, acc, μ', Hb', hl, hm', g', i'⟩
  have S' : Sim T ⟨ρ, put μ' Dl (.lst acc)⟩ σ Hb' H' := S1.go g'
  obtain ⟨go, stop, yld⟩ := ok Hb' H' g'.ex g'.sub
  by_cases hlt : i < n
  · refine .inr ⟨go i hlt, fun H2 => ∃ acc2 μ2 Hb2, acc2.length ≤ i + 1 ∧ μ2 Dl = none ∧ Go T μ Hb1 H1 (put μ2 Dl (.lst acc2)) Hb2 H2 ∧ I (i + 1) acc2 μ2, ?_, ?_⟩
    · rintro H2 ⟨acc2, μ2, Hb2, hl2, hm2, g2, i2⟩
      exact ⟨n - (i + 1), by omega, rfl, hlt, acc2, μ2, Hb2, hl2, hm2, g2, i2⟩
    · intro y H2 hy
      obtain ⟨Hb2, g2, r2⟩ := yld i y H2 hlt hy _ g'.mu
      have g02 := g'.trans g2
      -- the list set aside: the store without it
      have aside : ∀ {μa : Mu} {Hba Ha : Hp} {ac : List D}, μa Dl = none → SimMu T (put μa Dl (.lst ac)) Hba Ha → SimMu T μa Hba Ha := fun {μa Hba Ha ac} hn hs => hs.as fun a m ha => by
        refine hs a m ?_
        rw [put_ne (fun e => by rw [e, hn] at ha; cases ha)]
        exact ha
      have back : ∀ {μa μb : Mu} {Hba Ha Hbb Hc : Hp} {ac : List D}, μa Dl = none → SimMu T (put μa Dl (.lst ac)) Hba Ha → Go T μa Hba Ha μb Hbb Hc → μb Dl = none ∧ Go T (put μa Dl (.lst ac)) Hba Ha (put μb Dl (.lst ac)) Hbb Hc := fun {μa μb Hba Ha Hbb Hc ac} hn hs gg => by
        obtain ⟨hbn, o, ho, ro⟩ := hs Dl _ put_same
        obtain ⟨ho', hbn'⟩ := gg.keepN ho hbn hn ro
        have mb : μb Dl = none := by
          cases e : μb Dl with
          | none => rfl
          | some m =>
            rcases gg.new Dl m e with z | z
            · exact absurd hn z
            · rw [ho] at z; cases z
        refine ⟨mb, gg.ex, fun a u h1 h2 h3 h4 => ?_, fun a m h1 => ?_, gg.alive, gg.sub, gg.mu.as fun a m h1 => ?_⟩
        · have ne : a ≠ Dl := fun e => by rw [e, put_same] at h3; cases h3
          rw [put_ne ne] at h3
          exact gg.keep a u h1 h2 h3 h4
        · by_cases e : a = Dl
          · subst e; exact .inl (by rw [put_same]; simp)
          · rw [put_ne e] at h1 ⊢; exact gg.new a m h1
        · by_cases e : a = Dl
          · subst e
            rw [put_same] at h1
            cases h1
            exact ⟨hbn', o, ho', ro.mono gg.ex⟩
          · rw [put_ne e] at h1; exact gg.mu a m h1
      have Sw0 : Sim T ⟨ρ, put μ' Dl (.lst acc)⟩ σ Hb2 H2 := S'.go g2
      have Sw : Sim T ⟨ρ, μ'⟩ σ Hb2 H2 := ⟨Sw0.len, Sw0.vars, Sw0.sub, aside hm' Sw0.mu⟩
      have Sww : Sim T ⟨wipeD ρ vs, μ'⟩ (L2.wipe σ vs) Hb2 H2 := Sw.wipe vs
      refine turn i acc μ' hlt hl i' y (L2.wipe σ vs) Hb2 H2 _ Sww r2 fun s3 σ3 em S3 wq k => ?_
      have em : s3.m = μ' := em
      refine ⟨?_, ?_⟩
      · have e1 := wq vs hv
        have idem : ∀ (us : List Nat), (∀ u ∈ us, u ∈ vs) → L2.wipe (L2.wipe σ vs) us = L2.wipe σ vs := by
          intro us
          induction us with
          | nil => intro _; rfl
          | cons u us ih =>
            intro hu
            show (L2.wipe (L2.wipe σ vs) us).set u none = L2.wipe σ vs
            rw [ih fun z hz => hu z (List.mem_cons_of_mem _ hz)]
            have : ∀ (ws : List Nat) (u : Nat), u ∈ ws → (L2.wipe σ ws).set u none = L2.wipe σ ws := by
              intro ws
              induction ws with
              | nil => intro u hu; cases hu
              | cons w ws ih2 =>
                intro u hu
                show ((L2.wipe σ ws).set w none).set u none = (L2.wipe σ ws).set w none
                by_cases e : u = w
                · subst e; rw [List.set_set]
                · have hu2 : u ∈ ws := by
                    rcases List.mem_cons.mp hu with z | z
                    · exact absurd z e
                    · exact z
                  rw [List.set_comm _ _ (fun z => e z.symm), ih2 u hu2]
            exact this vs u (hu u (by simp))
        rw [e1]
        exact idem vs fun _ z => z
      · refine k σ3 Hb2 H2 _ S3 (fun b μ3 Hb3 H3 g3 kk => ?_) (fun _ _ _ _ _ _ _ _ z => z.elim)
        rw [em] at g3
        obtain ⟨hm3, g3'⟩ := back hm' Sw0.mu g3
        have S3' : Sim T ⟨s3.r, μ3⟩ σ3 Hb3 H3 := S3.go (by rw [em]; exact g3)
        cases b with
        | false =>
          show ∃ acc2 μ2 Hb2, _
          exact ⟨acc, μ3, Hb3, by omega, hm3, g02.trans g3', kk.2 rfl⟩
        | true =>
          show te σ3 H3 _
          refine kk.1 rfl σ3 Hb3 H3 _ S3' (fun e μ4 w Hb4 H4 g4 r4 i4 => ?_) (fun _ _ _ _ _ _ _ _ z => z.elim)
          obtain ⟨hm4, g4'⟩ := back hm3 g3'.mu g4
          obtain ⟨_, o, ho, ro⟩ := g4'.mu Dl _ put_same
          cases o with
          | lst xs =>
            have ro : RepL T Hb4 acc xs := ro
            have g5 := Go.chg g4'.sub g4'.mu (p := Dl) (o := .lst (xs ++ [w])) (z := .lst (acc ++ [e])) put_same (ro.app (.cons r4 .nil))
            rw [put_put] at g5
            exact ⟨xs, ho, Evl.sz_lt (by rw [← ro.1]; omega), acc ++ [e], μ4, Hb4, by simp; omega, hm4, ((g02.trans g3').trans g4').trans g5, i4⟩
          | _ => exact ro.elim
  · have e : i = n := by omega
    subst e
    obtain ⟨hbn, o, ho, ro⟩ := g'.mu Dl _ put_same
    cases o with
    | lst xs =>
      have gf := Go.freeze g'.sub g'.mu (p := Dl) put_same ho
      rw [del_put hm'] at gf
      have ro : RepL T Hb' acc xs := ro
      exact .inl ⟨stop i (Nat.le_refl _), q _ _ _ _ _ ((g1.trans g').trans gf) (.lst upd_same ro.1 (ro.mono gf.ex).2) (done acc μ' i')⟩
    | _ => exact ro.elim
end
section
variable {T : Cfg} {W : WX} {s : S} {ρ : List (Option D)} {m0 : Mu} {XP : XW} {ta tb te : TE} {P : D → Mu → Prop}
def nth (ds : List D) (i : Nat) : D := ds.getD i .non
theorem nth_get {ds : List D} {i : Nat} (h : i < ds.length) : ds[i]? = some (nth ds i) := by
  unfold nth
  rw [List.getD_eq_getElem?_getD, List.getElem?_eq_getElem h] <;> rfl
theorem nth_of {ds : List D} {i : Nat} {d : D} (h : ds[i]? = some d) : nth ds i = d := by
  unfold nth
  rw [List.getD_eq_getElem?_getD, h] <;> rfl
theorem itl_ok {a : Addr} {ds : List D} {xs : List V} {Hb0 : Hp} (hx : SqL T.K Hb0 a xs) (r : RepL T Hb0 ds xs) : ItOk T (Itl T.K a) ds.length (nth ds) Hb0 := fun Hb H e1 e2 => by
  have hH : SqL T.K H a xs := ex_l e2 (ex_l e1 hx)
  refine ⟨fun i hi => ⟨xs, xs[i]'(by rw [← r.1]; exact hi), hH, List.getElem?_eq_getElem _⟩, fun i hi => ⟨xs, hH, by rw [← r.1]; exact hi⟩, ?_⟩
  rintro i x H' hi ⟨rfl, y⟩ μ sm
  refine ⟨Hb, .refl e2 sm, ?_⟩
  exact (r.2 i _ x (nth_get hi) (y xs hH)).mono e1
theorem itt_ok {a : Addr} {ds : List D} {xs : List V} {Hb0 : Hp} (hx : SqT T.K Hb0 a xs) (r : RepL T Hb0 ds xs) : ItOk T (Itt T.K a) ds.length (nth ds) Hb0 := fun Hb H e1 e2 => by
  have hH : SqT T.K H a xs := ex_t e2 (ex_t e1 hx)
  refine ⟨fun i hi => ⟨xs, xs[i]'(by rw [← r.1]; exact hi), hH, List.getElem?_eq_getElem _⟩, fun i hi => ⟨xs, hH, by rw [← r.1]; exact hi⟩, ?_⟩
  rintro i x H' hi ⟨rfl, y⟩ μ sm
  refine ⟨Hb, .refl e2 sm, ?_⟩
  exact (r.2 i _ x (nth_get hi) (y xs hH)).mono e1
theorem itr_ok {lo : Int} {n : Nat} {Hb0 : Hp} : ItOk T (Itr lo n) n (fun i => .int (lo + (i : Nat))) Hb0 := fun Hb H e1 e2 => by
  refine ⟨fun i hi => hi, fun i hi => hi, ?_⟩
  rintro i x H' hi ⟨rfl, rfl⟩ μ sm
  exact ⟨Hb, .refl e2 sm, .int _⟩
def Seqd (d : D) (ds : List D) : Prop := d = .lst ds ∨ d = .seq ds
theorem Seqd.inv {d : D} {ds : List D} {v : V} {Hb : Hp} (h : Seqd d ds) (r : Rep T Hb d v) : ∃ a xs, v = .ref a ∧ SqL T.K Hb a xs ∧ RepL T Hb ds xs := by
  rcases h with rfl | rfl
  · obtain ⟨a, xs, e, h, r⟩ := r.lst_inv
    exact ⟨a, xs, e, Evl.sq_of h, r⟩
  · exact r.seq_inv
theorem iv_list {P : Nat → (Nat → D) → Mu → Prop} (h : EV T te W ⟨ρ, m0⟩ (fun d μ => ∃ ds, Seqd d ds ∧ P ds.length (nth ds) μ) XP) : IV T (iList T.K te) W ⟨ρ, m0⟩ P XP := fun σ Hb H R S q x =>
  h σ Hb H _ S (fun d μ v Hb1 H1 g r p => by
    obtain ⟨ds, hd, p⟩ := p
    obtain ⟨a, xs, rfl, hx, r⟩ := hd.inv r
    exact ⟨a, rfl, ⟨xs, ex_l g.sub hx⟩, q _ _ _ _ _ _ g (itl_ok hx r) p⟩) x
theorem iv_tup {P : Nat → (Nat → D) → Mu → Prop} (h : EV T te W ⟨ρ, m0⟩ (fun d μ => ∃ ds, d = .tup ds ∧ P ds.length (nth ds) μ) XP) : IV T (iTup T.K te) W ⟨ρ, m0⟩ P XP := fun σ Hb H R S q x =>
  h σ Hb H _ S (fun d μ v Hb1 H1 g r p => by
    obtain ⟨ds, rfl, p⟩ := p
    obtain ⟨a, xs, rfl, hx, r⟩ := r.tup_inv
    exact ⟨a, rfl, ⟨xs, ex_t g.sub hx⟩, q _ _ _ _ _ _ g (itt_ok hx r) p⟩) x
theorem iv_rng1 {ta : TA} {P : Nat → (Nat → D) → Mu → Prop} (h : EA T ta W ⟨ρ, m0⟩ (fun ds μ => ∃ n : Int, ds = [.int n] ∧ n ≤ 1000000 ∧ -1000000 ≤ n ∧ P n.toNat (fun i => .int (0 + (i : Nat))) μ) XP) : IV T (iRng1 ta) W ⟨ρ, m0⟩ P XP := fun σ Hb H R S q x =>
  h σ Hb H _ S (fun ds μ vs Hb1 H1 g r p => by
    obtain ⟨n, rfl, h1, h2, p⟩ := p
    obtain ⟨v, ys, rfl, r1, r⟩ := r.cons_inv
    obtain rfl := r.nil_inv
    cases r1
    exact ⟨n, rfl, by omega, by omega, q _ _ _ _ _ _ g itr_ok p⟩) x
theorem ite_ok {a : Addr} {ds : List D} {xs : List V} {Hb0 : Hp} (hx : SqL T.K Hb0 a xs) (r : RepL T Hb0 ds xs) : ItOk T (Ite T.K a) ds.length (fun i => .tup [.int (i : Nat), nth ds i]) Hb0 := fun Hb H e1 e2 => by
  have hH : SqL T.K H a xs := ex_l e2 (ex_l e1 hx)
  refine ⟨fun i hi => ⟨xs, xs[i]'(by rw [← r.1]; exact hi), hH, List.getElem?_eq_getElem _⟩, fun i hi => ⟨xs, hH, by rw [← r.1]; exact hi⟩, ?_⟩
  rintro i x H' hi ⟨Tp, y, rfl, hT, rfl, hy⟩ μ sm
  have g := Go.lay e2 sm (o := .tup [.int (i : Nat), y]) hT
  refine ⟨_, g, ?_⟩
  have rl : RepL T (upd Hb Tp (.tup [.int (i : Nat), y])) [.int (i : Nat), nth ds i] [.int (i : Nat), y] :=
    .cons (.int _) (.cons (((r.2 i _ y (nth_get hi) (hy xs hH)).mono e1).mono g.ex) .nil)
  exact .tup (Evl.st_of upd_same) rl.1 rl.2
theorem iv_enum {ta : TA} {P : Nat → (Nat → D) → Mu → Prop} (h : EA T ta W ⟨ρ, m0⟩ (fun es μ => ∃ d ds, es = [d] ∧ Seqd d ds ∧ P ds.length (fun i => .tup [.int (i : Nat), nth ds i]) μ) XP) : IV T (iEnum T.K ta) W ⟨ρ, m0⟩ P XP := fun σ Hb H R S q x =>
  h σ Hb H _ S (fun ds μ vs Hb1 H1 g r p => by
    obtain ⟨d, ds, rfl, hd, p⟩ := p
    obtain ⟨v, ys, rfl, r1, r⟩ := r.cons_inv
    obtain rfl := r.nil_inv
    obtain ⟨a, xs, rfl, hx, r⟩ := hd.inv r1
    exact ⟨a, xs, rfl, ex_l g.sub hx, q _ _ _ _ _ _ g (ite_ok hx r) p⟩) x
theorem itz_ok {a b : Addr} {ds es : List D} {xs ys : List V} {Hb0 : Hp} (hx : SqL T.K Hb0 a xs) (r : RepL T Hb0 ds xs) (hy : SqL T.K Hb0 b ys) (r' : RepL T Hb0 es ys) : ItOk T (Itz T.K a b) (min ds.length es.length) (fun i => .tup [nth ds i, nth es i]) Hb0 := fun Hb H e1 e2 => by
  have hH : SqL T.K H a xs := ex_l e2 (ex_l e1 hx)
  have hH' : SqL T.K H b ys := ex_l e2 (ex_l e1 hy)
  have l1 := r.1
  have l2 := r'.1
  refine ⟨fun i hi => ⟨xs, ys, xs[i]'(by omega), ys[i]'(by omega), hH, hH', List.getElem?_eq_getElem _, List.getElem?_eq_getElem _⟩, fun i hi => ⟨xs, ys, hH, hH', by omega⟩, ?_⟩
  rintro i x H' hi ⟨Tp, y, z, rfl, hT, rfl, hy, hz⟩ μ sm
  have g := Go.lay e2 sm (o := .tup [y, z]) hT
  refine ⟨_, g, ?_⟩
  have rl : RepL T (upd Hb Tp (.tup [y, z])) [nth ds i, nth es i] [y, z] :=
    .cons (((r.2 i _ y (nth_get (by omega)) (hy xs hH)).mono e1).mono g.ex) (.cons (((r'.2 i _ z (nth_get (by omega)) (hz ys hH')).mono e1).mono g.ex) .nil)
  exact .tup (Evl.st_of upd_same) rl.1 rl.2
theorem iv_zip {ta : TA} {P : Nat → (Nat → D) → Mu → Prop} (h : EA T ta W ⟨ρ, m0⟩ (fun fs μ => ∃ d ds e es, fs = [d, e] ∧ Seqd d ds ∧ Seqd e es ∧ P (min ds.length es.length) (fun i => .tup [nth ds i, nth es i]) μ) XP) : IV T (iZip T.K ta) W ⟨ρ, m0⟩ P XP := fun σ Hb H R S q x =>
  h σ Hb H _ S (fun ds μ vs Hb1 H1 g r p => by
    obtain ⟨d, ds, e, es, rfl, hd, he, p⟩ := p
    obtain ⟨v, ys, rfl, r1, r⟩ := r.cons_inv
    obtain ⟨w, ys, rfl, r2, r⟩ := r.cons_inv
    obtain rfl := r.nil_inv
    obtain ⟨a, xs, rfl, hx, rr⟩ := hd.inv r1
    obtain ⟨b, zs, rfl, hz, r'⟩ := he.inv r2
    exact ⟨a, b, xs, zs, rfl, ex_l g.sub hx, ex_l g.sub hz, q _ _ _ _ _ _ g (itz_ok hx rr hz r') p⟩) x
theorem its_ok {x : Str} {Hb0 : Hp} : ItOk T (Its x) x.cps.size (fun i => .str ⟨#[x.cps.getD i 0]⟩) Hb0 := fun Hb H e1 e2 => by
  refine ⟨fun i hi => hi, fun i hi => hi, ?_⟩
  rintro i v H' hi ⟨rfl, c, hc, rfl⟩ μ sm
  refine ⟨Hb, .refl e2 sm, ?_⟩
  have : x.cps.getD i 0 = c := by
    rw [Array.getD_eq_getD_getElem?, hc] <;> rfl
  show Rep T Hb (.str ⟨#[x.cps.getD i 0]⟩) _
  rw [this]
  exact .str _
theorem iv_str {P : Nat → (Nat → D) → Mu → Prop} (h : EV T te W ⟨ρ, m0⟩ (fun d μ => ∃ x : Str, d = .str x ∧ P x.cps.size (fun i => .str ⟨#[x.cps.getD i 0]⟩) μ) XP) : IV T (iStr te) W ⟨ρ, m0⟩ P XP := fun σ Hb H R S q x =>
  h σ Hb H _ S (fun d μ v Hb1 H1 g r p => by
    obtain ⟨z, rfl, p⟩ := p
    cases r
    exact ⟨z, rfl, q _ _ _ _ _ _ g its_ok p⟩) x
end
abbrev Ct := List D → Mu → (D → Mu → Prop) → XW → Prop
def spOf (T : Cfg) (c : Ct) : Sp := fun vs H Q E => ∃ ds μ Hb P XP, Ex Hb H ∧ SimMu T μ Hb H ∧ RepL T Hb ds vs ∧ c ds μ P XP ∧
  (∀ d μ' v Hb' H', Go T μ Hb H μ' Hb' H' → Rep T Hb' d v → P d μ' → Q v H') ∧ (∀ x μ' cls dd Hb' H', Go T μ Hb H μ' Hb' H' → RepX T Hb' x cls dd → XP x μ' → E cls dd H')
theorem spOf_len {T : Cfg} {c : Ct} {n : Nat} (h : ∀ ds μ P XP, c ds μ P XP → ds.length = n) {vs : List V} {H : Hp} {Q : VK} {E : XK} (q : spOf T c vs H Q E) : vs.length = n := by
  obtain ⟨ds, μ, Hb, P, XP, _, _, r, hc, _⟩ := q
  rw [← r.1]
  exact h ds μ P XP hc
def fnK (P : D → Mu → Prop) (XP : XW) : Out → Prop
  | .nx s => P .non s.m
  | .rt d m => P d m
  | .xr x s => XP x s.m
  | _ => False
def slots (n : Nat) (ds : List D) : List (Option D) := ds.map some ++ List.replicate (n - ds.length) none
theorem fn_go {T : Cfg} {t : XK → TS} {c : Ct} {N : List Str} (h : ∀ E ds μ P XP, c ds μ P XP → SV T (t E) (fun cls dd _ H => E cls dd H) ⟨slots N.length ds, μ⟩ (fnK P XP))
    (vs : List V) (H : Hp) (Q : VK) (E : XK) (q : spOf T c vs H Q E) : t E { nx := fun _ H' => Q .non H', rt := Q } (start N vs) H := by
  obtain ⟨ds, μ, Hb, P, XP, ex, sm, r, hc, hq, hx⟩ := q
  refine h E ds μ P XP hc (start N vs) Hb H _ ⟨?_, ?_, ex, sm⟩ ⟨?_, ?_, ?_, ?_, ?_⟩
  · simp [slots, L2.start, r.1]
  · intro i d e
    have e : (ds.map some ++ List.replicate (N.length - ds.length) none)[i]? = some (some d) := e
    by_cases hi : i < ds.length
    · rw [List.getElem?_append_left (by simpa using hi), List.getElem?_map, Option.map_eq_some_iff] at e
      obtain ⟨d', e1, e2⟩ := e
      cases e2
      obtain ⟨v, hv, rv⟩ := r.get e1
      refine ⟨v, ?_, rv⟩
      unfold L2.start
      rw [List.getElem?_append_left (by rw [List.length_map, ← r.1]; exact hi), List.getElem?_map, hv] <;> rfl
    · rw [List.getElem?_append_right (by simpa using hi)] at e
      have := List.mem_of_getElem? e
      rw [List.mem_replicate] at this
      cases this.2
  · exact fun s' σ' Hb' H' g S k => hq .non s'.m .non Hb' H' g .non k
  · exact fun d μ' v Hb' H' g r k => hq d μ' v Hb' H' g r k
  · exact fun _ _ _ _ _ _ k => k.elim
  · exact fun _ _ _ _ _ _ k => k.elim
  · exact fun x s' cls dd σ' Hb' H' g S r k => hx x s'.m cls dd Hb' H' g r k
def mrg (μ μ1 μ2 : Mu) : Mu := fun a => match μ2 a with
  | some m => some m
  | none => if (μ1 a).isSome = true then none else μ a
section
variable {T : Cfg} {W : WX} {s : S} {ρ : List (Option D)} {m0 : Mu} {XP : XW} {ta tb te : TE} {P : D → Mu → Prop} {μ μ1 μ2 : Mu} {Hb H Hb' H' : Hp}
def Subm (μ1 μ : Mu) : Prop := ∀ a m, μ1 a = some m → μ a = some m
theorem Subm.sim (h : Subm μ1 μ) (m : SimMu T μ Hb H) : SimMu T μ1 Hb H := m.as fun a z e => m a z (h a z e)
theorem Go.widen (h : Subm μ1 μ) (m : SimMu T μ Hb H) (g : Go T μ1 Hb H μ2 Hb' H') : Go T μ Hb H (mrg μ μ1 μ2) Hb' H' := by
  have sub0 : ∀ a, μ a = none → μ1 a = none := fun a e => by
    cases q : μ1 a with
    | none => rfl
    | some z => rw [h a z q] at e; cases e
  refine ⟨g.ex, fun a o h1 h2 h3 => g.keep a o h1 h2 (sub0 a h3), fun a z e => ?_, g.alive, g.sub, g.mu.as fun a z e => ?_⟩
  · unfold mrg at e
    cases q : μ2 a with
    | some y =>
      rcases g.new a y q with w | w
      · left
        intro e0
        exact w (sub0 a e0)
      · exact .inr w
    | none =>
      rw [q] at e
      left
      intro e0
      simp [e0] at e
  · unfold mrg at e
    cases q : μ2 a with
    | some y =>
      rw [q] at e
      cases e
      exact g.mu a _ q
    | none =>
      rw [q] at e
      by_cases w : (μ1 a).isSome = true
      · simp [w] at e
      · simp [w] at e
        have w1 : μ1 a = none := by simpa using w
        obtain ⟨n, o, ho, r⟩ := m a z e
        obtain ⟨ho', n'⟩ := g.keepN ho n w1 r
        exact ⟨n', o, ho', r.mono g.ex⟩
theorem Go.forget (g : Go T μ Hb H μ1 Hb' H') (h : Subm μ2 μ1) : Go T μ Hb H μ2 Hb' H' :=
  ⟨g.ex, g.keep, fun a z e => g.new a z (h a z e), g.alive, g.sub, h.sim g.mu⟩
theorem sub_nil : Subm mu0 μ := fun _ _ e => nomatch e
theorem mrg_nil : mrg μ mu0 mu0 = μ := by funext a; unfold mrg; simp
def pu (c : List D → (D → Prop) → (XD → Prop) → Prop) : Ct := fun ds μ P XP => μ = mu0 ∧ ∃ Pf Xf, c ds Pf Xf ∧ (∀ d, Pf d → P d mu0) ∧ ∀ x, Xf x → XP x mu0
theorem ev_call0 {c : List D → (D → Prop) → (XD → Prop) → Prop} {dvs : List V} {dds : List D} {E : XK} {ta : TA} (hd : ∀ Hb, RepL T Hb dds dvs)
    (h : EA T ta W ⟨ρ, m0⟩ (fun ds μ => c (ds ++ dds) (fun d => P d μ) (fun _ => False)) XP) : EV T (tCall (spOf T (pu c)) dvs E ta) W ⟨ρ, m0⟩ P XP := fun σ Hb H Q S q x =>
  h σ Hb H _ S (fun ds μ vs Hb1 H1 g r p => by
    refine ⟨ds ++ dds, mu0, Hb1, fun d μ' => μ' = mu0 ∧ P d μ, fun y μ' => False, g.sub, g.mu.nil, r.app (hd Hb1), ⟨rfl, _, _, p, fun d k => ⟨rfl, k⟩, fun y k => k⟩, fun d μ' v Hb' H' g' r' k => ?_, fun y μ' cls dd Hb' H' g' r' k => k.elim⟩
    obtain ⟨rfl, k⟩ := k
    have g'' := g'.widen sub_nil g.mu
    rw [mrg_nil] at g''
    exact q _ _ _ _ _ (g.trans g'') r' k) x
def wl (c : Nat → List D → (D → Nat → Prop) → Prop) : Ct := fun ds μ P _ => ∃ a b rest, ds = .ptr a :: rest ∧ μ = put mu0 a (.well b) ∧ ∃ Pf, c b rest Pf ∧ ∀ d b', Pf d b' → P d (put mu0 a (.well b'))
theorem mrg_one {a : Addr} {m n : MO} : mrg μ (put mu0 a m) (put mu0 a n) = put μ a n := by
  funext b
  unfold mrg put
  by_cases e : b = a
  · simp [e]
  · simp [e]
theorem sub_one {a : Addr} {m : MO} (h : μ a = some m) : Subm (put mu0 a m) μ := fun b z e => by
  unfold put at e
  split at e
  · rename_i q; cases e; rw [q]; exact h
  · cases e
theorem ev_callW {c : Nat → List D → (D → Nat → Prop) → Prop} {dvs : List V} {dds : List D} {E : XK} {ta : TA} (hd : ∀ Hb, RepL T Hb dds dvs)
    (h : EA T ta W ⟨ρ, m0⟩ (fun ds μ => ∃ a b rest, ds ++ dds = .ptr a :: rest ∧ μ a = some (.well b) ∧ c b rest (fun d b' => P d (put μ a (.well b')))) XP) : EV T (tCall (spOf T (wl c)) dvs E ta) W ⟨ρ, m0⟩ P XP := fun σ Hb H Q S q x =>
  h σ Hb H _ S (fun ds μ vs Hb1 H1 g r p => by
    obtain ⟨a, b, rest, e1, hm, p⟩ := p
    refine ⟨ds ++ dds, put mu0 a (.well b), Hb1, fun d μ' => ∃ b', μ' = put mu0 a (.well b') ∧ P d (put μ a (.well b')), fun y μ' => False, g.sub, (sub_one hm).sim g.mu, r.app (hd Hb1), ⟨a, b, rest, e1, rfl, _, p, fun d b' k => ⟨b', rfl, k⟩⟩, fun d μ' v Hb' H' g' r' k => ?_, fun y μ' cls dd Hb' H' g' r' k => k.elim⟩
    obtain ⟨b', rfl, k⟩ := k
    have g'' := g'.widen (sub_one hm) g.mu
    rw [mrg_one] at g''
    exact q _ _ _ _ _ (g.trans g'') r' k) x
def ini (k : Nat) (c : List D → (List (Str × D) → Prop) → (XD → Prop) → Prop) : Ct := fun ds μ P XP => ∃ a rest, ds = .ptr a :: rest ∧ μ = put mu0 a (.ins k []) ∧ ∃ Pf Xf, c rest Pf Xf ∧ (∀ fs, Pf fs → P .non (put mu0 a (.ins k fs))) ∧ ∀ x fs, Xf x → XP x (put mu0 a (.ins k fs))
theorem ev_makeG {k : Nat} {XC : XW} {c : List D → (List (Str × D) → Prop) → (XD → Prop) → Prop} {dvs : List V} {dds : List D} {E : XK} {ta : TA} (hX : ∀ y μ, XC y μ → XP y μ ∧ ∀ σ cls dd H, W cls dd σ H → E cls dd H) (hd : ∀ Hb, RepL T Hb dds dvs)
    (h : EA T ta W ⟨ρ, m0⟩ (fun ds μ => c (ds ++ dds) (fun fs => P (.ins k fs) μ) (fun x => XC x μ)) XP) : EV T (tMake (T.cls k) (spOf T (ini k c)) dvs E ta) W ⟨ρ, m0⟩ P XP := fun σ Hb H Q S q x =>
  h σ Hb H _ S (fun ds μ vs Hb1 H1 g r p => by
    intro a dx ha hdx hne
    have hb1 : Hb1 a = none := fresh_back g.sub ha
    have hm1 : μ a = none := by
      cases e : μ a with
      | none => rfl
      | some m =>
        obtain ⟨_, o, ho, _⟩ := g.mu a m e
        rw [ha] at ho; cases ho
    -- the dict, then the instance
    have g1 : Go T μ Hb1 H1 μ (upd Hb1 dx (.own a)) (upd H1 dx (.own a)) := Go.lay g.sub g.mu hdx
    have ha' : (upd H1 dx (.own a)) a = none := by rw [upd_ne (fun e => hne e.symm)]; exact ha
    have g2 := Go.own g1.sub g1.mu (o := .ins (T.cls k) dx []) (z := .ins k []) ha' ⟨rfl, rfl, fun i g f e => by simp at e⟩
    have hs : Subm (put mu0 a (.ins k [])) (put μ a (.ins k [])) := sub_one put_same
    refine ⟨.ptr a :: (ds ++ dds), put mu0 a (.ins k []), _, fun d μ' => ∃ fs, d = .non ∧ μ' = put mu0 a (.ins k fs) ∧ P (.ins k fs) μ, fun y μ' => (∃ fs, μ' = put mu0 a (.ins k fs)) ∧ XC y μ, g2.sub, hs.sim g2.mu,
      .cons (.ptr a) ((r.mono (g1.trans g2).ex).app (hd _)), ⟨a, ds ++ dds, rfl, rfl, _, _, p, fun fs z => ⟨fs, rfl, rfl, z⟩, fun y fs z => ⟨⟨fs, rfl⟩, z⟩⟩, fun d μ' v Hb' H' g' r' z => ?_, fun y μ' cls dd Hb' H' g' r' z => ?_⟩
    · obtain ⟨fs, rfl, rfl, z⟩ := z
      cases r'
      refine ⟨rfl, ?_⟩
      have g3 := g'.widen hs g2.mu
      rw [mrg_one, put_put] at g3
      obtain ⟨n, o, ho, ro⟩ := g3.mu a _ put_same
      have g4 := Go.freeze g3.sub g3.mu put_same ho
      rw [del_put hm1] at g4
      cases o with
      | ins C dx' fs' =>
        obtain ⟨rfl, ro⟩ := ro
        exact q _ _ _ _ _ ((((g.trans g1).trans g2).trans g3).trans g4) (.ins upd_same ro.1 (ro.mono g4.ex).2) z
      | _ => exact ro.elim
    · obtain ⟨⟨fs, rfl⟩, z⟩ := z
      have g3 := g'.widen hs g2.mu
      rw [mrg_one, put_put] at g3
      have g4 := ((((g.trans g1).trans g2).trans g3)).forget (μ2 := μ) (fun b m e => by
        have ne : b ≠ a := fun w => by rw [w, hm1] at e; cases e
        rw [put_ne ne]
        exact e)
      exact (hX _ _ z).2 σ _ _ _ (x _ _ _ _ _ _ g4 r' (hX _ _ z).1)) x
theorem ev_make0 {k : Nat} {c : List D → (List (Str × D) → Prop) → (XD → Prop) → Prop} {dvs : List V} {dds : List D} {E : XK} {ta : TA} (hd : ∀ Hb, RepL T Hb dds dvs)
    (h : EA T ta W ⟨ρ, m0⟩ (fun ds μ => c (ds ++ dds) (fun fs => P (.ins k fs) μ) (fun _ => False)) XP) : EV T (tMake (T.cls k) (spOf T (ini k c)) dvs E ta) W ⟨ρ, m0⟩ P XP := ev_makeG (XC := fun _ _ => False) (fun y μ z => z.elim) hd h
end
def CFd (_ j : Int) : Prop := j ≠ 0 ∧ j.natAbs.log2 < 9000
section
variable {X : Cx}
theorem op_mulO : OpR X (binaryOp .Mult) (rI IntMulOk fun i j => .int (i * j)) := opI fun _ _ _ _ _ _ _ hc q => mul_int q hc
theorem op_fdivO : OpR X (binaryOp .FloorDiv) (rI CFd fun i j => .int (i.fdiv j)) := opI fun i j _ _ _ _ _ hc q => floordiv_int hc.1 q (.inl (PyProof.noPylong_of_log2 hc.2))
end
def Bt (n : Nat) (i : Int) : Prop := i.natAbs < 2 ^ n
theorem Bt.log {n : Nat} {i : Int} (h : Bt n i) (h0 : 0 < n) : i.natAbs.log2 < n := PySem.Flt.log2_lt_of h0 h
theorem Bt.mono {n m : Nat} {i : Int} (h : Bt n i) (k : n ≤ m) : Bt m i := Nat.lt_of_lt_of_le h (Nat.pow_le_pow_right (by decide) k)
theorem Bt.mul {n m : Nat} {i j : Int} (h : Bt n i) (k : Bt m j) : Bt (n + m) (i * j) := wide_lt h k
theorem Bt.add {n m : Nat} {i j : Int} (h : Bt n i) (k : Bt n j) (hm : n + 1 ≤ m) : Bt m (i + j) := by
  have h1 : i.natAbs < 2 ^ n := h
  have h2 : j.natAbs < 2 ^ n := k
  have h3 : (2 : Nat) ^ (n + 1) = 2 ^ n + 2 ^ n := by rw [Nat.pow_succ]; omega
  have h4 : (2 : Nat) ^ (n + 1) ≤ 2 ^ m := Nat.pow_le_pow_right (by decide) hm
  show (i + j).natAbs < 2 ^ m
  omega
theorem Bt.neg {n : Nat} {i : Int} (h : Bt n i) : Bt n (-i) := by
  show (-i).natAbs < 2 ^ n
  rw [Int.natAbs_neg]
  exact h
theorem Bt.sub {n m : Nat} {i j : Int} (h : Bt n i) (k : Bt n j) (hm : n + 1 ≤ m) : Bt m (i - j) := by
  have := h.add k.neg hm
  rwa [← Int.sub_eq_add_neg] at this
theorem Bt.ok {n m : Nat} {i j : Int} (h : Bt n i) (k : Bt m j) (hm : n + m ≤ 100000000) : IntMulOk i j := by
  have b : ∀ (x : Int) (p : Nat), Bt p x → Builtin.Int.intBits x ≤ p + 1 := fun x p hx => by
    unfold Builtin.Int.intBits
    split
    · omega
    · cases p with
      | zero =>
        have h0 : x.natAbs < 2 ^ 0 := hx
        have : x.natAbs = 0 := by simpa using h0
        rw [this]
        decide
      | succ p =>
        have := hx.log (by omega)
        omega
  have h1 := b i n h
  have h2 := b j m k
  have e : bitsLine = 134217728 := by decide
  unfold IntMulOk
  intro z
  rw [Bool.and_eq_true] at z
  have z2 := z.2
  unfold Builtin.Int.intTooBig at z2
  have z3 := of_decide_eq_true z2
  rw [e] at z3
  omega
section
variable {T : Cfg} {W : WX} {s : S} {ρ : List (Option D)} {m0 : Mu} {XP : XW} {ta tb te : TE} {P : D → Mu → Prop} {μ : Mu}
theorem ov_of {r : R2} {d e z : D} (h : ∀ x y Hb H Q, Ex Hb H → Rep T Hb d x → Rep T Hb e y → (∀ v, Rep T Hb z v → Q v H) → r x y H Q) (p : P z μ) : OV T r d e μ P := fun x y Hb H Q ex sm rx ry q =>
  h x y Hb H Q ex rx ry fun v rv => q z μ v Hb H (.refl ex sm) rv p
theorem ov_I0 {g : Int → Int → Int} {i j : Int} (p : P (.int (g i j)) μ) : OV T (rI0 fun i j => .int (g i j)) (.int i) (.int j) μ P := ov_of (fun x y Hb H Q ex rx ry q => by
  cases rx; cases ry
  exact ⟨i, j, rfl, rfl, q _ (.int _)⟩) p
theorem ov_I {C : Int → Int → Prop} {g : Int → Int → Int} {i j : Int} (hc : C i j) (p : P (.int (g i j)) μ) : OV T (rI C fun i j => .int (g i j)) (.int i) (.int j) μ P := ov_of (fun x y Hb H Q ex rx ry q => by
  cases rx; cases ry
  exact ⟨i, j, rfl, rfl, hc, q _ (.int _)⟩) p
theorem ov_B0 {g : Int → Int → Bool} {i j : Int} (p : P (.bl (g i j)) μ) : OV T (rI0 fun i j => .bl (g i j)) (.int i) (.int j) μ P := ov_of (fun x y Hb H Q ex rx ry q => by
  cases rx; cases ry
  exact ⟨i, j, rfl, rfl, q _ (.bl _)⟩) p
theorem ov_add {i j : Int} (p : P (.int (i + j)) μ) : OV T (rI0 fun i j => .int (i + j)) (.int i) (.int j) μ P := ov_I0 p
theorem ov_sub {i j : Int} (p : P (.int (i - j)) μ) : OV T (rI0 fun i j => .int (i - j)) (.int i) (.int j) μ P := ov_I0 p
theorem ov_mul {i j : Int} (hc : IntMulOk i j) (p : P (.int (i * j)) μ) : OV T (rI IntMulOk fun i j => .int (i * j)) (.int i) (.int j) μ P := ov_I hc p
theorem ov_fdiv {i j : Int} (hc : CFd i j) (p : P (.int (i.fdiv j)) μ) : OV T (rI CFd fun i j => .int (i.fdiv j)) (.int i) (.int j) μ P := ov_I hc p
theorem ov_mod {i j : Int} (hc : j ≠ 0) (p : P (.int (i.fmod j)) μ) : OV T (rI (fun _ j => j ≠ 0) fun i j => .int (i.fmod j)) (.int i) (.int j) μ P := ov_I hc p
theorem ov_pow {i j : Int} (hc : CPow i j) (p : P (.int (i ^ j.toNat)) μ) : OV T (rI CPow fun i j => .int (i ^ j.toNat)) (.int i) (.int j) μ P := ov_I hc p
theorem ov_lt {i j : Int} (p : P (.bl (decide (i < j))) μ) : OV T (rI0 fun i j => .bl (decide (i < j))) (.int i) (.int j) μ P := ov_B0 p
theorem ov_le {i j : Int} (p : P (.bl (decide (i ≤ j))) μ) : OV T (rI0 fun i j => .bl (decide (i ≤ j))) (.int i) (.int j) μ P := ov_B0 p
theorem ov_gt {i j : Int} (p : P (.bl (decide (j < i))) μ) : OV T (rI0 fun i j => .bl (decide (j < i))) (.int i) (.int j) μ P := ov_B0 (g := fun i j => decide (j < i)) p
theorem ov_ge {i j : Int} (p : P (.bl (decide (j ≤ i))) μ) : OV T (rI0 fun i j => .bl (decide (j ≤ i))) (.int i) (.int j) μ P := ov_B0 (g := fun i j => decide (j ≤ i)) p
theorem ov_eqI {i j : Int} (p : P (.bl (decide (i = j))) μ) : OV T rEq (.int i) (.int j) μ P := ov_of (fun x y Hb H Q ex rx ry q => by
  cases rx; cases ry
  refine ⟨rfl, q _ ?_⟩
  rw [show decide (V.int i = V.int j) = decide (i = j) by simp]
  exact .bl _) p
theorem ov_neI {i j : Int} (p : P (.bl (!decide (i = j))) μ) : OV T rNe (.int i) (.int j) μ P := ov_of (fun x y Hb H Q ex rx ry q => by
  cases rx; cases ry
  refine ⟨rfl, q _ ?_⟩
  rw [show decide (V.int i = V.int j) = decide (i = j) by simp]
  exact .bl _) p
theorem ov_eqS {i j : Str} (p : P (.bl (decide (i = j))) μ) : OV T rEq (.str i) (.str j) μ P := ov_of (fun x y Hb H Q ex rx ry q => by
  cases rx; cases ry
  refine ⟨rfl, q _ ?_⟩
  rw [show decide (V.str i = V.str j) = decide (i = j) by simp]
  exact .bl _) p
theorem ov_neS {i j : Str} (p : P (.bl (!decide (i = j))) μ) : OV T rNe (.str i) (.str j) μ P := ov_of (fun x y Hb H Q ex rx ry q => by
  cases rx; cases ry
  refine ⟨rfl, q _ ?_⟩
  rw [show decide (V.str i = V.str j) = decide (i = j) by simp]
  exact .bl _) p
theorem ov_eqB {i j : Bool} (p : P (.bl (decide (i = j))) μ) : OV T rEq (.bl i) (.bl j) μ P := ov_of (fun x y Hb H Q ex rx ry q => by
  cases rx; cases ry
  refine ⟨rfl, q _ ?_⟩
  rw [show decide (V.bl i = V.bl j) = decide (i = j) by simp]
  exact .bl _) p
theorem ov_neB {i j : Bool} (p : P (.bl (!decide (i = j))) μ) : OV T rNe (.bl i) (.bl j) μ P := ov_of (fun x y Hb H Q ex rx ry q => by
  cases rx; cases ry
  refine ⟨rfl, q _ ?_⟩
  rw [show decide (V.bl i = V.bl j) = decide (i = j) by simp]
  exact .bl _) p
theorem at_rep {Hb : Hp} {ds : List D} {xs : List V} {i : Int} {d : D} (r : RepL T Hb ds xs) (h : atI ds i = some d) : ∃ v, atI xs i = some v ∧ Rep T Hb d v := by
  unfold atI at h ⊢
  rw [← r.1]
  cases e : ixN ds.length i with
  | none => rw [e] at h; cases h
  | some j =>
    rw [e] at h
    exact r.get h
theorem ov_ixL {d e : D} {ds : List D} {i : Int} (hd : Seqd d ds) (h : atI ds i = some e) (p : P e μ) : OV T (rIxL T.K) d (.int i) μ P := ov_of (fun x y Hb H Q ex rx ry q => by
  cases ry
  obtain ⟨a, xs, rfl, hx, r⟩ := hd.inv rx
  obtain ⟨v, hv, rv⟩ := at_rep r h
  exact ⟨a, xs, i, v, rfl, rfl, ex_l ex hx, hv, q v rv⟩) p
theorem ov_ixT {e : D} {ds : List D} {i : Int} (h : atI ds i = some e) (p : P e μ) : OV T (rIxT T.K) (.tup ds) (.int i) μ P := ov_of (fun x y Hb H Q ex rx ry q => by
  cases ry
  obtain ⟨a, xs, rfl, hx, r⟩ := rx.tup_inv
  obtain ⟨v, hv, rv⟩ := at_rep r h
  exact ⟨a, xs, i, v, rfl, rfl, ex_t ex hx, hv, q v rv⟩) p
theorem ov_ixM {e : D} {ds : List D} {i : Int} {a : Addr} (hm : μ a = some (.lst ds)) (h : atI ds i = some e) (p : P e μ) : OV T (rIxL T.K) (.ptr a) (.int i) μ P := fun x y Hb H Q ex sm rx ry q => by
  cases rx; cases ry
  obtain ⟨n, o, ho, r⟩ := sm a _ hm
  cases o with
  | lst xs =>
    obtain ⟨v, hv, rv⟩ := at_rep (show RepL T Hb ds xs from r) h
    exact ⟨a, xs, i, v, rfl, rfl, Evl.sq_of ho, hv, q _ _ _ _ _ (.refl ex sm) rv p⟩
  | _ => exact r.elim
theorem ov_cat {ds es : List D} (hl : ds.length + es.length ≤ 100000) (p : P (.lst (ds ++ es)) μ) : OV T rCat (.lst ds) (.lst es) μ P := fun x y Hb H Q ex sm rx ry q => by
  obtain ⟨a, xs, rfl, hx, r⟩ := rx.lst_inv
  obtain ⟨b, ys, rfl, hy, r'⟩ := ry.lst_inv
  refine ⟨a, b, xs, ys, rfl, rfl, ex _ _ hx, ex _ _ hy, by rw [← r.1, ← r'.1]; exact Evl.sz_of hl, fun p' hp => ?_⟩
  have g := Go.lay ex sm (o := .lst (xs ++ ys)) hp
  have rr := (r.app r').mono g.ex
  exact q _ _ _ _ _ g (.lst upd_same rr.1 rr.2) p
def cutD (ds : List D) (lo hi : Option Int) : List D := (ds.drop (HT.sIx ds.length 0 lo)).take (HT.sIx ds.length ds.length hi - HT.sIx ds.length 0 lo)
theorem ev_slL {tl th : TO} (h : EV T te W ⟨ρ, m0⟩ (fun d μ1 => OV' T tl W ⟨ρ, μ1⟩ (fun lo μ2 => OV' T th W ⟨ρ, μ2⟩ (fun hi μ3 => ∃ ds, Seqd d ds ∧ P (.lst (cutD ds lo hi)) μ3) XP) XP) XP) : EV T (tSl (rSlL T.K) te tl th) W ⟨ρ, m0⟩ P XP := fun σ Hb H Q S q x =>
  h σ Hb H _ S (fun d μ1 v Hb1 H1 g1 r1 p1 => p1 σ Hb1 H1 _ (S.go g1) (fun lo μ2 Hb2 H2 g2 p2 => p2 σ Hb2 H2 _ (S.go (g1.trans g2)) (fun hi μ3 Hb3 H3 g3 p3 => by
    obtain ⟨ds, hd, p⟩ := p3
    obtain ⟨a, xs, rfl, hx, r⟩ := hd.inv ((r1.mono g2.ex).mono g3.ex)
    refine ⟨a, xs, rfl, ex_l g3.sub hx, fun p' hp => ?_⟩
    have g := Go.lay g3.sub g3.mu (o := .lst (cutV xs lo hi)) hp
    have r0 : RepL T Hb3 (cutD ds lo hi) (cutV xs lo hi) := by
      unfold cutD cutV
      rw [← r.1]
      exact (r.drop _).take _
    have rr := r0.mono g.ex
    exact q _ _ _ _ _ (((g1.trans g2).trans g3).trans g) (.lst upd_same rr.1 rr.2) p)
    (fun y μ' cls dd Hb' H' g r p => x y μ' cls dd Hb' H' ((g1.trans g2).trans g) r p)) (fun y μ' cls dd Hb' H' g r p => x y μ' cls dd Hb' H' (g1.trans g) r p)) x
theorem cv_of {r : List V → Hp → VK → Prop} {ds : List D} {z : D} (h : ∀ xs Hb H Q, Ex Hb H → RepL T Hb ds xs → (∀ v, Rep T Hb z v → Q v H) → r xs H Q) (p : P z μ) : CV T r ds μ P := fun xs Hb H Q ex sm rx q =>
  h xs Hb H Q ex rx fun v rv => q z μ v Hb H (.refl ex sm) rv p
theorem one_inv {Hb : Hp} {d : D} {xs : List V} (r : RepL T Hb [d] xs) : ∃ v, xs = [v] ∧ Rep T Hb d v := by
  obtain ⟨v, ys, rfl, r1, r⟩ := r.cons_inv
  obtain rfl := r.nil_inv
  exact ⟨v, rfl, r1⟩
theorem two_inv {Hb : Hp} {d e : D} {xs : List V} (r : RepL T Hb [d, e] xs) : ∃ v w, xs = [v, w] ∧ Rep T Hb d v ∧ Rep T Hb e w := by
  obtain ⟨v, ys, rfl, r1, r⟩ := r.cons_inv
  obtain ⟨w, rfl, r2⟩ := one_inv r
  exact ⟨v, w, rfl, r1, r2⟩
abbrev rLen (K : PySem.W.Frag) : List V → Hp → VK → Prop := fun xs H Q => ∃ x n, xs = [x] ∧ LenV K x H n ∧ Q (.int n) H
theorem cv_len {d : D} {ds : List D} (hd : Seqd d ds) (p : P (.int (ds.length : Int)) μ) : CV T (rLen T.K) [d] μ P := cv_of (fun xs Hb H Q ex r q => by
  obtain ⟨v, rfl, r1⟩ := one_inv r
  obtain ⟨a, xs, rfl, hx, r2⟩ := hd.inv r1
  exact ⟨_, ds.length, rfl, Or.inl ⟨xs, ex_l ex hx, r2.1⟩, q _ (.int _)⟩) p
theorem cv_lenT {ds : List D} (p : P (.int (ds.length : Int)) μ) : CV T (rLen T.K) [.tup ds] μ P := cv_of (fun xs Hb H Q ex r q => by
  obtain ⟨v, rfl, r1⟩ := one_inv r
  obtain ⟨a, xs, rfl, hx, r2⟩ := r1.tup_inv
  exact ⟨_, ds.length, rfl, Or.inr ⟨xs, ex_t ex hx, r2.1⟩, q _ (.int _)⟩) p
theorem cv_lenS {x : Str} (h : x.length ≤ 100000) (p : P (.int (x.length : Int)) μ) : CV T (rLen T.K) [.str x] μ P := cv_of (fun xs Hb H Q ex r q => by
  obtain ⟨v, rfl, r1⟩ := one_inv r
  cases r1
  exact ⟨_, x.length, rfl, ⟨Evl.sz_of h, rfl⟩, q _ (.int _)⟩) p
abbrev rAbs : List V → Hp → VK → Prop := fun xs H Q => ∃ i, xs = [.int i] ∧ Q (.int (if i < 0 then -i else i)) H
theorem cv_abs {i : Int} (p : P (.int (i.natAbs : Int)) μ) : CV T rAbs [.int i] μ P := cv_of (fun xs Hb H Q ex r q => by
  obtain ⟨v, rfl, r1⟩ := one_inv r
  cases r1
  refine ⟨i, rfl, q _ ?_⟩
  rw [show (if i < 0 then -i else i) = (i.natAbs : Int) by split <;> omega]
  exact .int _) p
abbrev rInt1 : List V → Hp → VK → Prop := fun xs H Q => (∃ i, xs = [.int i] ∧ Q (.int i) H) ∨ ∃ k, xs = [.bl k] ∧ Q (.int (if k then 1 else 0)) H
theorem cv_intB {b : Bool} (p : P (.int (if b then 1 else 0)) μ) : CV T rInt1 [.bl b] μ P := cv_of (fun xs Hb H Q ex r q => by
  obtain ⟨v, rfl, r1⟩ := one_inv r
  cases r1
  exact .inr ⟨b, rfl, q _ (.int _)⟩) p
theorem cv_all {d : D} {bs : List Bool} (hd : Seqd d (bs.map D.bl)) (p : P (.bl (bs.all id)) μ) : CV T (rAll T.K) [d] μ P := cv_of (fun xs Hb H Q ex r q => by
  obtain ⟨v, rfl, r1⟩ := one_inv r
  obtain ⟨a, xs, rfl, hx, r2⟩ := hd.inv r1
  obtain rfl := r2.bls
  exact ⟨a, bs, rfl, ex_l ex hx, q _ (.bl _)⟩) p
theorem cv_sum {d : D} {ns : List Int} (hd : Seqd d (ns.map D.int)) (p : P (.int ns.sum) μ) : CV T (rSum T.K) [d] μ P := cv_of (fun xs Hb H Q ex r q => by
  obtain ⟨v, rfl, r1⟩ := one_inv r
  obtain ⟨a, xs, rfl, hx, r2⟩ := hd.inv r1
  obtain rfl := r2.ints
  exact ⟨a, ns, rfl, ex_l ex hx, q _ (.int _)⟩) p
structure InsCls (K : PySem.W.Frag) (C : Addr) : Prop where
  cl : Cls K C
  ha : PySem.W.findIn K (.ref C) "__class__" = some (some (.builtin "object.__class__"))
  hn : PySem.W.specialIn K (.builtin "object.__class__") "__get__" = some (some (.builtin "getset_descriptor.__get__"))
  htk : PySem.W.takesIn K (.builtin "object.__class__") = some true
  hm : PySem.W.mroIn K C (.type "object") = some true
inductive TyD (T : Cfg) : D → Value → Prop where
  | non : TyD T .non (.type "NoneType")
  | bl (b : Bool) : TyD T (.bl b) (.type "bool")
  | int (i : Int) : TyD T (.int i) (.type "int")
  | str (x : Str) : TyD T (.str x) (.type "str")
  | lst (ds : List D) : TyD T (.lst ds) (.type "list")
  | tup (ds : List D) : TyD T (.tup ds) (.type "tuple")
  | dic (kvs : List (Key × D)) : TyD T (.dic kvs) (.type "dict")
  | ins {c : Nat} {gs : List (Str × D)} (h : InsCls T.K (T.cls c)) : TyD T (.ins c gs) (.ref (T.cls c))
theorem TyD.tyx {d : D} {t : Value} {v : V} {Hb H : Hp} (h : TyD T d t) (r : Rep T Hb d v) (ex : Ex Hb H) : TyX T.K H v t := by
  cases h with
  | non => cases r; exact .base .non
  | bl b => cases r; exact .base (.bl b)
  | int i => cases r; exact .base (.int i)
  | str x => cases r; exact .base (.str x)
  | lst ds =>
    obtain ⟨a, xs, rfl, h, _⟩ := r.lst_inv
    exact .base (.lst (ex _ _ h))
  | tup ds =>
    obtain ⟨a, xs, rfl, h, _⟩ := r.tup_inv
    rcases h with (h | ⟨o, h⟩) | ⟨o, its, n, h, c, _⟩
    · exact .base (.tup (ex _ _ h))
    · exact .fTuple (ex _ _ h)
    · exact .kTuple h c
  | dic kvs =>
    cases r with
    | dic h l r => exact .base (.dK (ex _ _ h))
  | ins hc =>
    obtain ⟨a, dx, fs, rfl, h, _⟩ := r.ins_inv
    exact .base (.ins (ex _ _ h) hc.cl hc.ha hc.hn hc.htk hc.hm)
theorem cv_isi {d : D} {t : Value} {C : Addr} {b : Bool} (ht : TyD T d t) (hk : PySem.W.kitOne T.K t (.ref C) = some b) (p : P (.bl b) μ) : CV T (rIsi T.K) [d, .ptr C] μ P := cv_of (fun xs Hb H Q ex r q => by
  obtain ⟨v, w, rfl, r1, r2⟩ := two_inv r
  cases r2
  exact ⟨v, _, t, _, b, rfl, .own C, ht.tyx r1 ex, hk, q _ (.bl _)⟩) p
theorem cv_isiT {d : D} {t : Value} {n : String} {b : Bool} (ht : TyD T d t) (hk : PySem.W.kitOne T.K t (.type n) = some b) (p : P (.bl b) μ) : CV T (rIsi T.K) [d, .ty n] μ P := cv_of (fun xs Hb H Q ex r q => by
  obtain ⟨v, w, rfl, r1, r2⟩ := two_inv r
  cases r2
  exact ⟨v, _, t, _, b, rfl, .ty n, ht.tyx r1 ex, hk, q _ (.bl _)⟩) p
theorem well_open {a : Addr} {b : Nat} {Hb H : Hp} (sm : SimMu T μ Hb H) (h : μ a = some (.well b)) : ∃ w0 w1 w2 : Int, 0 ≤ w0 ∧ 0 ≤ w1 ∧ w1 < 2147483647 ∧ 0 ≤ w2 ∧ w2 + (b : Int) ≤ 1073741824 ∧ SimMu T (put μ a (.lst [.int w0, .int w1, .int w2])) Hb H := by
  obtain ⟨n, o, ho, r⟩ := sm a _ h
  cases o with
  | lst xs =>
    obtain ⟨w0, w1, w2, rfl, h0, h1, h2, h3, h4⟩ := r
    refine ⟨w0, w1, w2, h0, h1, h2, h3, h4, sm.as fun c m e => ?_⟩
    by_cases ec : c = a
    · subst ec
      rw [put_same] at e
      cases e
      exact ⟨n, _, ho, .cons (.int w0) (.cons (.int w1) (.cons (.int w2) .nil))⟩
    · rw [put_ne ec] at e; exact sm c m e
  | _ => exact r.elim
theorem well_close {a : Addr} {b : Nat} {w0 w1 w2 : Int} {Hb H : Hp} (sm : SimMu T μ Hb H) (h : μ a = some (.lst [.int w0, .int w1, .int w2])) (h0 : 0 ≤ w0) (h1 : 0 ≤ w1) (h2 : w1 < 2147483647) (h3 : 0 ≤ w2) (h4 : w2 + (b : Int) ≤ 1073741824) : SimMu T (put μ a (.well b)) Hb H := by
  refine sm.as fun c m e => ?_
  by_cases ec : c = a
  · subst ec
    rw [put_same] at e
    cases e
    obtain ⟨n, o, ho, r⟩ := sm c _ h
    cases o with
    | lst xs =>
      have r : RepL T Hb [.int w0, .int w1, .int w2] xs := r
      obtain ⟨v, ys, rfl, r1, rr⟩ := r.cons_inv
      obtain ⟨v', w', rfl, r2, r3⟩ := two_inv rr
      cases r1; cases r2; cases r3
      exact ⟨n, _, ho, w0, w1, w2, rfl, h0, h1, h2, h3, h4⟩
    | _ => exact r.elim
  · rw [put_ne ec] at e; exact sm c m e
theorem Go.told {μ1 μ2 : Mu} {Hb H Hb' H' : Hp} (g : Go T μ Hb H μ1 Hb' H') (hn : ∀ a m, μ2 a = some m → μ1 a ≠ none) (sm : SimMu T μ2 Hb' H') : Go T μ Hb H μ2 Hb' H' :=
  ⟨g.ex, g.keep, fun a m e => by
    cases q : μ1 a with
    | none => exact absurd q (hn a m e)
    | some z => exact g.new a z q, g.alive, g.sub, sm⟩
theorem sv_well {ts : TS} {K : Out → Prop} {a : Addr} {b : Nat} (h : m0 a = some (.well b)) (k : ∀ w0 w1 w2 : Int, 0 ≤ w0 → 0 ≤ w1 → w1 < 2147483647 → 0 ≤ w2 → w2 + (b : Int) ≤ 1073741824 → SV T ts W ⟨ρ, put m0 a (.lst [.int w0, .int w1, .int w2])⟩ K) : SV T ts W ⟨ρ, m0⟩ K := fun σ Hb H Dn S c => by
  obtain ⟨w0, w1, w2, h0, h1, h2, h3, h4, sm⟩ := well_open S.mu h
  have g : Go T m0 Hb H (put m0 a (.lst [.int w0, .int w1, .int w2])) Hb H := S.refl.told (fun c m e => by
    show m0 c ≠ none
    by_cases ec : c = a
    · rw [ec, h]; simp
    · rw [put_ne ec] at e; rw [e]; simp) sm
  exact k w0 w1 w2 h0 h1 h2 h3 h4 σ Hb H Dn (S.go g) (c.go g)
theorem ev_close {a : Addr} (h : EV T te W ⟨ρ, m0⟩ (fun d μ => ∃ b w0 w1 w2, μ a = some (.lst [.int w0, .int w1, .int w2]) ∧ 0 ≤ w0 ∧ 0 ≤ w1 ∧ w1 < 2147483647 ∧ 0 ≤ w2 ∧ w2 + ((b : Nat) : Int) ≤ 1073741824 ∧ P d (put μ a (.well b))) XP) : EV T te W ⟨ρ, m0⟩ P XP := fun σ Hb H Q S q x =>
  h σ Hb H Q S (fun d μ v Hb' H' g r p => by
    obtain ⟨b, w0, w1, w2, hm, h0, h1, h2, h3, h4, p⟩ := p
    exact q _ _ _ _ _ (g.told (fun c m e => by
      by_cases ec : c = a
      · rw [ec, hm]; simp
      · rw [put_ne ec] at e; rw [e]; simp) (well_close g.mu hm h0 h1 h2 h3 h4)) r p) x
theorem ev_newWell {ta : TA} (h : EA T ta W ⟨ρ, m0⟩ (fun ds μ => ∃ (b : Nat) (w0 w1 w2 : Int), ds = [.int w0, .int w1, .int w2] ∧ 0 ≤ w0 ∧ 0 ≤ w1 ∧ w1 < 2147483647 ∧ 0 ≤ w2 ∧ w2 + (b : Int) ≤ 1073741824 ∧ ∀ a, μ a = none → P (.ptr a) (put μ a (.well b))) XP) : EV T (tLst ta) W ⟨ρ, m0⟩ P XP := fun σ Hb H Q S q x =>
  h σ Hb H _ S (fun ds μ1 vs Hb1 H1 g1 r1 p1 => by
    obtain ⟨b, w0, w1, w2, rfl, h0, h1, h2, h3, h4, p1⟩ := p1
    refine ⟨by rw [← r1.1]; exact Evl.sz_of (by simp), fun p hp => ?_⟩
    have g := Go.own g1.sub g1.mu (o := .lst vs) (z := .lst [.int w0, .int w1, .int w2]) hp r1
    have g2 := (g1.trans g).told (μ2 := put μ1 p (.well b)) (fun c m e => by
      by_cases ec : c = p
      · rw [ec, put_same]; simp
      · rw [put_ne ec] at e ⊢; rw [e]; simp) (by
        have := well_close g.mu put_same h0 h1 h2 h3 h4
        rwa [put_put] at this)
    refine q _ _ _ _ _ g2 (.ptr p) (p1 p ?_)
    cases e : μ1 p with
    | none => rfl
    | some m =>
      obtain ⟨_, o, ho, _⟩ := g1.mu p m e
      rw [hp] at ho; cases ho) x
end
section
variable {X : Cx} {n : Nat} {CX : CXT} {C f : Addr} {fd : FuncData} {ps : List Str} {sp : Sp} {E : XK} {pins : List (Addr × Obj)} {s : Shared} {σ : L2.St} {H : Hp}
def rOwnEq (K : PySem.W.Frag) (C : Addr) (sp : Sp) (E : XK) : R2 := fun x y H Q => ∃ a dx fs t, x = .ref a ∧ H a = some (.ins C dx fs) ∧ TyX K H y t ∧ PySem.W.notFirst K C t = true ∧ sp [x, y] H (fun v H' => (∃ b, v = .bl b) ∧ Q v H') E
def rOwnNe (K : PySem.W.Frag) (C : Addr) (sp : Sp) (E : XK) : R2 := fun x y H Q => ∃ a dx fs t, x = .ref a ∧ H a = some (.ins C dx fs) ∧ TyX K H y t ∧ PySem.W.notFirst K C t = true ∧ sp [x, y] H (fun v H' => ∃ b, v = .bl b ∧ Q (.bl (!b)) H') E
end
section
variable {T : Cfg} {P : D → Mu → Prop} {μ : Mu}
theorem ov_ownEq {c : List D → (D → Prop) → (XD → Prop) → Prop} {k : Nat} {gs : List (Str × D)} {e : D} {t : Value} {E : XK} (ht : TyD T e t) (hn : PySem.W.notFirst T.K (T.cls k) t = true) (h : c [.ins k gs, e] (fun d => (∃ b, d = .bl b) ∧ P d μ) (fun _ => False)) :
    OV T (rOwnEq T.K (T.cls k) (spOf T (pu c)) E) (.ins k gs) e μ P := fun x y Hb H Q ex sm rx ry q => by
  obtain ⟨a, dx, fs, rfl, ha, r⟩ := id rx.ins_inv
  refine ⟨a, dx, fs, t, rfl, ex _ _ ha, ht.tyx ry ex, hn, [.ins k gs, e], mu0, Hb, fun d μ' => μ' = mu0 ∧ (∃ b, d = .bl b) ∧ P d μ, fun _ _ => False, ex, sm.nil, .cons rx (.cons ry .nil), ⟨rfl, _, _, h, fun d k => ⟨rfl, k⟩, fun _ k => k⟩, fun d μ' v Hb' H' g r k => ?_, fun _ _ _ _ _ _ _ _ k => k.elim⟩
  obtain ⟨rfl, ⟨b, rfl⟩, k⟩ := k
  cases r
  have g' := g.widen sub_nil sm
  rw [mrg_nil] at g'
  exact ⟨⟨b, rfl⟩, q _ _ _ _ _ g' (.bl b) k⟩
theorem ov_ownNe {c : List D → (D → Prop) → (XD → Prop) → Prop} {k : Nat} {gs : List (Str × D)} {e : D} {t : Value} {E : XK} (ht : TyD T e t) (hn : PySem.W.notFirst T.K (T.cls k) t = true) (h : c [.ins k gs, e] (fun d => ∃ b, d = .bl b ∧ P (.bl (!b)) μ) (fun _ => False)) :
    OV T (rOwnNe T.K (T.cls k) (spOf T (pu c)) E) (.ins k gs) e μ P := fun x y Hb H Q ex sm rx ry q => by
  obtain ⟨a, dx, fs, rfl, ha, r⟩ := id rx.ins_inv
  refine ⟨a, dx, fs, t, rfl, ex _ _ ha, ht.tyx ry ex, hn, [.ins k gs, e], mu0, Hb, fun d μ' => μ' = mu0 ∧ ∃ b, d = .bl b ∧ P (.bl (!b)) μ, fun _ _ => False, ex, sm.nil, .cons rx (.cons ry .nil), ⟨rfl, _, _, h, fun d k => ⟨rfl, k⟩, fun _ k => k⟩, fun d μ' v Hb' H' g r k => ?_, fun _ _ _ _ _ _ _ _ k => k.elim⟩
  obtain ⟨rfl, b, rfl, k⟩ := k
  cases r
  have g' := g.widen sub_nil sm
  rw [mrg_nil] at g'
  exact ⟨b, rfl, q _ _ _ _ _ g' (.bl _) k⟩
end
abbrev rAddS : R2 := fun x y H Q => ∃ i j, x = .str i ∧ y = .str j ∧ i.length + j.length ≤ sizeLine ∧ Q (.str (i ++ j)) H
abbrev tRaise0 (C : Addr) (E : XK) : TS := fun _ _ H => E (.ref C) none H
abbrev rListOf (K : PySem.W.Frag) : List V → Hp → VK → Prop := fun xs H Q => ∃ p ys, xs = [.ref p] ∧ (SqL K H p ys ∨ SqT K H p ys) ∧ ∀ l, H l = none → Q (.ref l) (upd H l (.lst ys))
abbrev rTupOf (K : PySem.W.Frag) : List V → Hp → VK → Prop := fun xs H Q => ∃ p ys, xs = [.ref p] ∧ ((SqL K H p ys ∧ ∀ l, H l = none → Q (.ref l) (upd H l (.tup ys))) ∨ (SqT K H p ys ∧ Q (.ref p) H))
section
variable {T : Cfg} {W : WX} {s : S} {ρ : List (Option D)} {m0 : Mu} {XP : XW} {ta tb te : TE} {P : D → Mu → Prop} {μ : Mu} {K : Out → Prop}
theorem ov_addS {x y : Str} (h : x.length + y.length ≤ 100000) (p : P (.str (x ++ y)) μ) : OV T rAddS (.str x) (.str y) μ P := ov_of (fun a b Hb H Q ex rx ry q => by
  cases rx; cases ry
  exact ⟨x, y, rfl, rfl, Evl.sz_of h, q _ (.str _)⟩) p
theorem uv_neg {i : Int} (p : P (.int (-i)) μ) : UV T (rU fun i => .int (-i)) (.int i) μ P := fun x Hb H Q ex sm rx q => by
  cases rx
  exact ⟨i, rfl, q _ _ _ _ _ (.refl ex sm) (.int _) p⟩
theorem sv_raise0 {C : Addr} {E : XK} (hW : ∀ σ cls dd H, W cls dd σ H → E cls dd H) (k : K (.xr ⟨.ref C, none⟩ ⟨ρ, m0⟩)) : SV T (tRaise0 C E) W ⟨ρ, m0⟩ K := fun σ Hb H Dn S c =>
  hW σ _ _ _ (c.xr ⟨.ref C, none⟩ ⟨ρ, m0⟩ (.ref C) none σ Hb H S.refl S ⟨rfl, rfl⟩ k)
end
mutual
inductive DPy : D → PyData → Prop
  | non : DPy .non .none
  | bl (b : Bool) : DPy (.bl b) (.bool b)
  | int (i : Int) : DPy (.int i) (.int i)
  | str (x : Str) : DPy (.str x) (.str x)
  | lst {ds : List D} {ps : List PyData} : DPyL ds ps → DPy (.lst ds) (.list ps)
  | seq {ds : List D} {ps : List PyData} : DPyL ds ps → DPy (.seq ds) (.list ps)
  | tup {ds : List D} {ps : List PyData} : DPyL ds ps → DPy (.tup ds) (.tuple ps)
inductive DPyL : List D → List PyData → Prop
  | nil : DPyL [] []
  | cons {d : D} {p : PyData} {ds : List D} {ps : List PyData} : DPy d p → DPyL ds ps → DPyL (d :: ds) (p :: ps)
end
section
variable {T : Cfg} {Hb H : Hp}
mutual
theorem DPy.dp (ex : Ex Hb H) : ∀ (p : PyData) (d : D) (v : V), DPy d p → Rep T Hb d v → Dp T.K H v p
  | .none, _, _, h, r => by cases h; cases r; exact .non
  | .bool b, _, _, h, r => by cases h; cases r; exact .bl b
  | .int i, _, _, h, r => by cases h; cases r; exact .int i
  | .str x, _, _, h, r => by cases h; cases r; exact .str x
  | .list ps, _, _, h, r => by
    cases h with
    | lst hl =>
      obtain ⟨a, xs, rfl, ha, rl⟩ := r.lst_inv
      exact .lst (Evl.sq_of (ex _ _ ha)) (DPyL.dp ex ps _ xs hl rl)
    | seq hl =>
      obtain ⟨a, xs, rfl, ha, rl⟩ := r.seq_inv
      exact .lst (ex_l ex ha) (DPyL.dp ex ps _ xs hl rl)
  | .tuple ps, _, _, h, r => by
    cases h with
    | tup hl =>
      obtain ⟨a, xs, rfl, ha, rl⟩ := r.tup_inv
      exact .tup (ex_t ex ha) (DPyL.dp ex ps _ xs hl rl)
  | .dict _, _, _, h, _ => by cases h
theorem DPyL.dp (ex : Ex Hb H) : ∀ (ps : List PyData) (ds : List D) (vs : List V), DPyL ds ps → RepL T Hb ds vs → DpAll T.K H vs ps
  | [], _, _, h, r => by
    cases h
    obtain rfl := r.nil_inv
    exact .nil
  | p :: ps, _, _, h, r => by
    cases h with
    | cons h1 h2 =>
      obtain ⟨v, ys, rfl, r1, r2⟩ := r.cons_inv
      exact .cons (DPy.dp ex p _ v h1 r1) (DPyL.dp ex ps _ ys h2 r2)
end
variable {P : D → Mu → Prop} {μ : Mu}
theorem ov_eqD {d e : D} {p q : PyData} (hd : DPy d p) (he : DPy e q) (sd : SeqAt.shaped p = true) (se : SeqAt.shaped q = true) (k : P (.bl (PyData.eqv p q)) μ) : OV T (rEqD T.K) d e μ P := ov_of (fun x y Hb H Q ex rx ry w =>
  ⟨p, q, DPy.dp ex p d x hd rx, DPy.dp ex q e y he ry, sd, se, w _ (.bl _)⟩) k
theorem ov_neD {d e : D} {p q : PyData} (hd : DPy d p) (he : DPy e q) (sd : SeqAt.shaped p = true) (se : SeqAt.shaped q = true) (k : P (.bl (!PyData.eqv p q)) μ) : OV T (rNeD T.K) d e μ P := ov_of (fun x y Hb H Q ex rx ry w =>
  ⟨p, q, DPy.dp ex p d x hd rx, DPy.dp ex q e y he ry, sd, se, w _ (.bl _)⟩) k
theorem dpy2 {a b : Int} : DPy (.tup [.int a, .int b]) (.tuple [.int a, .int b]) := .tup (.cons (.int a) (.cons (.int b) .nil))
theorem eqv2 {a b c d : Int} : PyData.eqv (.tuple [.int a, .int b]) (.tuple [.int c, .int d]) = decide (a = c ∧ b = d) := by
  show (a == c && (b == d && true)) = _
  by_cases h1 : a = c
  · by_cases h2 : b = d
    · simp [h1, h2]
    · simp [h1, h2]
  · simp [h1]
theorem ov_eq2 {a b c d : Int} (k : P (.bl (decide (a = c ∧ b = d))) μ) : OV T (rEqD T.K) (.tup [.int a, .int b]) (.tup [.int c, .int d]) μ P := ov_eqD dpy2 dpy2 rfl rfl (by rw [eqv2]; exact k)
theorem ov_ne2 {a b c d : Int} (k : P (.bl (!decide (a = c ∧ b = d))) μ) : OV T (rNeD T.K) (.tup [.int a, .int b]) (.tup [.int c, .int d]) μ P := ov_neD dpy2 dpy2 rfl rfl (by rw [eqv2]; exact k)
end
def fdOf (K : PySem.W.Frag) (f : Addr) : FuncData := match K.lookup f with
  | some ⟨_, _, .func fd, _⟩ => fd
  | _ => PySem.W.fnOf "" "" ⟨[], [], none, [], [], none, []⟩ [] ⟨.function, [], false, false, []⟩ .none .none .none .none none .none .none
theorem fdOf_ok {K : PySem.W.Frag} {x qual : Str} {params : Arguments} {body : List Stmt} {scope : Scope} {dvs : List V} {kws : List (Str × V)} {f : Addr} (h : ∃ fd, FunD K x qual params body scope dvs kws f fd) : FunD K x qual params body scope dvs kws f (fdOf K f) := by
  obtain ⟨fd, F⟩ := h
  obtain ⟨oc, od, dV, kV, doc, pm, an, cdv, ct, osl, e, lk, _⟩ := F.ex
  have : fdOf K f = fd := by
    unfold fdOf
    rw [lk]
  rw [this]
  exact F
abbrev AlF : Type := He.AlD × Bool
def obsF (fa : List He.Fa) (fn : List He.DefD) (exs : List (PySem.W.Frag → Bool)) (K : PySem.W.Frag) : AlF := (He.obsD fa fn K, exs.all fun e => e K)
def valF (fn : List He.DefD) : AlF := (He.valD fn, true)
def SaysF (fa : List He.Fa) (fn : List He.DefD) (exs : List (PySem.W.Frag → Bool)) (K : PySem.W.Frag) : Prop := obsF fa fn exs K = valF fn
def obsFG (n : Nat) (fa : List He.Fa) (fn : List He.DefD) (exs : List (PySem.W.Frag → Bool)) (g : Addr → Option Obj) : AlF := obsF fa fn exs (He.frG g (He.asD g n))
def hookF (n : Nat) (fa : List He.Fa) (fn : List He.DefD) (exs : List (PySem.W.Frag → Bool)) : PySem.W.Hook where
  α := AlF
  obs := fun s => obsFG n fa fn exs s.heap.get?
  val := fun _ => valF fn
  says := fun _ h => ∃ K : PySem.W.Frag, K.In h ∧ SaysF fa fn exs K
  of := fun _ _ e => ⟨_, He.frG_in, e⟩
  keeps := fun _ _ _ ⟨K, hK, c⟩ k => ⟨K, PySem.W.Frag.In.keeps hK k, c⟩
theorem obsFG_eq {n : Nat} {fa : List He.Fa} {fn : List He.DefD} {exs : List (PySem.W.Frag → Bool)} {g : Addr → Option Obj} {s : Shared} (h : ∀ a, g a = s.heap.get? a) : obsFG n fa fn exs g = (hookF n fa fn exs).obs s := by
  have e : g = s.heap.get? := funext h
  rw [e] <;> rfl
section
variable {fa : List He.Fa} {fn : List He.DefD} {exs : List (PySem.W.Frag → Bool)} {K : PySem.W.Frag}
theorem SaysF.d (c : SaysF fa fn exs K) : He.SaysD fa fn K := congrArg (fun z : AlF => z.1) c
theorem SaysF.fact (c : SaysF fa fn exs K) (i : Nat) {f : He.Fa} (h : fa[i]? = some f) : f.ok K = true := c.d.fact i h
theorem SaysF.def_ (c : SaysF fa fn exs K) (i : Nat) {d : He.DefD} (h : fn[i]? = some d) : ∃ fd, FunD K d.name d.qual d.params d.body d.scope (d.dvs K) (d.kws K) (He.fAd K d.at_) fd := c.d.def_ i h
theorem SaysF.ex_ (c : SaysF fa fn exs K) (i : Nat) {e : PySem.W.Frag → Bool} (h : exs[i]? = some e) : e K = true := by
  have c1 : (exs.all fun e => e K) = true := congrArg (fun z : AlF => z.2) c
  exact List.all_eq_true.mp c1 e (List.mem_of_getElem? h)
end
def clsOf (K : PySem.W.Frag) : Nat → Addr := fun n => match n with
  | 0 => He.ga K "Share" | 1 => He.ga K "Machine" | 2 => He.ga K "Carrying" | 3 => He.ga K "Reading" | 4 => He.ga K "Kept" | 5 => He.ga K "House" | 6 => He.ga K "Desk" | _ => He.ga K "Going"
def cfgL (P : Program) (w : World) (mg : Str → Option Value) (base : PySem.Heap) (tbs : List (Addr × Str)) (K : PySem.W.Frag) : Cfg := ⟨K, clsOf K, P, w, mg, base, tbs⟩
def noW : World := ⟨fun _ _ => 0, { strHash := fun _ => 0, shareClass := fun _ => 0, mergeTok := id, idOf := fun _ => 0, idOfShared := fun _ _ => 0, followText := fun _ => false, idOfImm := fun _ => 0 }⟩
def cfg (K : PySem.W.Frag) : Cfg := cfgL default noW (fun _ => none) default [] K
section
variable {T : Cfg} {W : WX} {K : Out → Prop} {u : TS} {s' : S} {d : D} {m : Mu} {x : XD} {P : D → Mu → Prop} {XP : XW} {I : Nat → S → Prop} {i : Nat}
theorem seqK_nx (h : SV T u W s' K) : seqK T u W K (.nx s') := h
theorem seqK_rt (h : K (.rt d m)) : seqK T u W K (.rt d m) := h
theorem seqK_xr (h : K (.xr x s')) : seqK T u W K (.xr x s') := h
theorem seqK_ct (h : K (.ct s')) : seqK T u W K (.ct s') := h
theorem seqK_bk (h : K (.bk s')) : seqK T u W K (.bk s') := h
theorem whK_rt (h : K (.rt d m)) : whK I i K (.rt d m) := h
theorem whK_xr (h : K (.xr x s')) : whK I i K (.xr x s') := h
theorem whK_bk (h : K (.nx s')) : whK I i K (.bk s') := h
theorem forK_nx (h : I (i + 1) s') : forK I i K (.nx s') := h
theorem forK_ct (h : I (i + 1) s') : forK I i K (.ct s') := h
theorem forK_rt (h : K (.rt d m)) : forK I i K (.rt d m) := h
theorem forK_xr (h : K (.xr x s')) : forK I i K (.xr x s') := h
theorem forK_bk (h : K (.nx s')) : forK I i K (.bk s') := h
theorem fnK_rt (h : P d m) : fnK P XP (.rt d m) := h
theorem fnK_nx (h : P .non s'.m) : fnK P XP (.nx s') := h
theorem fnK_xr (h : XP x s'.m) : fnK P XP (.xr x s') := h
end
section
variable {T : Cfg} {W : WX} {ρ : List (Option D)} {m0 : Mu} {XP : XW} {P : D → Mu → Prop} {ta : TA} {E : XK}
theorem ev_cal0 {c : List D → (D → Prop) → (XD → Prop) → Prop} (h : EA T ta W ⟨ρ, m0⟩ (fun ds μ => c ds (fun d => P d μ) (fun _ => False)) XP) : EV T (tCall (spOf T (pu c)) [] E ta) W ⟨ρ, m0⟩ P XP :=
  ev_call0 (dds := []) (fun _ => RepL.nil) (by simpa using h)
theorem ev_calW {c : Nat → List D → (D → Nat → Prop) → Prop} (h : EA T ta W ⟨ρ, m0⟩ (fun ds μ => ∃ a b rest, ds = .ptr a :: rest ∧ μ a = some (.well b) ∧ c b rest (fun d b' => P d (put μ a (.well b')))) XP) : EV T (tCall (spOf T (wl c)) [] E ta) W ⟨ρ, m0⟩ P XP :=
  ev_callW (dds := []) (fun _ => RepL.nil) (by simpa using h)
theorem ev_mak0 {k : Nat} {c : List D → (List (Str × D) → Prop) → (XD → Prop) → Prop} (h : EA T ta W ⟨ρ, m0⟩ (fun ds μ => c ds (fun fs => P (.ins k fs) μ) (fun _ => False)) XP) : EV T (tMake (T.cls k) (spOf T (ini k c)) [] E ta) W ⟨ρ, m0⟩ P XP :=
  ev_make0 (dds := []) (fun _ => RepL.nil) (by simpa using h)
theorem ev_mak1 {k : Nat} {i : Int} {c : List D → (List (Str × D) → Prop) → (XD → Prop) → Prop} (h : EA T ta W ⟨ρ, m0⟩ (fun ds μ => c (ds ++ [.int i]) (fun fs => P (.ins k fs) μ) (fun _ => False)) XP) : EV T (tMake (T.cls k) (spOf T (ini k c)) [.int i] E ta) W ⟨ρ, m0⟩ P XP :=
  ev_make0 (dds := [.int i]) (fun _ => .cons (.int i) .nil) h
end
end Pw
namespace FM
theorem fdiv_exact {g k : Int} (hg : g ≠ 0) : (g * k).fdiv g = k := Int.mul_fdiv_cancel_left _ hg
theorem num_ok {i j : Int} (hj : j ≠ 0) : i.fdiv (((Nat.gcd i.natAbs j.natAbs : Nat) : Int) * (if 0 < j then 1 else -1)) = (Rat.divInt i j).num := by
  have hg : 0 < Nat.gcd i.natAbs j.natAbs := Nat.gcd_pos_of_pos_right _ (by omega)
  have e : j.gcd i = Nat.gcd i.natAbs j.natAbs := by rw [Int.gcd, Nat.gcd_comm]
  rw [Rat.num_divInt, e]
  obtain ⟨k, hk⟩ : ((Nat.gcd i.natAbs j.natAbs : Nat) : Int) ∣ i := by
    rw [← Int.natAbs_dvd_natAbs]; simpa using Nat.gcd_dvd_left i.natAbs j.natAbs
  generalize hgg : ((Nat.gcd i.natAbs j.natAbs : Nat) : Int) = g at *
  have g0 : g ≠ 0 := by omega
  by_cases h : 0 < j
  · rw [if_pos h, Int.mul_one, Int.sign_eq_one_of_pos h, Int.one_mul, hk, fdiv_exact g0, Int.mul_ediv_cancel_left _ g0]
  · have h' : j < 0 := by omega
    rw [if_neg h, Int.sign_eq_neg_one_of_neg h', hk]
    rw [show g * k = (g * -1) * (-k) by rw [Int.mul_assoc]; congr 1; omega, fdiv_exact (by omega)]
    rw [show -1 * ((g * -1) * (-k)) = g * (-k) by rw [Int.mul_assoc g, ← Int.mul_assoc, Int.mul_comm (-1) g, Int.mul_assoc]; congr 1; omega, Int.mul_ediv_cancel_left _ g0]
theorem den_ok {i j : Int} (hj : j ≠ 0) : j.fdiv (((Nat.gcd i.natAbs j.natAbs : Nat) : Int) * (if 0 < j then 1 else -1)) = ((Rat.divInt i j).den : Int) := by
  have hg : 0 < Nat.gcd i.natAbs j.natAbs := Nat.gcd_pos_of_pos_right _ (by omega)
  have e : j.gcd i = Nat.gcd i.natAbs j.natAbs := by rw [Int.gcd, Nat.gcd_comm]
  rw [Rat.den_divInt, e, if_neg hj]
  obtain ⟨k, hk⟩ : Nat.gcd i.natAbs j.natAbs ∣ j.natAbs := Nat.gcd_dvd_right i.natAbs j.natAbs
  generalize hgg : Nat.gcd i.natAbs j.natAbs = g at *
  rw [hk, Nat.mul_div_cancel_left _ hg]
  by_cases h : 0 < j
  · have hj2 : j = (g : Int) * (k : Int) := by rw [← Int.natCast_mul, ← hk]; omega
    rw [if_pos h, Int.mul_one, hj2, fdiv_exact (by omega)]
  · have hj2 : j = ((g : Int) * -1) * (k : Int) := by rw [Int.mul_assoc, Int.neg_one_mul, Int.mul_neg, ← Int.natCast_mul, ← hk]; omega
    rw [if_neg h]
    rw [show j.fdiv ((g : Int) * -1) = (((g : Int) * -1) * (k : Int)).fdiv ((g : Int) * -1) by rw [← hj2], fdiv_exact (by omega)]
theorem mk_add (p q : Rat) : Rat.divInt (p.num * q.den + q.num * p.den) (p.den * q.den) = p + q := by
  rw [Rat.add_def', ← Rat.divInt_ofNat]; simp
theorem mk_sub (p q : Rat) : Rat.divInt (p.num * q.den - q.num * p.den) (p.den * q.den) = p - q := by
  rw [Rat.sub_def', ← Rat.divInt_ofNat]; simp
theorem mk_mul (p q : Rat) : Rat.divInt (p.num * q.num) (p.den * q.den) = p * q := by
  rw [Rat.mul_def', ← Rat.divInt_ofNat]; simp
theorem mk_div (p q : Rat) : Rat.divInt (p.num * q.den) (p.den * q.num) = p / q := by
  rw [Rat.div_def, Rat.inv_def]
  conv => rhs; rw [← Rat.num_divInt_den p]
  rw [Rat.divInt_mul_divInt]
theorem mk_int (i : Int) : Rat.divInt i 1 = (i : Rat) := by
  rw [Rat.divInt_eq_div]; grind
theorem less_iff (p q : Rat) : p.num * q.den < q.num * p.den ↔ p < q := (Rat.lt_iff p q).symm
def Bq (n : Nat) (q : Rat) : Prop := q.num.natAbs < 2 ^ n ∧ q.den < 2 ^ n
theorem Bq.mono {n m : Nat} {q : Rat} (h : Bq n q) (k : n ≤ m) : Bq m q :=
  ⟨Nat.lt_of_lt_of_le h.1 (Nat.pow_le_pow_right (by decide) k), Nat.lt_of_lt_of_le h.2 (Nat.pow_le_pow_right (by decide) k)⟩
theorem bq_divInt {i j : Int} {n : Nat} (hi : i.natAbs < 2 ^ n) (hj : j.natAbs < 2 ^ n) (h0 : 0 < n) : Bq n (Rat.divInt i j) := by
  constructor
  · rw [Rat.num_divInt]
    refine Nat.lt_of_le_of_lt ?_ hi
    rw [Int.natAbs_ediv_of_dvd]
    · refine Nat.le_trans (Nat.div_le_self _ _) ?_
      rw [Int.natAbs_mul]
      have : j.sign.natAbs ≤ 1 := by
        rcases Int.lt_trichotomy j 0 with h | h | h
        · rw [Int.sign_eq_neg_one_of_neg h]; decide
        · rw [h]; decide
        · rw [Int.sign_eq_one_of_pos h]; decide
      calc j.sign.natAbs * i.natAbs ≤ 1 * i.natAbs := Nat.mul_le_mul_right _ this
        _ = i.natAbs := Nat.one_mul _
    · exact Int.dvd_mul_of_dvd_right (Int.gcd_dvd_right ..)
  · rw [Rat.den_divInt]
    split
    · exact Nat.one_lt_two_pow (by omega)
    · exact Nat.lt_of_le_of_lt (Nat.div_le_self _ _) hj
theorem natAbs_mul_lt {a b : Int} {n m : Nat} (h : a.natAbs < 2 ^ n) (k : b.natAbs < 2 ^ m) : (a * b).natAbs < 2 ^ (n + m) := by
  rw [Int.natAbs_mul, Nat.pow_add]
  exact Nat.mul_lt_mul'' h k
theorem natAbs_add_lt {a b : Int} {n : Nat} (h : a.natAbs < 2 ^ n) (k : b.natAbs < 2 ^ n) : (a + b).natAbs < 2 ^ (n + 1) := by
  rw [Nat.pow_succ]; omega
theorem natAbs_sub_lt {a b : Int} {n : Nat} (h : a.natAbs < 2 ^ n) (k : b.natAbs < 2 ^ n) : (a - b).natAbs < 2 ^ (n + 1) := by
  rw [Nat.pow_succ]; omega
theorem up {a n m : Nat} (h : a < 2 ^ n) (k : n ≤ m) : a < 2 ^ m := Nat.lt_of_lt_of_le h (Nat.pow_le_pow_right (by decide) k)
theorem Bq.add {n m : Nat} {p q : Rat} (h : Bq n p) (k : Bq m q) : Bq (n + m + 1) (p + q) := by
  rw [← mk_add]
  refine bq_divInt ?_ ?_ (by omega)
  · refine natAbs_add_lt (natAbs_mul_lt h.1 (by simpa using k.2)) ?_
    rw [Nat.add_comm]
    exact natAbs_mul_lt k.1 (by simpa using h.2)
  · exact up (natAbs_mul_lt (by simpa using h.2) (by simpa using k.2)) (by omega)
theorem Bq.sub {n m : Nat} {p q : Rat} (h : Bq n p) (k : Bq m q) : Bq (n + m + 1) (p - q) := by
  rw [← mk_sub]
  refine bq_divInt ?_ ?_ (by omega)
  · refine natAbs_sub_lt (natAbs_mul_lt h.1 (by simpa using k.2)) ?_
    rw [Nat.add_comm]
    exact natAbs_mul_lt k.1 (by simpa using h.2)
  · exact up (natAbs_mul_lt (by simpa using h.2) (by simpa using k.2)) (by omega)
theorem Bq.mul {n m : Nat} {p q : Rat} (h : Bq n p) (k : Bq m q) (h0 : 0 < n + m) : Bq (n + m) (p * q) := by
  rw [← mk_mul]
  refine bq_divInt (natAbs_mul_lt h.1 k.1) (natAbs_mul_lt (by simpa using h.2) (by simpa using k.2)) h0
theorem Bq.div {n m : Nat} {p q : Rat} (h : Bq n p) (k : Bq m q) (h0 : 0 < n + m) : Bq (n + m) (p / q) := by
  rw [← mk_div]
  refine bq_divInt (natAbs_mul_lt h.1 (by simpa using k.2)) (natAbs_mul_lt (by simpa using h.2) k.1) h0
end FM
namespace Far
open PySem PySem.Spec PyProof.Rows L2 Pw
def shF (q : Rat) : List (Str × D) := [("top", .int q.num), ("bottom", .int (q.den : Int))]
def shD (q : Rat) : D := .ins 0 (shF q)
def tagOf : D → String
  | .non => "NoneType"
  | .int _ => "int"
  | .bl _ => "bool"
  | .str _ => "str"
  | .lst _ => "list"
  | .tup _ => "tuple"
  | .dic _ => "dict"
  | _ => ""
def kk (a n : String) : Bool := n == a || (a == "bool" && n == "int")
def kindOf (d : D) (n : String) : Bool := kk (tagOf d) n
def isSh : D → Bool
  | .ins 0 _ => true
  | _ => false
def tys : List String := ["int", "bool", "str", "list", "tuple", "dict"]
structure Thing (T : Cfg) (d : D) (t : Value) : Prop where
  ty : TyD T d t
  kd : ∀ n ∈ tys, PySem.W.kitOne T.K t (.type n) = some (kindOf d n)
  sh : PySem.W.kitOne T.K t (.ref (T.cls 0)) = some (isSh d)
  nf : PySem.W.notFirst T.K (T.cls 0) t = true
structure ShOk (T : Cfg) : Prop where
  cl : Cls T.K (T.cls 0)
  nt : NoAttr T.K (T.cls 0) "top"
  nb : NoAttr T.K (T.cls 0) "bottom"
  ic : InsCls T.K (T.cls 0)
  kb : ∀ n ∈ ["NoneType", "int", "bool", "str", "list", "tuple", "dict"], PySem.W.subIn T.K (.type n) (.ref (T.cls 0)) = some false ∧ PySem.W.kitOne T.K (.type n) (.ref (T.cls 0)) = some false
  ko : ∀ n ∈ tys, PySem.W.kitOne T.K (.ref (T.cls 0)) (.type n) = some false
def tags : List String := ["NoneType", "int", "bool", "str", "list", "tuple", "dict"]
theorem kit_tab : ∀ a ∈ tags, ∀ n ∈ tys, kitB a n = some (kk a n) := by decide +kernel
section
variable {T : Cfg}
theorem nf_of {n : String} (h : PySem.W.subIn T.K (.type n) (.ref (T.cls 0)) = some false) : PySem.W.notFirst T.K (T.cls 0) (.type n) = true := by
  unfold PySem.W.notFirst
  rw [h]
  simp
theorem th_int (h : ShOk T) (i : Int) : Thing T (.int i) (.type "int") := ⟨.int i, fun n hn => kit_ty (kit_tab _ (by simp [tags]) n hn), (h.kb "int" (by simp)).2, nf_of (h.kb "int" (by simp)).1⟩
theorem th_str (h : ShOk T) (x : Str) : Thing T (.str x) (.type "str") := ⟨.str x, fun n hn => kit_ty (kit_tab _ (by simp [tags]) n hn), (h.kb "str" (by simp)).2, nf_of (h.kb "str" (by simp)).1⟩
theorem th_lst (h : ShOk T) (ds : List D) : Thing T (.lst ds) (.type "list") := ⟨.lst ds, fun n hn => kit_ty (kit_tab _ (by simp [tags]) n hn), (h.kb "list" (by simp)).2, nf_of (h.kb "list" (by simp)).1⟩
theorem th_tup (h : ShOk T) (ds : List D) : Thing T (.tup ds) (.type "tuple") := ⟨.tup ds, fun n hn => kit_ty (kit_tab _ (by simp [tags]) n hn), (h.kb "tuple" (by simp)).2, nf_of (h.kb "tuple" (by simp)).1⟩
theorem kit_self {K : PySem.W.Frag} {C : Addr} : PySem.W.kitOne K (.ref C) (.ref C) = some true := by
  unfold PySem.W.kitOne
  rw [if_pos (by simp)]
theorem th_sh (h : ShOk T) (q : Rat) : Thing T (shD q) (.ref (T.cls 0)) := ⟨.ins h.ic, fun n hn => by
  rw [h.ko n hn]
  simp only [tys, List.mem_cons, List.not_mem_nil, or_false] at hn
  rcases hn with rfl | rfl | rfl | rfl | rfl | rfl <;> rfl, kit_self, by unfold PySem.W.notFirst; simp⟩
end
end Far
local macro_rules | `(tactic| walk_at "qw") => `(tactic| first
  | (with_reducible refine Pw.ev_op ?_)
  | ((with_reducible refine Pw.ev_var (d := ?d) ?h ?_); (case h => rfl))
  | (with_reducible refine Pw.ev_int ?_)
  | (with_reducible refine Pw.ev_bl ?_)
  | (with_reducible refine Pw.ev_str ?_)
  | (with_reducible refine Pw.ev_non ?_)
  | (with_reducible refine Pw.ev_ty ?_)
  | (with_reducible refine Pw.ev_ref ?_)
  | (with_reducible refine Pw.ev_cb ?_)
  | (with_reducible refine Pw.ev_un ?_)
  | (with_reducible refine Pw.ea_cons ?_)
  | (with_reducible refine Pw.ea_nil ?_)
  | (with_reducible refine Pw.ev_cal0 ?_)
  | (with_reducible refine Pw.ev_calW ?_)
  | (with_reducible refine Pw.ev_mak0 ?_)
  | (with_reducible refine Pw.ev_mak1 ?_)
  | (with_reducible refine Pw.ev_if ?_)
  | (with_reducible refine Pw.ev_and ?_)
  | (with_reducible refine Pw.ev_or ?_)
  | (with_reducible refine Pw.ev_not ?_)
  | (with_reducible refine Pw.tv_test ?_)
  | (with_reducible refine Pw.tv_B ?_)
  | (with_reducible refine Pw.tv_and ?_)
  | (with_reducible refine Pw.tv_or ?_)
  | (with_reducible refine Pw.tv_not ?_)
  | (with_reducible refine Pw.tv_yes ?_)
  | (with_reducible refine Pw.po_no ?_)
  | (with_reducible refine Pw.po_so ?_)
  | (with_reducible refine Pw.sv_seq ?_)
  | (with_reducible refine Pw.sv_asg ?_)
  | (with_reducible refine Pw.sv_ret ?_)
  | (with_reducible refine Pw.sv_if ?_)
  | (with_reducible refine Pw.sv_par ?_)
  | (with_reducible refine Pw.sv_next ?_)
  | (with_reducible refine Pw.sv_drop ?_)
  | (with_reducible refine Pw.sv_fld ?_)
  | (with_reducible refine Pw.ov_add ?_)
  | (with_reducible refine Pw.ov_sub ?_)
  | (with_reducible refine Pw.ov_lt ?_)
  | (with_reducible refine Pw.ov_le ?_)
  | (with_reducible refine Pw.ov_gt ?_)
  | (with_reducible refine Pw.ov_ge ?_)
  | (with_reducible refine Pw.ov_eqI ?_)
  | (with_reducible refine Pw.ov_neI ?_)
  | (with_reducible refine Pw.ov_eqS ?_)
  | (with_reducible refine Pw.ov_neS ?_)
  | (with_reducible refine Pw.ov_eqB ?_)
  | (with_reducible refine Pw.ov_neB ?_)
  | (with_reducible refine Pw.cv_abs ?_)
  | (with_reducible refine Pw.cv_intB ?_)
  | (with_reducible refine Pw.uv_neg ?_)
  | (with_reducible refine Pw.seqK_nx ?_)
  | (with_reducible refine Pw.seqK_rt ?_)
  | (with_reducible refine Pw.seqK_xr ?_)
  | (with_reducible refine Pw.seqK_ct ?_)
  | (with_reducible refine Pw.seqK_bk ?_)
  | (with_reducible refine Pw.whK_rt ?_)
  | (with_reducible refine Pw.whK_xr ?_)
  | (with_reducible refine Pw.whK_bk ?_)
  | (with_reducible refine Pw.forK_nx ?_)
  | (with_reducible refine Pw.forK_ct ?_)
  | (with_reducible refine Pw.forK_rt ?_)
  | (with_reducible refine Pw.forK_xr ?_)
  | (with_reducible refine Pw.forK_bk ?_)
  | (with_reducible refine Pw.fnK_rt ?_)
  | (with_reducible refine Pw.fnK_nx ?_)
  | (with_reducible refine Pw.fnK_xr ?_))
local macro_rules | `(tactic| walk_at "qws") => `(tactic| repeat (walk_at "qw"))
namespace Far
open PySem PySem.Spec PyProof.Rows L2 Pw
abbrev PC := List D → (D → Prop) → (XD → Prop) → Prop
def isInt : D → Bool
  | .int _ => true
  | _ => false
def c_is_whole (T : Cfg) : PC := fun ds P _ => ∃ d t, ds = [d] ∧ Thing T d t ∧ P (.bl (isInt d))
def c_common (T : Cfg) : PC := fun ds P _ => ∃ a b : Nat, ds = [.int a, .int b] ∧ P (.int (Nat.gcd a b : Nat))
theorem len_is_whole {T : Cfg} : ∀ ds μ P XP, pu (c_is_whole T) ds μ P XP → ds.length = 1 := by
  rintro ds μ P XP ⟨rfl, Pf, Xf, ⟨d, t, rfl, _⟩, _⟩
  rfl
theorem len_common {T : Cfg} : ∀ ds μ P XP, pu (c_common T) ds μ P XP → ds.length = 2 := by
  rintro ds μ P XP ⟨rfl, Pf, Xf, ⟨a, b, rfl, _⟩, _⟩
  rfl
def t_is_whole (T : Cfg) (E : XK) : TS := (tRet (tAndV (tCB (rIsi T.K) (tCons (tVar 0) (tCons (tC (.ty "int")) tNil))) (tNotV (tCB (rIsi T.K) (tCons (tVar 0) (tCons (tC (.ty "bool")) tNil))))))
def t_common (T : Cfg) (E : XK) : TS := (tSeq (tWhile (tTest (tOp rNe (tVar 1) (tC (.int 0)))) (tPar 0 1 (tCons (tVar 1) (tCons (tOp (rI (fun _ j => j ≠ 0) fun i j => .int (i.fmod j)) (tVar 0) (tVar 1)) tNil))))
    (tRet (tVar 0)))
theorem int_kind {d : D} {T : Cfg} {t : Value} (h : Thing T d t) : (kindOf d "int" && !kindOf d "bool") = isInt d := by
  cases h.ty <;> rfl
theorem pure_is_whole {T : Cfg} (hT : ShOk T) : ∀ E ds μ P XP, pu (c_is_whole T) ds μ P XP → SV T (t_is_whole T E) (fun cls dd _ H => E cls dd H) ⟨slots 1 ds, μ⟩ (fnK P XP) := Hd.o (by
 simp (disch :=
 with_unfolding_all
 exact by
  rintro E ds μ P XP ⟨rfl, Pf, Xf, ⟨d, t, rfl, hd, p⟩, hP, hX⟩
  unfold t_is_whole
  have e := int_kind hd
  repeat walk_at "qw"
  refine cv_isiT hd.ty (hd.kd "int" (by decide)) ⟨_, rfl, fun h1 => ?_, fun h1 => ?_⟩
  · repeat walk_at "qw"
    refine cv_isiT hd.ty (hd.kd "bool" (by decide)) ⟨_, rfl, ?_⟩
    rw [h1, Bool.true_and] at e
    rw [e]
    exact hP _ p
  · rw [h1, Bool.false_and] at e
    rw [e]
    exact hP _ p
 ) only [↓hE])
theorem pure_common {T : Cfg} (hT : ShOk T) : ∀ E ds μ P XP, pu (c_common T) ds μ P XP → SV T (t_common T E) (fun cls dd _ H => E cls dd H) ⟨slots 2 ds, μ⟩ (fnK P XP) := Hd.o (by
 simp (disch :=
 with_unfolding_all
 exact by
  rintro E ds μ P XP ⟨rfl, Pf, Xf, ⟨a, b, rfl, p⟩, hP, hX⟩
  unfold t_common
  walk_at "qw"
  refine sv_while (fun n s => ∃ x : Nat, s = ⟨[some (.int x), some (.int n)], mu0⟩ ∧ Nat.gcd x n = Nat.gcd a b) b ⟨a, rfl, rfl⟩ ?_
  rintro n s ⟨x, rfl, hg⟩
  repeat walk_at "qw"
  refine ⟨_, rfl, fun h1 => ?_, fun h1 => ?_⟩
  · repeat walk_at "qw"
    have hn : n ≠ 0 := by
      intro z; subst z; simp at h1
    refine ov_mod (by omega) ?_
    repeat walk_at "qw"
    refine ⟨_, _, rfl, x % n, Nat.mod_lt _ (by omega), n, ?_, ?_⟩
    · have : (x : Int).fmod (n : Int) = ((x % n : Nat) : Int) := by
        rw [Int.fmod_eq_emod_of_nonneg _ (by omega)]; rfl
      rw [this]
      rfl
    · rw [← hg, Nat.gcd_comm x n, Nat.gcd_rec n x, Nat.gcd_comm]
  · have hn : n = 0 := by
      simp at h1; omega
    subst hn
    rw [Nat.gcd_zero_right] at hg
    rw [hg]
    walk_at "qws"
    exact hP _ p
 ) only [↓hE])
def c_Share___init__ (T : Cfg) : List D → (List (Str × D) → Prop) → (XD → Prop) → Prop := fun ds P X => ∃ d e t u, ds = [d, e] ∧ Thing T d t ∧ Thing T e u ∧
  ((∃ i j : Int, d = .int i ∧ e = .int j ∧ j ≠ 0 ∧ Bt 9000 j ∧ P (shF (Rat.divInt i j))) ∨ ((isInt d = false ∨ isInt e = false ∨ e = .int 0) ∧ X ⟨.ref (He.ga T.K "NoShare"), none⟩))
theorem len_Share___init__ {T : Cfg} : ∀ ds μ P XP, ini 0 (c_Share___init__ T) ds μ P XP → ds.length = 3 := by
  rintro ds μ P XP ⟨a, rest, rfl, rfl, Pf, Xf, ⟨d, e, t, u, rfl, _⟩, _⟩
  rfl
def t_Share___init__ (T : Cfg) (E : XK) : TS := (tSeq (tIfS (tOr (tNot (tB (tCall (spOf T (pu (c_is_whole T))) [] E0 (tCons (tVar 1) tNil)))) (tOr (tNot (tB (tCall (spOf T (pu (c_is_whole T))) [] E0 (tCons (tVar 2) tNil)))) (tTest (tOp rEq (tVar 2) (tC (.int 0)))))) (tRaise0 (He.ga T.K "NoShare") E) tNext)
    (tSeq (tAsg (tOp (rI IntMulOk fun i j => .int (i * j)) (tCall (spOf T (pu (c_common T))) [] E0 (tCons (tCB rAbs (tCons (tVar 1) tNil)) (tCons (tCB rAbs (tCons (tVar 2) tNil)) tNil))) (tIf (tTest (tOp (rI0 fun i j => .bl (decide (j < i))) (tVar 2) (tC (.int 0)))) (tC (.int 1)) (tUn (rU fun i => .int (-i)) (tC (.int 1))))) (gName 3))
    (tSeq (sFld T.K (tVar 0) (tOp (rI CFd fun i j => .int (i.fdiv j)) (tVar 1) (tVar 3)) "top")
    (sFld T.K (tVar 0) (tOp (rI CFd fun i j => .int (i.fdiv j)) (tVar 2) (tVar 3)) "bottom"))))
theorem gcd_log {i j : Int} (h : Bt 9000 j) (hj : j ≠ 0) : (((Nat.gcd i.natAbs j.natAbs : Nat) : Int) * (if 0 < j then 1 else -1)).natAbs.log2 < 9000 := by
  have h1 : Nat.gcd i.natAbs j.natAbs ≤ j.natAbs := Nat.le_of_dvd (by omega) (Nat.gcd_dvd_right ..)
  have h2 : (((Nat.gcd i.natAbs j.natAbs : Nat) : Int) * (if 0 < j then 1 else -1)).natAbs = Nat.gcd i.natAbs j.natAbs := by split <;> simp
  rw [h2]
  exact PySem.Flt.log2_lt_of (by decide) (Nat.lt_of_le_of_lt h1 h)
theorem by_ne {i j : Int} (hj : j ≠ 0) : ((Nat.gcd i.natAbs j.natAbs : Nat) : Int) * (if 0 < j then 1 else -1) ≠ 0 := by
  have h : 0 < Nat.gcd i.natAbs j.natAbs := Nat.gcd_pos_of_pos_right _ (by omega)
  split <;> omega
theorem pure_Share___init__ {T : Cfg} (hT : ShOk T) : ∀ E ds μ P XP, ini 0 (c_Share___init__ T) ds μ P XP → SV T (t_Share___init__ T E) (fun cls dd _ H => E cls dd H) ⟨slots 4 ds, μ⟩ (fnK P XP) := Hd.o (by
 simp (disch :=
 with_unfolding_all
 exact by
  rintro E ds μ P XP ⟨a, rest, rfl, rfl, Pf, Xf, ⟨d, e, t, u, rfl, hd, he, h⟩, hP, hX⟩
  unfold t_Share___init__
  have bad : (isInt d = false ∨ isInt e = false ∨ e = .int 0) → Xf ⟨.ref (He.ga T.K "NoShare"), none⟩ := fun hb => by
    rcases h with ⟨i, j, rfl, rfl, hj, _⟩ | ⟨_, hx⟩
    · rcases hb with hb | hb | hb
      · cases hb
      · cases hb
      · cases hb; exact absurd rfl hj
    · exact hx
  walk_at "qws"
  refine ⟨d, t, rfl, hd, _, rfl, fun h1 => ?_, fun h1 => ⟨fun _ => ?_, fun z => by cases z⟩⟩
  · have hd1 : isInt d = true := by simpa using h1
    obtain ⟨i, rfl⟩ : ∃ i, d = .int i := by cases d <;> first | exact ⟨_, rfl⟩ | cases hd1
    walk_at "qws"
    refine ⟨e, u, rfl, he, _, rfl, fun h2 => ?_, fun h2 => ⟨fun _ => ?_, fun z => by cases z⟩⟩
    · have he1 : isInt e = true := by simpa using h2
      obtain ⟨j, rfl⟩ : ∃ j, e = .int j := by cases e <;> first | exact ⟨_, rfl⟩ | cases he1
      walk_at "qws"
      refine ⟨_, rfl, fun h3 => ?_, fun h3 => ?_⟩
      · have hj : j = 0 := by simpa using h3
        subst hj
        refine sv_raise0 (fun _ _ _ _ z => z) ?_
        exact hX _ _ (bad (.inr (.inr rfl)))
      · have hj : j ≠ 0 := by simpa using h3
        obtain ⟨hb, hp⟩ : Bt 9000 j ∧ Pf (shF (Rat.divInt i j)) := by
          rcases h with ⟨i', j', e1, e2, _, hb, hp⟩ | ⟨h, _⟩
          · cases e1; cases e2; exact ⟨hb, hp⟩
          · rcases h with h | h | h
            · cases h
            · cases h
            · cases h; exact absurd rfl hj
        walk_at "qws"
        refine ⟨_, _, rfl, ?_⟩
        walk_at "qws"
        refine ⟨_, rfl, fun h4 => ?_, fun h4 => ?_⟩
        all_goals
          walk_at "qws"
          refine ov_mul (IntMulOk.of_right (by decide)) ?_
          walk_at "qws"
        · have ej : (if 0 < j then (1 : Int) else -1) = 1 := if_pos (by simpa using h4)
          have h5 := by_ne (i := i) hj
          have h6 := gcd_log (i := i) hb hj
          have e1 := FM.num_ok (i := i) hj
          have e2 := FM.den_ok (i := i) hj
          rw [ej] at h5 h6 e1 e2
          refine ov_fdiv ⟨h5, h6⟩ ?_
          walk_at "qws"
          refine ⟨a, 0, [], rfl, put_same, hT.cl, hT.nt, by decide, ?_⟩
          rw [put_put]
          walk_at "qws"
          refine ov_fdiv ⟨h5, h6⟩ ?_
          walk_at "qws"
          refine ⟨a, 0, _, rfl, put_same, hT.cl, hT.nb, (by show 1 < 1000; decide), ?_⟩
          rw [put_put, e1, e2]
          exact hP _ hp
        · have ej : (if 0 < j then (1 : Int) else -1) = -1 := if_neg (by simpa using h4)
          have h5 := by_ne (i := i) hj
          have h6 := gcd_log (i := i) hb hj
          have e1 := FM.num_ok (i := i) hj
          have e2 := FM.den_ok (i := i) hj
          rw [ej] at h5 h6 e1 e2
          refine ov_fdiv ⟨h5, h6⟩ ?_
          walk_at "qws"
          refine ⟨a, 0, [], rfl, put_same, hT.cl, hT.nt, by decide, ?_⟩
          rw [put_put]
          walk_at "qws"
          refine ov_fdiv ⟨h5, h6⟩ ?_
          walk_at "qws"
          refine ⟨a, 0, _, rfl, put_same, hT.cl, hT.nb, (by show 1 < 1000; decide), ?_⟩
          rw [put_put, e1, e2]
          exact hP _ hp
    · refine sv_raise0 (fun _ _ _ _ z => z) ?_
      exact hX _ _ (bad (.inr (.inl (by simpa using h2))))
  · refine sv_raise0 (fun _ _ _ _ z => z) ?_
    exact hX _ _ (bad (.inl (by simpa using h1)))
 ) only [↓hE])
theorem look_bot (q : Rat) : (shF q).lookup ("bottom" : Str) = some (D.int (q.den : Int)) := by
  unfold shF
  rw [List.lookup_cons]
  have h : (("bottom" : Str) == "top") = false := by decide +kernel
  rw [h]
  simp [List.lookup]
section
variable {T : Cfg} {W : WX} {ρ : List (Option D)} {m0 : Mu} {XP : XW} {P : D → Mu → Prop} {ta : TE}
theorem ev_top (hT : ShOk T) (h : EV T ta W ⟨ρ, m0⟩ (fun d μ => ∃ q, d = shD q ∧ P (.int q.num) μ) XP) : EV T (tFld T.K ta "top") W ⟨ρ, m0⟩ P XP :=
  ev_fld (h.imp fun d μ ⟨q, e, p⟩ => ⟨0, shF q, .int q.num, e, hT.cl, hT.nt, rfl, p⟩)
theorem ev_bot (hT : ShOk T) (h : EV T ta W ⟨ρ, m0⟩ (fun d μ => ∃ q, d = shD q ∧ P (.int (q.den : Int)) μ) XP) : EV T (tFld T.K ta "bottom") W ⟨ρ, m0⟩ P XP :=
  ev_fld (h.imp fun d μ ⟨q, e, p⟩ => ⟨0, shF q, .int (q.den : Int), e, hT.cl, hT.nb, look_bot q, p⟩)
end
open FM (Bq)
theorem _root_.FM.Bq.bn {n : Nat} {q : Rat} (h : Bq n q) : Bt n q.num := h.1
theorem _root_.FM.Bq.bd {n : Nat} {q : Rat} (h : Bq n q) : Bt n (q.den : Int) := by
  show ((q.den : Int)).natAbs < 2 ^ n
  simpa using h.2
theorem den_ne (q : Rat) : (q.den : Int) ≠ 0 := by have := q.den_nz; omega
theorem i_init {T : Cfg} (hT : ShOk T) {i j : Int} {P : List (Str × D) → Prop} {X : XD → Prop} (hj : j ≠ 0) (hb : Bt 9000 j) (p : P (shF (Rat.divInt i j))) : c_Share___init__ T [.int i, .int j] P X :=
  ⟨.int i, .int j, _, _, rfl, th_int hT i, th_int hT j, .inl ⟨i, j, rfl, rfl, hj, hb, p⟩⟩
theorem i_int {T : Cfg} (hT : ShOk T) {i : Int} {P : List (Str × D) → Prop} {X : XD → Prop} (p : P (shF (i : Rat))) : c_Share___init__ T [.int i, .int 1] P X :=
  i_init hT (by decide) (Nat.one_lt_two_pow (n := 9000) (by decide)) (by rw [FM.mk_int]; exact p)
def c_Share___eq__ (T : Cfg) : PC := fun ds P _ => ∃ q d t, ds = [shD q, d] ∧ Thing T d t ∧ ((∃ p, d = shD p ∧ P (.bl (decide (q = p)))) ∨ (isSh d = false ∧ P (.bl false)))
theorem rat_eq {p q : Rat} : decide (p.num = q.num ∧ (p.den : Int) = (q.den : Int)) = decide (p = q) := by
  rw [decide_eq_decide]
  constructor
  · rintro ⟨h1, h2⟩
    exact Rat.ext h1 (by omega)
  · rintro rfl
    exact ⟨rfl, rfl⟩
def c_plus (T : Cfg) : PC := fun ds P _ => ∃ p q n m, ds = [shD p, shD q] ∧ Bq n p ∧ Bq m q ∧ n + m ≤ 9000 ∧ P (shD (p + q))
def c_minus (T : Cfg) : PC := fun ds P _ => ∃ p q n m, ds = [shD p, shD q] ∧ Bq n p ∧ Bq m q ∧ n + m ≤ 9000 ∧ P (shD (p - q))
def c_times (T : Cfg) : PC := fun ds P _ => ∃ p q n m, ds = [shD p, shD q] ∧ Bq n p ∧ Bq m q ∧ n + m ≤ 9000 ∧ P (shD (p * q))
def c_less (T : Cfg) : PC := fun ds P _ => ∃ p q n m, ds = [shD p, shD q] ∧ Bq n p ∧ Bq m q ∧ n + m ≤ 9000 ∧ P (.bl (decide (p < q)))
theorem len_minus {T : Cfg} : ∀ ds μ P XP, pu (c_minus T) ds μ P XP → ds.length = 2 := by
  rintro ds μ P XP ⟨rfl, Pf, Xf, ⟨p, q, n, m, rfl, _⟩, _⟩; rfl
theorem len_times {T : Cfg} : ∀ ds μ P XP, pu (c_times T) ds μ P XP → ds.length = 2 := by
  rintro ds μ P XP ⟨rfl, Pf, Xf, ⟨p, q, n, m, rfl, _⟩, _⟩; rfl
theorem len_less {T : Cfg} : ∀ ds μ P XP, pu (c_less T) ds μ P XP → ds.length = 2 := by
  rintro ds μ P XP ⟨rfl, Pf, Xf, ⟨p, q, n, m, rfl, _⟩, _⟩; rfl
def t_minus (T : Cfg) (E : XK) : TS := (tRet (tMake (T.cls 0) (spOf T (ini 0 (c_Share___init__ T))) [] E0 (tCons (tOp (rI0 fun i j => .int (i - j)) (tOp (rI IntMulOk fun i j => .int (i * j)) (tFld T.K (tVar 0) "top") (tFld T.K (tVar 1) "bottom")) (tOp (rI IntMulOk fun i j => .int (i * j)) (tFld T.K (tVar 1) "top") (tFld T.K (tVar 0) "bottom"))) (tCons (tOp (rI IntMulOk fun i j => .int (i * j)) (tFld T.K (tVar 0) "bottom") (tFld T.K (tVar 1) "bottom")) tNil))))
def t_times (T : Cfg) (E : XK) : TS := (tRet (tMake (T.cls 0) (spOf T (ini 0 (c_Share___init__ T))) [] E0 (tCons (tOp (rI IntMulOk fun i j => .int (i * j)) (tFld T.K (tVar 0) "top") (tFld T.K (tVar 1) "top")) (tCons (tOp (rI IntMulOk fun i j => .int (i * j)) (tFld T.K (tVar 0) "bottom") (tFld T.K (tVar 1) "bottom")) tNil))))
def t_less (T : Cfg) (E : XK) : TS := (tRet (tOp (rI0 fun i j => .bl (decide (i < j))) (tOp (rI IntMulOk fun i j => .int (i * j)) (tFld T.K (tVar 0) "top") (tFld T.K (tVar 1) "bottom")) (tOp (rI IntMulOk fun i j => .int (i * j)) (tFld T.K (tVar 1) "top") (tFld T.K (tVar 0) "bottom"))))
section
variable {T : Cfg} {W : WX} {ρ : List (Option D)} {m0 : Mu} {XP : XW} {P : D → Mu → Prop} {i j : Nat} {p q : Rat} {n m : Nat}
theorem ev_td (hT : ShOk T) (hp : ρ[i]? = some (some (shD p))) (hq : ρ[j]? = some (some (shD q))) (b1 : Bq n p) (b2 : Bq m q) (hs : n + m ≤ 9000) (k : P (.int (p.num * q.den)) m0) :
    EV T (tOp (rI IntMulOk fun i j => .int (i * j)) (tFld T.K (tVar i) "top") (tFld T.K (tVar j) "bottom")) W ⟨ρ, m0⟩ P XP :=
  ev_op (ev_top hT (ev_var hp ⟨p, rfl, ev_bot hT (ev_var hq ⟨q, rfl, ov_mul (Bt.ok (Bq.bn b1) (Bq.bd b2) (by omega)) k⟩)⟩))
theorem ev_tt (hT : ShOk T) (hp : ρ[i]? = some (some (shD p))) (hq : ρ[j]? = some (some (shD q))) (b1 : Bq n p) (b2 : Bq m q) (hs : n + m ≤ 9000) (k : P (.int (p.num * q.num)) m0) :
    EV T (tOp (rI IntMulOk fun i j => .int (i * j)) (tFld T.K (tVar i) "top") (tFld T.K (tVar j) "top")) W ⟨ρ, m0⟩ P XP :=
  ev_op (ev_top hT (ev_var hp ⟨p, rfl, ev_top hT (ev_var hq ⟨q, rfl, ov_mul (Bt.ok (Bq.bn b1) (Bq.bn b2) (by omega)) k⟩)⟩))
theorem ev_dd (hT : ShOk T) (hp : ρ[i]? = some (some (shD p))) (hq : ρ[j]? = some (some (shD q))) (b1 : Bq n p) (b2 : Bq m q) (hs : n + m ≤ 9000) (k : P (.int (p.den * q.den)) m0) :
    EV T (tOp (rI IntMulOk fun i j => .int (i * j)) (tFld T.K (tVar i) "bottom") (tFld T.K (tVar j) "bottom")) W ⟨ρ, m0⟩ P XP :=
  ev_op (ev_bot hT (ev_var hp ⟨p, rfl, ev_bot hT (ev_var hq ⟨q, rfl, ov_mul (Bt.ok (Bq.bd b1) (Bq.bd b2) (by omega)) k⟩)⟩))
end
theorem dd_ne (p q : Rat) : (p.den : Int) * (q.den : Int) ≠ 0 := Int.mul_ne_zero (den_ne p) (den_ne q)
theorem dd_bt {p q : Rat} {n m : Nat} (b1 : Bq n p) (b2 : Bq m q) (hs : n + m ≤ 9000) : Bt 9000 ((p.den : Int) * (q.den : Int)) := ((Bq.bd b1).mul (Bq.bd b2)).mono hs
theorem pure_minus {T : Cfg} (hT : ShOk T) : ∀ E ds μ P XP, pu (c_minus T) ds μ P XP → SV T (t_minus T E) (fun cls dd _ H => E cls dd H) ⟨slots 2 ds, μ⟩ (fnK P XP) := by
  rintro E ds μ P XP ⟨rfl, Pf, Xf, ⟨p, q, n, m, rfl, b1, b2, hs, hp⟩, hP, hX⟩
  unfold t_minus
  refine sv_ret (ev_mak0 (ea_cons (ev_op (ev_td hT rfl rfl b1 b2 hs (ev_td hT rfl rfl b2 b1 (by omega) (ov_sub (ea_cons (ev_dd hT rfl rfl b1 b2 hs (ea_nil ?_)))))))))
  refine i_init hT (dd_ne p q) (dd_bt b1 b2 hs) ?_
  rw [FM.mk_sub]
  exact hP _ hp
theorem pure_times {T : Cfg} (hT : ShOk T) : ∀ E ds μ P XP, pu (c_times T) ds μ P XP → SV T (t_times T E) (fun cls dd _ H => E cls dd H) ⟨slots 2 ds, μ⟩ (fnK P XP) := by
  rintro E ds μ P XP ⟨rfl, Pf, Xf, ⟨p, q, n, m, rfl, b1, b2, hs, hp⟩, hP, hX⟩
  unfold t_times
  refine sv_ret (ev_mak0 (ea_cons (ev_tt hT rfl rfl b1 b2 hs (ea_cons (ev_dd hT rfl rfl b1 b2 hs (ea_nil ?_))))))
  refine i_init hT (dd_ne p q) (dd_bt b1 b2 hs) ?_
  rw [FM.mk_mul]
  exact hP _ hp
theorem pure_less {T : Cfg} (hT : ShOk T) : ∀ E ds μ P XP, pu (c_less T) ds μ P XP → SV T (t_less T E) (fun cls dd _ H => E cls dd H) ⟨slots 2 ds, μ⟩ (fnK P XP) := by
  rintro E ds μ P XP ⟨rfl, Pf, Xf, ⟨p, q, n, m, rfl, b1, b2, hs, hp⟩, hP, hX⟩
  unfold t_less
  refine sv_ret (ev_op (ev_td hT rfl rfl b1 b2 hs (ev_td hT rfl rfl b2 b1 (by omega) (ov_lt ?_))))
  rw [decide_eq_decide.mpr (FM.less_iff p q)]
  exact hP _ hp
end Far
namespace Pw
open PySem PySem.Spec PyProof.Rows L2
theorem ev_calN {T : Cfg} {W : WX} {ρ : List (Option D)} {m0 : Mu} {P : D → Mu → Prop} {XP : XW} {E : XK} {ta : TA} {c : Nat → List D → (D → Nat → Prop) → Prop} (h : EA T ta W ⟨ρ, m0⟩ (fun ds μ => ∃ a b rest μ', ds = .ptr a :: rest ∧ μ = put μ' a (.well b) ∧ c b rest (fun d b' => P d (put μ' a (.well b')))) XP) : EV T (tCall (spOf T (wl c)) [] E ta) W ⟨ρ, m0⟩ P XP :=
  ev_calW fun σ Hb H Q S q x => h σ Hb H Q S (fun ds μ vs Hb' H' g r ⟨a, b, rest, μ', e, em, hc⟩ => q ds μ vs Hb' H' g r (by
    subst em
    exact ⟨a, b, rest, e, put_same, by simpa only [put_put] using hc⟩)) x
theorem ex_bl {x : Bool} {Q : Bool → Prop} (h : Q x) : ∃ b, D.bl x = .bl b ∧ Q b := ⟨_, rfl, h⟩
theorem b_tt {A B : Prop} (h : A) : (true = true → A) ∧ (true = false → B) := ⟨fun _ => h, fun e => (nomatch e)⟩
theorem b_ff {A B : Prop} (h : B) : (false = true → A) ∧ (false = false → B) := ⟨fun e => (nomatch e), fun _ => h⟩
theorem b_tt' {A B : Prop} (h : B) : (true = false → A) ∧ (true = true → B) := ⟨fun e => (nomatch e), fun _ => h⟩
theorem b_ff' {A B : Prop} (h : A) : (false = false → A) ∧ (false = true → B) := ⟨fun _ => h, fun e => (nomatch e)⟩
theorem b_nt {A B : Prop} (h : B) : ((!true) = true → A) ∧ ((!true) = false → B) := ⟨fun e => (nomatch e), fun _ => h⟩
theorem b_nf {A B : Prop} (h : A) : ((!false) = true → A) ∧ ((!false) = false → B) := ⟨fun _ => h, fun e => (nomatch e)⟩
theorem b_nt' {A B : Prop} (h : A) : ((!true) = false → A) ∧ ((!true) = true → B) := ⟨fun _ => h, fun e => (nomatch e)⟩
theorem b_nf' {A B : Prop} (h : B) : ((!false) = false → A) ∧ ((!false) = true → B) := ⟨fun e => (nomatch e), fun _ => h⟩
theorem sv_asg2 {T : Cfg} {W : WX} {ρ : List (Option D)} {m0 : Mu} {K : Out → Prop} {te : TE} {i j : Nat} (h : EV T te W ⟨ρ, m0⟩ (fun d μ => ∃ x y, d = .tup [x, y] ∧ K (.nx ⟨(ρ.set i (some x)).set j (some y), μ⟩)) (xk ⟨ρ, m0⟩ K)) : SV T (tAsg te (gTup T.K 2 (gCons (gName i) (gCons (gName j) gNil)))) W ⟨ρ, m0⟩ K :=
  sv_asgG (h.imp fun d μ ⟨x, y, e, k⟩ => by subst e; exact gv_tup rfl (gvs_cons (gv_name (gvs_cons (gv_name (gvs_nil k))))))
theorem sv_asg3 {T : Cfg} {W : WX} {ρ : List (Option D)} {m0 : Mu} {K : Out → Prop} {te : TE} {i j l : Nat} (h : EV T te W ⟨ρ, m0⟩ (fun d μ => ∃ x y z, d = .tup [x, y, z] ∧ K (.nx ⟨((ρ.set i (some x)).set j (some y)).set l (some z), μ⟩)) (xk ⟨ρ, m0⟩ K)) : SV T (tAsg te (gTup T.K 3 (gCons (gName i) (gCons (gName j) (gCons (gName l) gNil))))) W ⟨ρ, m0⟩ K :=
  sv_asgG (h.imp fun d μ ⟨x, y, z, e, k⟩ => by subst e; exact gv_tup rfl (gvs_cons (gv_name (gvs_cons (gv_name (gvs_cons (gv_name (gvs_nil k))))))))
theorem ex_t2 {d e : D} {Q : D → D → Prop} (h : Q d e) : ∃ x y, D.tup [d, e] = .tup [x, y] ∧ Q x y := ⟨_, _, rfl, h⟩
theorem ex_t3 {d e f : D} {Q : D → D → D → Prop} (h : Q d e f) : ∃ x y z, D.tup [d, e, f] = .tup [x, y, z] ∧ Q x y z := ⟨_, _, _, rfl, h⟩
theorem bT {b : Bool} {A B : Prop} (e : b = true) (h : A) : (b = true → A) ∧ (b = false → B) := by subst e; exact b_tt h
theorem bF {b : Bool} {A B : Prop} (e : b = false) (h : B) : (b = true → A) ∧ (b = false → B) := by subst e; exact b_ff h
theorem bT' {b : Bool} {A B : Prop} (e : b = true) (h : B) : (b = false → A) ∧ (b = true → B) := by subst e; exact b_tt' h
theorem bF' {b : Bool} {A B : Prop} (e : b = false) (h : A) : (b = false → A) ∧ (b = true → B) := by subst e; exact b_ff' h
theorem b_d {α : Type} {x : α} {i : Decidable (x = x)} {A B : Prop} (h : A) : (decide (x = x) = true → A) ∧ (decide (x = x) = false → B) := bT (decide_eq_true rfl) h
theorem b_d' {α : Type} {x : α} {i : Decidable (x = x)} {A B : Prop} (h : B) : (decide (x = x) = false → A) ∧ (decide (x = x) = true → B) := bT' (decide_eq_true rfl) h
theorem b_dn {α : Type} {x : α} {i : Decidable (x = x)} {A B : Prop} (h : B) : ((!decide (x = x)) = true → A) ∧ ((!decide (x = x)) = false → B) := bF (by rw [decide_eq_true rfl]; rfl) h
theorem b_dn' {α : Type} {x : α} {i : Decidable (x = x)} {A B : Prop} (h : A) : ((!decide (x = x)) = false → A) ∧ ((!decide (x = x)) = true → B) := bF' (by rw [decide_eq_true rfl]; rfl) h
theorem ex_2 {d e : D} {Q : D → D → Prop} (h : Q d e) : ∃ x y, [d, e] = [x, y] ∧ Q x y := ⟨_, _, rfl, h⟩
end Pw
namespace Far
open PySem PySem.Spec PyProof.Rows L2 Pw
theorem ex_sh {q : Rat} {Q : Rat → Prop} (h : Q q) : ∃ p, shD q = shD p ∧ Q p := ⟨_, rfl, h⟩
def prD (q : Rat) : D := .tup [.int q.num, .int (q.den : Int)]
section
variable {T : Cfg} {μ : Mu} {P : D → Mu → Prop}
theorem isi_sh (hT : ShOk T) {q : Rat} (p : P (.bl true) μ) : CV T (rIsi T.K) [shD q, .ptr (T.cls 0)] μ P := cv_isi (th_sh hT q).ty (th_sh hT q).sh p
theorem isi_ib {i : Int} (p : P (.bl false) μ) : CV T (rIsi T.K) [.int i, .ty "bool"] μ P := cv_isiT (.int i) (kit_ty (kit_tab "int" (by simp [tags]) "bool" (by simp [tys]))) p
theorem isi_ii {i : Int} (p : P (.bl true) μ) : CV T (rIsi T.K) [.int i, .ty "int"] μ P := cv_isiT (.int i) (kit_ty (kit_tab "int" (by simp [tags]) "int" (by simp [tys]))) p
theorem ov_eqP {p q : Rat} (k : P (.bl (decide (p = q))) μ) : OV T (rEqD T.K) (prD p) (prD q) μ P := ov_eq2 (by rw [rat_eq]; exact k)
theorem ov_neP {p q : Rat} (k : P (.bl (!decide (p = q))) μ) : OV T (rNeD T.K) (prD p) (prD q) μ P := ov_ne2 (by rw [rat_eq]; exact k)
end
end Far
local macro_rules | `(tactic| walk_at "rw") => `(tactic| first
  | (with_reducible refine Pw.ev_op ?_)
  | ((with_reducible refine Pw.ev_var (d := ?d) ?h ?_); (case h => rfl))
  | (with_reducible refine Pw.ev_int ?_)
  | (with_reducible refine Pw.ev_bl ?_)
  | (with_reducible refine Pw.ev_str ?_)
  | (with_reducible refine Pw.ev_non ?_)
  | (with_reducible refine Pw.ev_ty ?_)
  | (with_reducible refine Pw.ev_ref ?_)
  | (with_reducible refine Pw.ev_cb ?_)
  | (with_reducible refine Pw.ev_un ?_)
  | (with_reducible refine Pw.ea_cons ?_)
  | (with_reducible refine Pw.ea_nil ?_)
  | (with_reducible refine Pw.ev_cal0 ?_)
  | (with_reducible refine Pw.ev_calN ?_)
  | (with_reducible refine Pw.ev_mak0 ?_)
  | (with_reducible refine Pw.ev_mak1 ?_)
  | (with_reducible refine Pw.ev_if ?_)
  | (with_reducible refine Pw.ev_and ?_)
  | (with_reducible refine Pw.ev_or ?_)
  | (with_reducible refine Pw.ev_not ?_)
  | (with_reducible refine Pw.tv_test ?_)
  | (with_reducible refine Pw.tv_B ?_)
  | (with_reducible refine Pw.tv_and ?_)
  | (with_reducible refine Pw.tv_or ?_)
  | (with_reducible refine Pw.tv_not ?_)
  | (with_reducible refine Pw.tv_yes ?_)
  | (with_reducible refine Pw.po_no ?_)
  | (with_reducible refine Pw.po_so ?_)
  | (with_reducible refine Pw.sv_seq ?_)
  | (with_reducible refine Pw.sv_asg ?_)
  | (with_reducible refine Pw.sv_ret ?_)
  | (with_reducible refine Pw.sv_if ?_)
  | (with_reducible refine Pw.sv_par ?_)
  | (with_reducible refine Pw.sv_next ?_)
  | (with_reducible refine Pw.sv_app ?_)
  | (with_reducible refine Pw.sv_drop ?_)
  | (with_reducible refine Pw.sv_fld ?_)
  | (with_reducible refine Pw.ov_add ?_)
  | (with_reducible refine Pw.ov_sub ?_)
  | (with_reducible refine Pw.ov_lt ?_)
  | (with_reducible refine Pw.ov_le ?_)
  | (with_reducible refine Pw.ov_gt ?_)
  | (with_reducible refine Pw.ov_ge ?_)
  | (with_reducible refine Pw.ov_eqI ?_)
  | (with_reducible refine Pw.ov_neI ?_)
  | (with_reducible refine Pw.ov_eqS ?_)
  | (with_reducible refine Pw.ov_neS ?_)
  | (with_reducible refine Pw.ov_eqB ?_)
  | (with_reducible refine Pw.ov_neB ?_)
  | (with_reducible refine Pw.cv_abs ?_)
  | ((with_reducible refine Pw.ov_ixT (e := ?e) ?h ?_); (case h => rfl))
  | ((with_reducible refine Pw.ov_ixM (ds := ?ds) (e := ?e) ?hm ?h ?_); (case hm => exact Pw.put_same); (case h => rfl))
  | ((with_reducible refine Pw.ov_pow ?h ?_); (case h => exact ⟨by decide, by decide, by decide⟩))
  | ((with_reducible refine Pw.ov_mod ?h ?_); (case h => decide))
  | (with_reducible refine Pw.ev_tup ?_)
  | ((with_reducible refine And.intro (show _ ≤ 100000 from ?hl) ?_); (case hl => (simp; done)))
  | (with_reducible refine Pw.cv_intB ?_)
  | (with_reducible refine Pw.uv_neg ?_)
  | (with_reducible refine Pw.seqK_nx ?_)
  | (with_reducible refine Pw.seqK_rt ?_)
  | (with_reducible refine Pw.seqK_xr ?_)
  | (with_reducible refine Pw.seqK_ct ?_)
  | (with_reducible refine Pw.seqK_bk ?_)
  | (with_reducible refine Pw.whK_rt ?_)
  | (with_reducible refine Pw.whK_xr ?_)
  | (with_reducible refine Pw.whK_bk ?_)
  | (with_reducible refine Pw.forK_nx ?_)
  | (with_reducible refine Pw.forK_ct ?_)
  | (with_reducible refine Pw.forK_rt ?_)
  | (with_reducible refine Pw.forK_xr ?_)
  | (with_reducible refine Pw.forK_bk ?_)
  | (with_reducible refine Pw.fnK_rt ?_)
  | (with_reducible refine Pw.fnK_nx ?_)
  | (with_reducible refine Pw.fnK_xr ?_))
local macro_rules | `(tactic| walk_at "rl") => `(tactic| first
  | walk_at "rw"
  | (with_reducible refine Pw.ev_lst ?_))
local macro_rules | `(tactic| walk_at "rls") => `(tactic| repeat (walk_at "rl"))
local macro_rules | `(tactic| walk_at "rws") => `(tactic| repeat (walk_at "rw"))
local macro_rules | `(tactic| walk_at "rk") => `(tactic| first
  | ((with_reducible refine Far.ev_mkS0 ?hT ?_); (case hT => assumption))
  | ((with_reducible refine Far.ev_mkS1 ?hT ?_); (case hT => assumption))
  | walk_at "rl"
  | (with_reducible refine Pw.ex_bl ?_)
  | (with_reducible refine Pw.b_tt ?_)
  | (with_reducible refine Pw.b_ff ?_)
  | (with_reducible refine Pw.b_tt' ?_)
  | (with_reducible refine Pw.b_ff' ?_)
  | (with_reducible refine Pw.b_nt ?_)
  | (with_reducible refine Pw.b_nf ?_)
  | (with_reducible refine Pw.b_nt' ?_)
  | (with_reducible refine Pw.b_nf' ?_)
  | (with_reducible refine Pw.b_d ?_)
  | (with_reducible refine Pw.b_d' ?_)
  | (with_reducible refine Pw.b_dn ?_)
  | (with_reducible refine Pw.b_dn' ?_)
  | (with_reducible refine Pw.ex_2 ?_)
  | ((with_reducible refine Far.ev_top ?hT ?_); (case hT => assumption))
  | ((with_reducible refine Far.ev_bot ?hT ?_); (case hT => assumption))
  | (with_reducible refine Far.ex_sh ?_)
  | ((with_reducible refine Far.isi_sh ?hT ?_); (case hT => assumption))
  | (with_reducible refine Far.isi_ib ?_)
  | (with_reducible refine Far.isi_ii ?_)
  | (with_reducible refine Pw.ov_eq2 ?_)
  | (with_reducible refine Pw.ov_ne2 ?_)
  | (with_reducible refine Far.ov_eqP ?_)
  | (with_reducible refine Far.ov_neP ?_)
  | (with_reducible refine Far.ex_ii ?_)
  | (with_reducible refine Far.ex_i ?_)
  | (with_reducible refine Far.ev_wellN ?_)
  | ((with_reducible refine Far.ov_shEq ?hT ?_); (case hT => assumption))
  | ((with_reducible refine Far.ov_shNe ?hT ?_); (case hT => assumption))
  | (with_reducible refine Pw.sv_asg2 ?_)
  | (with_reducible refine Pw.sv_asg3 ?_)
  | (with_reducible refine Pw.tryK_nx ?_)
  | (with_reducible refine Pw.tryK_rt ?_)
  | (with_reducible refine Pw.unK_rt ?_)
  | (with_reducible refine Pw.unK_nx ?_)
  | (with_reducible refine Pw.ex_t2 ?_)
  | (with_reducible refine Pw.ex_t3 ?_))
local macro_rules | `(tactic| walk_at "rks") => `(tactic| repeat (walk_at "rk"))
local macro_rules | `(tactic| walk_at "le") => `(tactic| (repeat (first | exact trivial | refine And.intro rfl ?_)))
local macro_rules | `(tactic| walk_at "po") => `(tactic| first
  | walk_at "rk"
  | ((with_reducible refine Far.plus_s ?h ?_); (case h => decide))
  | ((with_reducible refine Far.minus_s ?h ?_); (case h => decide))
  | ((with_reducible refine Far.times_s ?h ?_); (case h => decide))
  | ((with_reducible refine Far.less_s ?h ?_); (case h => decide)))
local macro_rules | `(tactic| walk_at "pos") => `(tactic| repeat (walk_at "po"))
local macro_rules | `(tactic| walk_at "gn") => `(tactic| first
  | ((refine Far.bN' ?h ?_); (case h => grind))
  | ((refine Far.bN ?h ?_); (case h => grind)))
namespace Far
open PySem PySem.Spec PyProof.Rows L2 Pw
open FM (Bq)
abbrev full : Nat := 1073741824
def c_Lwell (T : Cfg) : Ct := fun ds μ P _ => ∃ c : Int, ds = [.int c] ∧ ∀ a, μ a = none → P (.ptr a) (put μ a (.well full))
def c_Ldraw (T : Cfg) : Nat → List D → (D → Nat → Prop) → Prop := fun b rest P => ∃ n : Int, rest = [.int n] ∧ 0 < n ∧ n.natAbs.log2 < 9000 ∧ 1 ≤ b ∧ ∀ k : Int, 0 ≤ k → k < n → P (.int k) (b - 1)
def c_Lone (T : Cfg) : Nat → List D → (D → Nat → Prop) → Prop := fun b rest P => ∃ d ds, rest = [d] ∧ Seqd d ds ∧ 0 < ds.length ∧ ds.length ≤ 1000 ∧ 1 ≤ b ∧ ∀ e ∈ ds, P e (b - 1)
def c_Llow (T : Cfg) : PC := fun ds P _ => ∃ i j : Int, ds = [.int i, .int j] ∧ j ≠ 0 ∧ Bt 9000 j ∧ P (prD (Rat.divInt i j))
def c_Lpair (T : Cfg) : PC := fun ds P _ => ∃ q, ds = [shD q] ∧ Bq 9000 q ∧ P (prD q)
theorem len_Lwell {T : Cfg} : ∀ ds μ P XP, c_Lwell T ds μ P XP → ds.length = 1 := by
  rintro ds μ P XP ⟨c, rfl, _⟩; rfl
theorem len_Ldraw {T : Cfg} : ∀ ds μ P XP, wl (c_Ldraw T) ds μ P XP → ds.length = 2 := by
  rintro ds μ P XP ⟨a, b, rest, rfl, rfl, Pf, ⟨n, rfl, _⟩, _⟩; rfl
theorem len_Lone {T : Cfg} : ∀ ds μ P XP, wl (c_Lone T) ds μ P XP → ds.length = 2 := by
  rintro ds μ P XP ⟨a, b, rest, rfl, rfl, Pf, ⟨d, es, rfl, _⟩, _⟩; rfl
theorem len_Llow {T : Cfg} : ∀ ds μ P XP, pu (c_Llow T) ds μ P XP → ds.length = 2 := by
  rintro ds μ P XP ⟨rfl, Pf, Xf, ⟨i, j, rfl, _⟩, _⟩; rfl
theorem len_Lpair {T : Cfg} : ∀ ds μ P XP, pu (c_Lpair T) ds μ P XP → ds.length = 1 := by
  rintro ds μ P XP ⟨rfl, Pf, Xf, ⟨q, rfl, _⟩, _⟩; rfl
def t_Lwell (T : Cfg) (E : XK) : TS := (tRet (tLst (tCons (tOp (rI IntMulOk fun i j => .int (i * j)) (tVar 0) (tCB rInt1 (tCons (tOp (rI0 fun i j => .bl (decide (j ≤ i))) (tVar 0) (tOp (rI CPow fun i j => .int (i ^ j.toNat)) (tC (.int 10)) (tC (.int 18)))) tNil))) (tCons (tOp (rI (fun _ j => j ≠ 0) fun i j => .int (i.fmod j)) (tVar 0) (tC (.int 2147483647))) (tCons (tC (.int 0)) tNil)))))
def t_Ldraw (T : Cfg) (E : XK) : TS := (tSeq (tIfS (tTest (tOp (rI0 fun i j => .bl (decide (j < i))) (tOp (rIxL T.K) (tVar 0) (tC (.int 0))) (tC (.int 0)))) (tSeq (tAsg (tOp (rI (fun _ j => j ≠ 0) fun i j => .int (i.fmod j)) (tOp (rIxL T.K) (tVar 0) (tC (.int 0))) (tVar 1)) (gName 4))
    (tSeq (tAsg (tOp (rI CFd fun i j => .int (i.fdiv j)) (tOp (rIxL T.K) (tVar 0) (tC (.int 0))) (tVar 1)) (gSub (tVar 0) (tC (.int 0)) rSetL))
    (tRet (tVar 4)))) tNext)
    (tSeq (tAsg (tOp (rI0 fun i j => .int (i + j)) (tOp (rIxL T.K) (tVar 0) (tC (.int 2))) (tC (.int 1))) (gSub (tVar 0) (tC (.int 2)) rSetL))
    (tSeq (tAsg (tOp (rIxL T.K) (tLst (tCons (tC (.int 2147483647)) (tCons (tC (.int 2147483629)) (tCons (tC (.int 2147483587)) (tCons (tC (.int 2147483579)) (tCons (tC (.int 2147483563)) (tCons (tC (.int 2147483549)) (tCons (tC (.int 2147483543)) tNil)))))))) (tOp (rI (fun _ j => j ≠ 0) fun i j => .int (i.fmod j)) (tOp (rIxL T.K) (tVar 0) (tC (.int 2))) (tC (.int 7)))) (gName 2))
    (tSeq (tAsg (tOp (rI (fun _ j => j ≠ 0) fun i j => .int (i.fmod j)) (tOp (rI CPow fun i j => .int (i ^ j.toNat)) (tOp (rI0 fun i j => .int (i + j)) (tOp (rI0 fun i j => .int (i + j)) (tOp (rIxL T.K) (tVar 0) (tC (.int 1))) (tOp (rI IntMulOk fun i j => .int (i * j)) (tC (.int 7919)) (tOp (rIxL T.K) (tVar 0) (tC (.int 2))))) (tC (.int 1))) (tC (.int 5))) (tVar 2)) (gName 3))
    (tSeq (tAsg (tOp (rI (fun _ j => j ≠ 0) fun i j => .int (i.fmod j)) (tOp (rI IntMulOk fun i j => .int (i * j)) (tOp (rI0 fun i j => .int (i + j)) (tVar 3) (tOp (rIxL T.K) (tVar 0) (tC (.int 2)))) (tOp (rI0 fun i j => .int (i + j)) (tOp (rI CFd fun i j => .int (i.fdiv j)) (tVar 3) (tC (.int 1009))) (tC (.int 69621)))) (tVar 2)) (gName 3))
    (tRet (tOp (rI (fun _ j => j ≠ 0) fun i j => .int (i.fmod j)) (tOp (rI CFd fun i j => .int (i.fdiv j)) (tVar 3) (tC (.int 7))) (tVar 1))))))))
def t_Lone (T : Cfg) (E : XK) : TS := (tRet (tOp (rIxL T.K) (tVar 1) (tCall (spOf T (wl (c_Ldraw T))) [] E0 (tCons (tVar 0) (tCons (tCB (Pw.rLen T.K) (tCons (tVar 1) tNil)) tNil)))))
def t_Llow (T : Cfg) (E : XK) : TS := (tSeq (tPar 2 3 (tCons (tCB rAbs (tCons (tVar 0) tNil)) (tCons (tCB rAbs (tCons (tVar 1) tNil)) tNil)))
    (tSeq (tWhile (tTest (tOp (rI0 fun i j => .bl (decide (j < i))) (tVar 3) (tC (.int 0)))) (tPar 2 3 (tCons (tVar 3) (tCons (tOp (rI (fun _ j => j ≠ 0) fun i j => .int (i.fmod j)) (tVar 2) (tVar 3)) tNil))))
    (tSeq (tIfS (tTest (tOp (rI0 fun i j => .bl (decide (i < j))) (tVar 1) (tC (.int 0)))) (tAsg (tOp (rI0 fun i j => .int (i - j)) (tC (.int 0)) (tVar 2)) (gName 2)) tNext)
    (tRet (tTup (tCons (tOp (rI CFd fun i j => .int (i.fdiv j)) (tVar 0) (tVar 2)) (tCons (tOp (rI CFd fun i j => .int (i.fdiv j)) (tVar 1) (tVar 2)) tNil)))))))
def t_Lpair (T : Cfg) (E : XK) : TS := (tSeq (tIfS (tOr (tNot (tB (tCB (rIsi T.K) (tCons (tVar 0) (tCons (tC (.ref (T.cls 0))) tNil))))) (tOr (tB (tCB (rIsi T.K) (tCons (tFld T.K (tVar 0) "top") (tCons (tC (.ty "bool")) tNil)))) (tB (tCB (rIsi T.K) (tCons (tFld T.K (tVar 0) "bottom") (tCons (tC (.ty "bool")) tNil)))))) (tRet (tTup (tCons (tC (.int 0)) (tCons (tC (.int 0)) tNil)))) tNext)
    (tSeq (tIfS (tOr (tNot (tB (tCB (rIsi T.K) (tCons (tFld T.K (tVar 0) "top") (tCons (tC (.ty "int")) tNil))))) (tOr (tNot (tB (tCB (rIsi T.K) (tCons (tFld T.K (tVar 0) "bottom") (tCons (tC (.ty "int")) tNil))))) (tTest (tOp (rI0 fun i j => .bl (decide (i < j))) (tFld T.K (tVar 0) "bottom") (tC (.int 1)))))) (tRet (tTup (tCons (tC (.int 0)) (tCons (tC (.int 0)) tNil)))) tNext)
    (tRet (tIf (tTest (tOp (rEqD T.K) (tCall (spOf T (pu (c_Llow T))) [] E0 (tCons (tFld T.K (tVar 0) "top") (tCons (tFld T.K (tVar 0) "bottom") tNil))) (tTup (tCons (tFld T.K (tVar 0) "top") (tCons (tFld T.K (tVar 0) "bottom") tNil))))) (tTup (tCons (tFld T.K (tVar 0) "top") (tCons (tFld T.K (tVar 0) "bottom") tNil))) (tTup (tCons (tC (.int 0)) (tCons (tC (.int 0)) tNil)))))))
theorem pure_Lwell {T : Cfg} (hT : ShOk T) : ∀ E ds μ P XP, c_Lwell T ds μ P XP → SV T (t_Lwell T E) (fun cls dd _ H => E cls dd H) ⟨slots 1 ds, μ⟩ (fnK P XP) := Hd.o (by
 simp (disch :=
 with_unfolding_all
 exact by
  rintro E ds μ P XP ⟨c, rfl, h⟩
  unfold t_Lwell
  refine sv_ret (ev_newWell ?_)
  walk_at "rws"
  refine ov_mul ?_ ?_
  · exact IntMulOk.of_right (by split <;> decide)
  walk_at "rws"
  refine ⟨full, _, _, _, rfl, ?_, ?_, ?_, by decide, by decide, h⟩
  · split
    · rename_i hc
      have : (10 : Int) ^ Int.toNat 18 ≤ c := by simpa using hc
      have h2 : (0 : Int) ≤ 10 ^ Int.toNat 18 := by decide
      omega
    · omega
  · rw [Int.fmod_eq_emod_of_nonneg _ (by decide)]; omega
  · rw [Int.fmod_eq_emod_of_nonneg _ (by decide)]; omega
 ) only [↓hE])
theorem pure_Ldraw {T : Cfg} (hT : ShOk T) : ∀ E ds μ P XP, wl (c_Ldraw T) ds μ P XP → SV T (t_Ldraw T E) (fun cls dd _ H => E cls dd H) ⟨slots 5 ds, μ⟩ (fnK P XP) := Hd.o (by
 simp (disch :=
 with_unfolding_all
 exact by
  rintro E ds μ P XP ⟨a, b, rest, rfl, rfl, Pf, ⟨n, rfl, hn, hl, hb, k⟩, hP⟩
  unfold t_Ldraw
  refine sv_well put_same fun w0 w1 w2 h0 h1 h2 h3 h4 => ?_
  rw [put_put]
  walk_at "rws"
  refine ⟨_, rfl, fun hw => ?_, fun hw => ?_⟩
  · have hw0 : 0 < w0 := by simpa using hw
    walk_at "rws"
    refine ov_mod (by omega) ?_
    walk_at "rws"
    refine sv_setL ?_
    walk_at "rws"
    refine ov_fdiv ⟨by omega, hl⟩ ?_
    walk_at "rws"
    refine ⟨a, _, 0, 0, rfl, put_same, rfl, rfl, ?_⟩
    rw [put_put]
    walk_at "rw"
    refine sv_ret (ev_close (a := a) ?_)
    walk_at "rws"
    refine ⟨b - 1, w0.fdiv n, w1, w2, put_same, ?_, h1, h2, h3, by omega, ?_⟩
    · rw [Int.fdiv_eq_ediv_of_nonneg _ (by omega)]
      exact Int.ediv_nonneg h0 (by omega)
    · rw [put_put]
      refine hP _ _ (k _ ?_ ?_)
      · rw [Int.fmod_eq_emod_of_nonneg _ (by omega)]; exact Int.emod_nonneg _ (by omega)
      · rw [Int.fmod_eq_emod_of_nonneg _ (by omega)]; exact Int.emod_lt_of_pos _ hn
  · walk_at "rws"
    refine sv_setL ?_
    walk_at "rws"
    refine ⟨a, _, 2, 2, rfl, put_same, rfl, rfl, ?_⟩
    rw [put_put]
    have hp : ∃ p : Int, atI [D.int 2147483647, D.int 2147483629, D.int 2147483587, D.int 2147483579, D.int 2147483563, D.int 2147483549, D.int 2147483543] ((w2 + 1).fmod 7) = some (.int p) ∧ 2147483543 ≤ p ∧ p ≤ 2147483647 := by
      rw [Int.fmod_eq_emod_of_nonneg _ (by decide)]
      have hr : (w2 + 1) % 7 = 0 ∨ (w2 + 1) % 7 = 1 ∨ (w2 + 1) % 7 = 2 ∨ (w2 + 1) % 7 = 3 ∨ (w2 + 1) % 7 = 4 ∨ (w2 + 1) % 7 = 5 ∨ (w2 + 1) % 7 = 6 := by omega
      rcases hr with e | e | e | e | e | e | e <;> rw [e] <;> exact ⟨_, rfl, by decide, by decide⟩
    obtain ⟨p, hp, p1, p2⟩ := hp
    walk_at "rls"
    refine ov_ixL (.inl rfl) hp ?_
    walk_at "rws"
    refine ov_mul (IntMulOk.of_left (by decide)) ?_
    walk_at "rws"
    refine ov_pow ⟨by decide, by decide, ?_⟩ ?_
    · have e : (2 : Nat) ^ 64 = 18446744073709551616 := by decide
      rw [e]; omega
    walk_at "rws"
    refine ov_mod (by omega) ?_
    generalize hx : ((w1 + 7919 * (w2 + 1) + 1) ^ Int.toNat 5).fmod p = x
    have x1 : 0 ≤ x ∧ x < p := by
      rw [Int.fmod_eq_emod_of_nonneg _ (by omega)] at hx
      exact hx ▸ ⟨Int.emod_nonneg _ (by omega), Int.emod_lt_of_pos _ (by omega)⟩
    walk_at "rws"
    refine ov_fdiv ⟨by decide, by decide⟩ ?_
    walk_at "rws"
    refine ov_mul ?_ ?_
    · refine IntMulOk.of_left (intBits_le_64 ?_ ?_)
      · have e : (2 : Int) ^ 64 = 18446744073709551616 := by decide
        rw [e]; omega
      · have e : (2 : Int) ^ 64 = 18446744073709551616 := by decide
        rw [e]; omega
    walk_at "rws"
    refine ov_mod (by omega) ?_
    generalize ((x + (w2 + 1)) * (x.fdiv 1009 + 69621)).fmod p = y
    walk_at "rw"
    refine sv_ret (ev_close (a := a) ?_)
    walk_at "rws"
    refine ov_fdiv ⟨by decide, by decide⟩ ?_
    walk_at "rws"
    refine ov_mod (by omega) ?_
    refine ⟨b - 1, w0, w1, w2 + 1, put_same, h0, h1, h2, by omega, by omega, ?_⟩
    rw [put_put]
    walk_at "rws"
    refine hP _ _ (k _ ?_ ?_)
    · rw [Int.fmod_eq_emod_of_nonneg _ (by omega)]; exact Int.emod_nonneg _ (by omega)
    · rw [Int.fmod_eq_emod_of_nonneg _ (by omega)]; exact Int.emod_lt_of_pos _ hn
 ) only [↓hE])
theorem atI_mem {ds : List D} {k : Int} (h0 : 0 ≤ k) (h1 : k < ds.length) : ∃ e, atI ds k = some e ∧ e ∈ ds := by
  obtain ⟨n, rfl⟩ := Int.eq_ofNat_of_zero_le h0
  have hn : n < ds.length := by omega
  refine ⟨ds[n], ?_, List.getElem_mem hn⟩
  have e : ixN ds.length (n : Int) = some n := by
    unfold ixN
    rw [if_pos (by omega), if_pos (by omega)]
    rfl
  unfold atI
  rw [e]
  exact List.getElem?_eq_getElem hn
theorem pure_Lone {T : Cfg} (hT : ShOk T) : ∀ E ds μ P XP, wl (c_Lone T) ds μ P XP → SV T (t_Lone T E) (fun cls dd _ H => E cls dd H) ⟨slots 2 ds, μ⟩ (fnK P XP) := Hd.o (by
 simp (disch :=
 with_unfolding_all
 exact by
  rintro E ds μ P XP ⟨a, b, rest, rfl, rfl, Pf, ⟨d, es, rfl, hs, h0, h1, hb, k⟩, hP⟩
  unfold t_Lone
  walk_at "rws"
  refine cv_len hs ?_
  walk_at "rws"
  refine ⟨a, b, _, _, rfl, rfl, _, rfl, by omega, ?_, hb, fun x x0 x1 => ?_⟩
  · have : (es.length : Int).natAbs = es.length := by omega
    rw [this]
    exact PySem.Flt.log2_lt_of (by decide) (Nat.lt_of_le_of_lt h1 (Nat.lt_of_lt_of_le (m := 2 ^ 10) (by decide) (Nat.pow_le_pow_right (by decide) (by decide))))
  · obtain ⟨e, he, hm⟩ := atI_mem x0 x1
    refine ov_ixL hs he ?_
    walk_at "rws"
    exact hP _ _ (k e hm)
 ) only [↓hE])
theorem gcd_step {x n : Nat} (h : n ≠ 0) : Nat.gcd n (x % n) = Nat.gcd x n := by
  rw [Nat.gcd_comm x n, Nat.gcd_rec n x, Nat.gcd_comm]
theorem pure_Llow {T : Cfg} (hT : ShOk T) : ∀ E ds μ P XP, pu (c_Llow T) ds μ P XP → SV T (t_Llow T E) (fun cls dd _ H => E cls dd H) ⟨slots 4 ds, μ⟩ (fnK P XP) := Hd.o (by
 simp (disch :=
 with_unfolding_all
 exact by
  rintro E ds μ P XP ⟨rfl, Pf, Xf, ⟨i, j, rfl, hj, hb, p⟩, hP, hX⟩
  unfold t_Llow
  walk_at "rws"
  refine ⟨_, _, rfl, ?_⟩
  walk_at "rw"
  walk_at "rw"
  refine sv_while (fun n s => ∃ x : Nat, s = ⟨[some (.int i), some (.int j), some (.int x), some (.int n)], mu0⟩ ∧ Nat.gcd x n = Nat.gcd i.natAbs j.natAbs) j.natAbs ⟨i.natAbs, rfl, rfl⟩ ?_
  rintro n s ⟨x, rfl, hg⟩
  walk_at "rws"
  refine ⟨_, rfl, fun h1 => ?_, fun h1 => ?_⟩
  · walk_at "rws"
    have hn : n ≠ 0 := by
      intro z; subst z; simp at h1
    refine ov_mod (by omega) ?_
    walk_at "rws"
    refine ⟨_, _, rfl, x % n, Nat.mod_lt _ (by omega), n, ?_, ?_⟩
    · have : (x : Int).fmod (n : Int) = ((x % n : Nat) : Int) := by
        rw [Int.fmod_eq_emod_of_nonneg _ (by omega)]; rfl
      rw [this]
      rfl
    · rw [← hg, gcd_step hn]
  · have hn : n = 0 := by
      simp at h1; omega
    subst hn
    rw [Nat.gcd_zero_right] at hg
    subst hg
    have hgp : 0 < Nat.gcd i.natAbs j.natAbs := Nat.gcd_pos_of_pos_right _ (by omega)
    have hgl : Nat.gcd i.natAbs j.natAbs ≤ j.natAbs := Nat.gcd_le_right _ (by omega)
    have fin : ∀ x : Int, x = ((Nat.gcd i.natAbs j.natAbs : Nat) : Int) * (if 0 < j then 1 else -1) → CFd i x ∧ CFd j x ∧ i.fdiv x = (Rat.divInt i j).num ∧ j.fdiv x = ((Rat.divInt i j).den : Int) := fun x hx => by
      have e1 := FM.num_ok (i := i) hj
      have e2 := FM.den_ok (i := i) hj
      rw [← hx] at e1 e2
      have hab : x.natAbs = Nat.gcd i.natAbs j.natAbs := by
        subst hx; split <;> omega
      have hc : x ≠ 0 ∧ x.natAbs.log2 < 9000 := ⟨by omega, PySem.Flt.log2_lt_of (by decide) (Nat.lt_of_le_of_lt (hab ▸ hgl) hb)⟩
      exact ⟨hc, hc, e1, e2⟩
    walk_at "rws"
    refine ⟨_, rfl, fun hl => ?_, fun hl => ?_⟩
    · have hl' : j < 0 := by simpa using hl
      obtain ⟨c1, c2, e1, e2⟩ := fin (0 - ((Nat.gcd i.natAbs j.natAbs : Nat) : Int)) (by rw [if_neg (by omega)]; omega)
      walk_at "rws"
      refine ov_fdiv c1 ?_
      walk_at "rws"
      refine ov_fdiv c2 ?_
      walk_at "rws"
      rw [e1, e2]
      exact hP _ p
    · have hl' : ¬ j < 0 := by simpa using hl
      obtain ⟨c1, c2, e1, e2⟩ := fin ((Nat.gcd i.natAbs j.natAbs : Nat) : Int) (by rw [if_pos (by omega)]; omega)
      walk_at "rws"
      refine ov_fdiv c1 ?_
      walk_at "rws"
      refine ov_fdiv c2 ?_
      walk_at "rws"
      rw [e1, e2]
      exact hP _ p
 ) only [↓hE])
theorem low_i {T : Cfg} {i j : Int} {P : D → Prop} {X : XD → Prop} (hj : j ≠ 0) (hb : Bt 9000 j) (k : P (prD (Rat.divInt i j))) : c_Llow T [.int i, .int j] P X := ⟨i, j, rfl, hj, hb, k⟩
theorem pair_i {T : Cfg} {q : Rat} {P : D → Prop} {X : XD → Prop} (hb : Bq 9000 q) (k : P (prD q)) : c_Lpair T [shD q] P X := ⟨q, rfl, hb, k⟩
theorem one_i {T : Cfg} {b : Nat} {ds : List D} {P : D → Nat → Prop} (hb : 1 ≤ b) (h0 : 0 < ds.length) (h1 : ds.length ≤ 1000) (k : ∀ e ∈ ds, P e (b - 1)) : c_Lone T b [.lst ds] P := ⟨_, ds, rfl, .inl rfl, h0, h1, hb, k⟩
theorem draw_i {T : Cfg} {b : Nat} {n : Int} {P : D → Nat → Prop} (hb : 1 ≤ b) (h0 : 0 < n) (h1 : Bt 9000 n) (k : ∀ k : Int, 0 ≤ k → k < n → P (.int k) (b - 1)) : c_Ldraw T b [.int n] P := ⟨_, rfl, h0, h1.log (by decide), hb, k⟩
theorem pure_Lpair {T : Cfg} (hT : ShOk T) : ∀ E ds μ P XP, pu (c_Lpair T) ds μ P XP → SV T (t_Lpair T E) (fun cls dd _ H => E cls dd H) ⟨slots 1 ds, μ⟩ (fnK P XP) := Hd.o (by
 simp (disch :=
 with_unfolding_all
 exact by
  rintro E ds μ P XP ⟨rfl, Pf, Xf, ⟨q, rfl, hq, p⟩, hP, hX⟩
  unfold t_Lpair
  walk_at "rks"
  have hd : ¬ (q.den : Int) < 1 := by have := q.den_pos; omega
  rw [decide_eq_false hd]
  walk_at "rks"
  refine low_i (by have := q.den_pos; omega) (by simpa [Bt] using hq.2) ?_
  rw [Rat.num_divInt_den]
  walk_at "rks"
  refine ov_eqP ?_
  rw [decide_eq_true rfl]
  walk_at "rks"
  exact hP _ p
 ) only [↓hE])
end Far
namespace Pw
open PySem PySem.Spec PyProof.Rows L2
def leR : List (Option D) → List (Option D) → Prop
  | [], [] => True
  | none :: r, _ :: s => leR r s
  | some d :: r, p :: s => p = some d ∧ leR r s
  | _, _ => False
theorem leR.len : ∀ {r s : List (Option D)}, leR r s → r.length = s.length
  | [], [], _ => rfl
  | none :: r, _ :: s, h => by
    have := leR.len (r := r) (s := s) h
    simp [this]
  | some d :: r, p :: s, h => by
    have := leR.len (r := r) (s := s) h.2
    simp [this]
  | [], _ :: _, h => h.elim
  | none :: _, [], h => h.elim
  | some _ :: _, [], h => h.elim
theorem leR.get : ∀ {r s : List (Option D)}, leR r s → ∀ (i : Nat) (d : D), r[i]? = some (some d) → s[i]? = some (some d)
  | [], [], _, i, d, e => by simp at e
  | none :: r, _ :: s, h, 0, d, e => by simp at e
  | none :: r, _ :: s, h, i + 1, d, e => leR.get (r := r) (s := s) h i d e
  | some d' :: r, p :: s, h, 0, d, e => by
    have e' : some (some d') = some (some d) := e
    cases e'
    show some p = _
    rw [h.1]
  | some d' :: r, p :: s, h, i + 1, d, e => leR.get (r := r) (s := s) h.2 i d e
  | [], _ :: _, h, _, _, _ => h.elim
  | none :: _, [], h, _, _, _ => h.elim
  | some _ :: _, [], h, _, _, _ => h.elim
theorem leR.refl : ∀ {r : List (Option D)}, leR r r
  | [] => trivial
  | none :: r => leR.refl (r := r)
  | some d :: r => ⟨rfl, leR.refl (r := r)⟩
theorem leR.set : ∀ {r s : List (Option D)}, leR r s → ∀ (i : Nat) (d : D), leR (r.set i (some d)) (s.set i (some d))
  | [], [], _, i, d => trivial
  | none :: r, _ :: s, h, 0, d => ⟨rfl, h⟩
  | none :: r, _ :: s, h, i + 1, d => leR.set (r := r) (s := s) h i d
  | some d' :: r, p :: s, h, 0, d => ⟨rfl, h.2⟩
  | some d' :: r, p :: s, h, i + 1, d => ⟨h.1, leR.set (r := r) (s := s) h.2 i d⟩
  | [], _ :: _, h, _, _ => h.elim
  | none :: _, [], h, _, _ => h.elim
  | some _ :: _, [], h, _, _ => h.elim
theorem leR.of : ∀ {r s : List (Option D)}, r.length = s.length → (∀ (i : Nat) (d : D), r[i]? = some (some d) → s[i]? = some (some d)) → leR r s
  | [], [], _, _ => trivial
  | none :: r, p :: s, hl, h => leR.of (r := r) (s := s) (by simpa using hl) fun i d e => h (i + 1) d e
  | some d' :: r, p :: s, hl, h => ⟨Option.some.inj (h 0 d' rfl), leR.of (r := r) (s := s) (by simpa using hl) fun i d e => h (i + 1) d e⟩
  | [], _ :: _, hl, _ => by simp at hl
  | none :: _, [], hl, _ => by simp at hl
  | some _ :: _, [], hl, _ => by simp at hl
theorem leR.trans {r s t : List (Option D)} (h : leR r s) (k : leR s t) : leR r t := leR.of (h.len.trans k.len) fun i d e => k.get i d (h.get i d e)
section
variable {T : Cfg} {W : WX} {ρ ρ' : List (Option D)} {m0 m' : Mu} {XP : XW} {K : Out → Prop} {ta tb te : TE} {P : D → Mu → Prop} {u : TS}
theorem Sim.wk {σ : L2.St} {Hb H : Hp} (h : leR ρ' ρ) (hm : Subm m' m0) (S : Sim T ⟨ρ, m0⟩ σ Hb H) : Sim T ⟨ρ', m'⟩ σ Hb H :=
  ⟨h.len.trans S.len, fun i d e => S.vars i d (h.get i d e), S.sub, hm.sim S.mu⟩
theorem sv_wk (h : leR ρ' ρ) (hm : Subm m' m0) (k : SV T u W ⟨ρ', m'⟩ K) : SV T u W ⟨ρ, m0⟩ K := fun σ Hb H Dn S c =>
  k σ Hb H Dn (S.wk h hm) (c.go (S.refl.forget hm))
theorem sub_refl {m : Mu} : Subm m m := fun _ _ e => e
theorem seqK_wk {s' : S} (h : leR ρ' s'.r) (k : SV T u W ⟨ρ', s'.m⟩ K) : seqK T u W K (.nx s') := seqK_nx (sv_wk (ρ := s'.r) (m0 := s'.m) h sub_refl k)
theorem seqK_res {s' : S} (h : leR ρ' s'.r) (k : SV T u W ⟨ρ', mu0⟩ K) : seqK T u W K (.nx s') := seqK_nx (sv_wk (ρ := s'.r) (m0 := s'.m) h sub_nil k)
abbrev InvR (ρ : List (Option D)) (J : Nat → Mu → Prop) : Nat → S → Prop := fun n s => leR ρ s.r ∧ J n s.m
theorem sv_forN {i : Nat} (h : EV T te W ⟨ρ, m0⟩ (fun d μ => ∃ ds ρ' J, Seqd d ds ∧ leR ρ' ρ ∧ J 0 μ ∧ (∀ n e μ', ds[n]? = some e → J n μ' → SV T u W ⟨ρ'.set i (some e), μ'⟩ (forK (InvR ρ' J) n K)) ∧ ∀ s', leR ρ' s'.r → J ds.length s'.m → K (.nx s')) (xk ⟨ρ, m0⟩ K)) : SV T (tFor (iList T.K te) (gName i) u) W ⟨ρ, m0⟩ K :=
  sv_for (is := [i]) (iv_list (h.imp fun d μ ⟨ds, ρ', J, hs, hr, j0, turn, done⟩ => ⟨ds, hs, InvR ρ' J, ⟨hr, j0⟩, fun n s' hn hi => gv_name (sv_wk (hi.1.set i _) sub_refl (turn n _ s'.m (nth_get hn) hi.2)), fun s' hi => done s' hi.1 hi.2⟩))
theorem sv_forR {i : Nat} (h : EV T te W ⟨ρ, m0⟩ (fun d μ => ∃ ds ρ', Seqd d ds ∧ leR ρ' ρ ∧ (∀ e ∈ ds, SV T u W ⟨ρ'.set i (some e), mu0⟩ (forK (InvR ρ' fun _ _ => True) 0 K)) ∧ ∀ s', leR ρ' s'.r → K (.nx s')) (xk ⟨ρ, m0⟩ K)) : SV T (tFor (iList T.K te) (gName i) u) W ⟨ρ, m0⟩ K :=
  sv_forN (h.imp fun d μ ⟨ds, ρ', hs, hr, turn, done⟩ => ⟨ds, ρ', fun _ _ => True, hs, hr, trivial, fun n e μ' he _ => sv_wk leR.refl sub_nil ((turn e (List.mem_of_getElem? he)).imp fun o ho => by
    cases o <;> exact ho), fun s' a _ => done s' a⟩)
theorem ev_lcF {i : Nat} {te' : TE} (h : EV T te W ⟨ρ, m0⟩ (fun d μ => ∃ (ds : List D) (f : D → D), Seqd d ds ∧ ds.length ≤ 100000 ∧ (∀ e ∈ ds, EV T te' (fun _ _ _ _ => False) ⟨(wipeD ρ [i]).set i (some e), μ⟩ (fun x μ' => x = f e ∧ μ' = μ) (fun _ _ => False)) ∧ P (.lst (ds.map f)) μ) XP) : EV T (tLc (iList T.K te) (gName i) tYes te' [i]) W ⟨ρ, m0⟩ P XP :=
  ev_lc (is := [i]) (fun _ h => h) (iv_list (h.imp fun d μ ⟨ds, f, hs, hl, turn, done⟩ => ⟨ds, hs, hl, fun n acc μ' => μ' = μ ∧ acc = (ds.take n).map f, ⟨rfl, by simp⟩, fun n acc μ' hn _ ⟨e1, e2⟩ => by
    subst e1 e2
    refine gv_name (tv_yes ⟨fun _ => ?_, fun e => (nomatch e)⟩)
    have hm : nth ds n ∈ ds := List.mem_of_getElem? (nth_get hn)
    refine (turn _ hm).imp fun x μ2 ⟨e1, e2⟩ => ⟨e2, ?_⟩
    rw [e1, List.take_succ, nth_get hn]
    simp, fun acc μ' ⟨e1, e2⟩ => by
    subst e1 e2
    rw [List.take_length]
    exact done⟩))
end
theorem ev_callM0 {T : Cfg} {W : WX} {ρ : List (Option D)} {m0 : Mu} {P : D → Mu → Prop} {XP : XW} {c : Ct} {E : XK} {ta : TA}
    (h : EA T ta W ⟨ρ, m0⟩ (fun ds μ => ∃ μ1, Subm μ1 μ ∧ c ds μ1 (fun d μ2 => P d (mrg μ μ1 μ2)) (fun x μ2 => False)) XP) : EV T (tCall (spOf T c) [] E ta) W ⟨ρ, m0⟩ P XP := fun σ Hb H Q S q x =>
  h σ Hb H _ S (fun ds μ vs Hb1 H1 g r p => by
    obtain ⟨μ1, hs, p⟩ := p
    refine ⟨ds, μ1, Hb1, _, _, g.sub, hs.sim g.mu, by simpa using r, p, fun d μ' v Hb' H' g' r' k => ?_, fun y μ' cls dd Hb' H' g' r' k => k.elim⟩
    exact q _ _ _ _ _ (g.trans (g'.widen hs g.mu)) r' k) x
theorem mrg_put {μ : Mu} {a : Addr} {m : MO} : mrg μ mu0 (put mu0 a m) = put μ a m := by
  funext b
  unfold mrg put
  by_cases e : b = a
  · simp [e]
  · simp [e]
theorem cut_sub {ds : List D} {lo hi : Option Int} : ∀ e ∈ cutD ds lo hi, e ∈ ds := fun e h => List.mem_of_mem_drop (List.mem_of_mem_take h)
theorem cut_len {ds : List D} {lo hi : Option Int} : (cutD ds lo hi).length ≤ ds.length := by
  unfold cutD
  rw [List.length_take, List.length_drop]
  omega
def c_law (T : Cfg) : Ct := fun ds μ P _ => ∃ ns : List Int, ds = [.seq (ns.map D.int)] ∧ ns.length ≤ 63 ∧ μ = mu0 ∧ ∀ μ', P (.bl true) μ'
theorem len_law {T : Cfg} : ∀ ds μ P XP, c_law T ds μ P XP → ds.length = 1 := by
  rintro ds μ P XP ⟨ns, rfl, _⟩; rfl
theorem ints_rep {T : Cfg} {H : Hp} : ∀ ns : List Int, RepL T H (ns.map D.int) (ns.map V.int)
  | [] => .nil
  | n :: ns => .cons (.int n) (ints_rep ns)
theorem law_startL {T : Cfg} {H : Hp} {a : Addr} {ns : List Int} (hu : ∀ P q q', (P, q) ∈ T.tbs → (P, q') ∈ T.tbs → q = q') (hT : ∀ P q, (P, q) ∈ T.tbs → H P = some (.tbl #[])) (hl : ns.length ≤ 63) (hS : SqL T.K H a (ns.map V.int)) : spOf T (c_law T) [.ref a] H (fun v _ => v = .bl true) fun _ _ _ => False := by
  have main : ∀ Hb : Hp, Evl.Ex Hb H → SqL T.K Hb a (ns.map V.int) → (∀ c o, Hb c = some o → NoTC o) → spOf T (c_law T) [.ref a] H (fun v _ => v = .bl true) fun _ _ _ => False := fun Hb ex hS hn => by
    have sm : SimMu T mu0 Hb H := by
      classical
      let G : Hp := fun b => if ∃ q, (b, q) ∈ T.tbs then H b else none
      have gt : ∀ b u, G b = some u → u = .tbl #[] := fun b u e => by
        have e : (if ∃ q, (b, q) ∈ T.tbs then H b else none) = some u := e
        by_cases h : ∃ q, (b, q) ∈ T.tbs
        · rw [if_pos h] at e
          obtain ⟨q, hq⟩ := h
          rw [hT b q hq] at e
          exact (Option.some.inj e).symm
        · rw [if_neg h] at e
          cases e
      have noc : ∀ c oc, G c ≠ some (.frz oc mkC) := fun c oc e => by
        have := gt c _ e
        cases this
      have nm : ∀ P q, Nm T.tbs G P q → (P, q) ∈ T.tbs := fun P q h => by
        rcases h with h | ⟨c, oc, _, e, _⟩
        · exact h
        · exact absurd e (noc c oc)
      refine ⟨fun _ _ h => (nomatch h), ⟨G, fun b u e => ?_, ⟨fun P q h => ?_, fun P q q' h h' => hu P q q' (nm _ _ h) (nm _ _ h')⟩, fun c oc => ⟨fun e => absurd e (noc c oc), fun e => absurd rfl ((hn _ _ e).2 oc)⟩, fun b u e => ?_⟩, fun c ps e => absurd rfl ((hn _ _ e).1 ps)⟩
      · have e0 : (if ∃ q, (b, q) ∈ T.tbs then H b else none) = some u := e
        by_cases h : ∃ q, (b, q) ∈ T.tbs
        · rw [if_pos h] at e0
          exact e0
        · rw [if_neg h] at e0
          cases e0
      · have h := nm _ _ h
        refine ⟨#[], ?_, True.intro, fun pos cv e => ?_⟩
        · show (if ∃ q, (P, q) ∈ T.tbs then H P else none) = _
          rw [if_pos ⟨q, h⟩]
          exact hT P q h
        · have z : codeAmong pos [] = some cv := e
          simp [codeAmong] at z
      · rw [gt b u e]
        exact fun z => z.1 #[] rfl
    exact ⟨[.seq (ns.map D.int)], mu0, Hb, fun d _ => d = .bl true, fun _ _ => False, ex, sm, .cons (.seq hS (ints_rep (T := T) (H := Hb) ns).1 (ints_rep ns).2) .nil, ⟨ns, rfl, hl, rfl, fun _ => rfl⟩, fun d μ' v Hb' H' g r p => by
      subst p
      cases r
      rfl, fun _ _ _ _ _ _ _ _ k => k.elim⟩
  rcases hS with h | h
  · have hn : ∀ o, H a = some o → NoTC o := fun o e => by
      rcases h with z | ⟨od, z⟩ <;> rw [z] at e <;> cases e <;> exact ⟨fun _ z => (nomatch z), fun _ z => (nomatch z)⟩
    refine main (fun c => if c = a then H c else none) (fun c o e => ?_) (.inl ?_) fun c o e => ?_
    · have e : (if c = a then H c else none) = some o := e
      by_cases q : c = a
      · rw [if_pos q] at e; exact e
      · rw [if_neg q] at e; cases e
    · rcases h with z | ⟨od, z⟩
      · exact .inl (by show (if a = a then H a else none) = _; rw [if_pos rfl]; exact z)
      · exact .inr ⟨od, by show (if a = a then H a else none) = _; rw [if_pos rfl]; exact z⟩
    · have e : (if c = a then H c else none) = some o := e
      by_cases q : c = a
      · rw [if_pos q, q] at e; exact hn o e
      · rw [if_neg q] at e; cases e
  · exact main (fun _ => none) (fun _ _ e => (nomatch e)) (.inr h) fun _ _ e => (nomatch e)
theorem law_start {T : Cfg} {H : Hp} {a : Addr} {ns : List Int} (hl : ns.length ≤ 63) (hS : SqL T.K H a (ns.map V.int)) (h0 : T.tbs = [] := by rfl) : spOf T (c_law T) [.ref a] H (fun v _ => v = .bl true) fun _ _ _ => False :=
  law_startL (fun P q q' h => by rw [h0] at h; exact absurd h (by simp)) (fun P q h => by rw [h0] at h; exact absurd h (by simp)) hl hS
theorem ev_cells {T : Cfg} {W : WX} {ρ : List (Option D)} {m0 : Mu} {P : D → Mu → Prop} {XP : XW} {k : Int} {ns : List Int} {ta : TA} (h0 : ρ[0]? = some (some (.seq (ns.map D.int)))) (hl : ns.length ≤ 63)
    (h : EA T ta W ⟨ρ, m0⟩ (fun ds μ => ds.length ≤ 1000 ∧ (∀ e ∈ ds, ∃ c : Int, e = .int c) ∧ ∀ es, es.length ≤ 2000 → (∀ e ∈ es, ∃ c : Int, e = .int c) → P (.lst es) μ) XP) : EV T (tOp rCat (tSl (rSlL T.K) (tVar 0) tNoPart (tPart (tC (.int k)))) (tLst ta)) W ⟨ρ, m0⟩ P XP := by
  refine ev_op (ev_slL (ev_var h0 (po_no (po_so (ev_int ⟨k, rfl, ns.map D.int, .inr rfl, ev_lst ?_⟩)))))
  intro σ Hb H Q S q x
  refine h σ Hb H Q S (fun ds μ vs Hb' H' g r p => q ds μ vs Hb' H' g r ⟨by omega, ?_⟩) x
  have hc := cut_len (ds := ns.map D.int) (lo := none) (hi := some k)
  rw [List.length_map] at hc
  refine ov_cat (by omega) (p.2.2 _ (by rw [List.length_append]; omega) fun e he => ?_)
  rcases List.mem_append.1 he with h1 | h1
  · have := cut_sub e h1
    rw [List.mem_map] at this
    obtain ⟨c, _, rfl⟩ := this
    exact ⟨c, rfl⟩
  · exact p.2.1 e h1
end Pw
namespace Far
open PySem PySem.Spec PyProof.Rows L2 Pw
open FM (Bq)
theorem ev_wellN {T : Cfg} {W : WX} {ρ : List (Option D)} {m0 : Mu} {P : D → Mu → Prop} {XP : XW} {E : XK} {ta : TA}
    (h : EA T ta W ⟨ρ, m0⟩ (fun ds μ => ∃ c : Int, ds = [.int c] ∧ ∀ a, P (.ptr a) (put μ a (.well 1073741824))) XP) : EV T (tCall (spOf T (c_Lwell T)) [] E ta) W ⟨ρ, m0⟩ P XP :=
  ev_callM0 fun σ Hb H Q S q x => h σ Hb H Q S (fun ds μ vs Hb' H' g r ⟨c, e, p⟩ => q ds μ vs Hb' H' g r ⟨mu0, sub_nil, c, e, fun a _ => by
    show P _ (mrg μ mu0 (put mu0 a (.well full)))
    rw [mrg_put]
    exact p a⟩) x
section
variable {T : Cfg} {μ : Mu} {P : D → Mu → Prop} {E : XK}
theorem ov_shEq (hT : ShOk T) {p q : Rat} (k : P (.bl (decide (p = q))) μ) : OV T (rOwnEq T.K (T.cls 0) (spOf T (pu (c_Share___eq__ T))) E) (shD p) (shD q) μ P :=
  ov_ownEq (th_sh hT q).ty (th_sh hT q).nf ⟨p, shD q, _, rfl, th_sh hT q, .inl ⟨q, rfl, ⟨_, rfl⟩, k⟩⟩
theorem ov_shNe (hT : ShOk T) {p q : Rat} (k : P (.bl (!decide (p = q))) μ) : OV T (rOwnNe T.K (T.cls 0) (spOf T (pu (c_Share___eq__ T))) E) (shD p) (shD q) μ P :=
  ov_ownNe (th_sh hT q).ty (th_sh hT q).nf ⟨p, shD q, _, rfl, th_sh hT q, .inl ⟨q, rfl, _, rfl, k⟩⟩
end
section
variable {T : Cfg} {W : WX} {ρ : List (Option D)} {m0 : Mu} {P : D → Mu → Prop} {XP : XW} {E : XK} {ta : TA}
theorem EA.imp {P P' : List D → Mu → Prop} (h : EA T ta W ⟨ρ, m0⟩ P XP) (k : ∀ ds μ, P ds μ → P' ds μ) : EA T ta W ⟨ρ, m0⟩ P' XP :=
  fun σ Hb H Q S q x => h σ Hb H Q S (fun ds μ vs Hb' H' g r p => q ds μ vs Hb' H' g r (k _ _ p)) x
theorem ev_mkS0 (hT : ShOk T) (h : EA T ta W ⟨ρ, m0⟩ (fun ds μ => ∃ i j : Int, ds = [.int i, .int j] ∧ j ≠ 0 ∧ Bt 9000 j ∧ P (shD (Rat.divInt i j)) μ) XP) : EV T (tMake (T.cls 0) (spOf T (ini 0 (c_Share___init__ T))) [] E ta) W ⟨ρ, m0⟩ P XP :=
  ev_mak0 (EA.imp h fun ds μ ⟨i, j, e, h1, h2, p⟩ => by subst e; exact i_init hT h1 h2 p)
theorem ev_mkS1 (hT : ShOk T) (h : EA T ta W ⟨ρ, m0⟩ (fun ds μ => ∃ i : Int, ds = [.int i] ∧ P (shD (i : Rat)) μ) XP) : EV T (tMake (T.cls 0) (spOf T (ini 0 (c_Share___init__ T))) [.int 1] E ta) W ⟨ρ, m0⟩ P XP :=
  ev_mak1 (EA.imp h fun ds μ ⟨i, e, p⟩ => by subst e; exact i_int hT p)
theorem ex_ii {i j : Int} {Q : Int → Int → Prop} (h : Q i j) : ∃ x y, [D.int i, D.int j] = [.int x, .int y] ∧ Q x y := ⟨_, _, rfl, h⟩
theorem ex_i {i : Int} {Q : Int → Prop} (h : Q i) : ∃ x, [D.int i] = [.int x] ∧ Q x := ⟨_, rfl, h⟩
end
end Far
namespace Pw
open PySem PySem.Spec PyProof.Rows L2
open Evl (Ex fresh_back)
abbrev CF := List D → (D → Prop) → Prop
def SpecOf (T : Cfg) (sp : SpL) (caps : List (D × V)) (cells : List (Addr × V)) (cc : Addr × Obj) (C : CF) : Prop :=
  ∀ (ds : List D) (P : D → Prop) (vs : List V) (Hb H : Hp) (Q : VK), Ex Hb H → SimMu T mu0 Hb H → RepL T Hb ds vs → (∀ z ∈ caps, Rep T Hb z.1 z.2) → Hb cc.1 = some (.frz cc.2 mkC) → (∀ p ∈ cells, Hb p.1 = none ∧ ∃ ob, H p.1 = some (.frz ob mkO)) → C ds P →
    (∀ d v Hb' H', Go T mu0 Hb H mu0 Hb' H' → Rep T Hb' d v → P d → Q v H') → sp vs H Q
structure FunC (T : Cfg) (kb : Nat) (f : Addr) (C : CF) (μ : Mu) : Prop where
  ex : ∃ (k : Nat) (o : Obj) (cells : List (Addr × V)) (cc : Addr × Obj) (sp : SpL) (caps : List (D × V)), μ f = some (.clo k f o cells cc sp caps) ∧ k ≤ kb ∧ (∀ p ∈ cells, ∃ ob, μ p.1 = some (.cel ob) ∧ CellIs ob p.2) ∧ SpecOf T sp caps cells cc C
section
variable {T : Cfg} {W : WX} {s : S} {ρ : List (Option D)} {m0 μ μ1 μ2 : Mu} {Hb H Hb' H' : Hp} {P : D → Mu → Prop} {XP : XW} {kb : Nat} {f : Addr} {C C' : CF} {ta : TA} {te : TE}
theorem SpecOf.imp {sp : SpL} {caps : List (D × V)} {cells : List (Addr × V)} {cc : Addr × Obj} (h : SpecOf T sp caps cells cc C) (k : ∀ ds P, C' ds P → C ds P) : SpecOf T sp caps cells cc C' :=
  fun ds P vs Hb H Q ex sm r hc hcc hce hC q => h ds P vs Hb H Q ex sm r hc hcc hce (k _ _ hC) q
theorem FunC.imp (F : FunC T kb f C μ) (k : ∀ ds P, C' ds P → C ds P) : FunC T kb f C' μ := by
  obtain ⟨k1, o, cells, cc, sp, caps, h1, h2, h3, h4⟩ := F.ex
  exact ⟨⟨k1, o, cells, cc, sp, caps, h1, h2, h3, h4.imp k⟩⟩
theorem FunC.sub (F : FunC T kb f C μ1) (h : Subm μ1 μ) : FunC T kb f C μ := by
  obtain ⟨k1, o, cells, cc, sp, caps, h1, h2, h3, h4⟩ := F.ex
  exact ⟨⟨k1, o, cells, cc, sp, caps, h _ _ h1, h2, fun p hp => by
    obtain ⟨ob, a, b⟩ := h3 p hp
    exact ⟨ob, h _ _ a, b⟩, h4⟩⟩
theorem Subm.putN {a : Addr} {m : MO} (h : Subm μ1 μ) (n : μ1 a = none) : Subm μ1 (put μ a m) := fun b z e => by
  rw [put_ne (fun q => by rw [q, n] at e; cases e)]
  exact h b z e
theorem FunC.at_ (F : FunC T kb f C μ) : ∃ m, μ f = some m := by
  obtain ⟨k1, o, cells, cc, sp, caps, h1, _⟩ := F.ex
  exact ⟨_, h1⟩
end
end Pw
namespace LamY
open PySem PySem.Spec PyProof.Rows L2
theorem walk {l : PySem.W.OpenLaw} {n k : Nat} {q : Program} {loose : List Str} {XP : (Str → Option Value) → Heap → Prop} {YP : World → Heap → Prop} {d : DefRec} {CX : World → CXT} {x : Str}
    (hn : l.most = some n) (hn2 : n ≤ sizeLine) (hdf : d.params.defaults = []) (hr : Room k callerA)
    (F : ∀ (w : World) (mg : Str → Option Value) (fa : Addr) (h : Heap), YP w h → (∃ loose mean mb, Top q loose mean mg mb h) → h.Ns mainGlobals mg → mg d.name = some (.ref fa) → ∃ K : PySem.W.Frag, K.In h ∧ LamX.LawAtS l w K (CX w) k n x mg fa h)
    (hCX : ∀ (w : World) (H : Hp) (s : Shared) (e : Value) (s' : Shared), CX w [] H s (fun _ _ _ => False) e s' → False) :
    PySem.W.WalkO q loose XP YP l.row.toRowW d [] (fun f vs => PySem.call f vs) := by
  refine Att.attach_callB hn hdf fun w s₀ s₁ mg mb fa o pm cd doc a vs ns G Y ho hd hcd hmg hobj hints hlen hbits hg => ?_
  obtain ⟨K, KX, fd, cs, sp, hT, nT, C, hb, hsp, hF⟩ := F w mg fa _ Y ⟨_, _, _, G.T⟩ G.T.g hmg
  exact LamX.law_callTs KX G.T.g G.T.b G.T.builtins G.T.nolimit hg hT nT C G.T.bmain hobj hints (Nat.le_trans hlen hn2) hr hF hb (fun H hH hS => hsp H a ns hlen hbits hH hS) fun H e s' => hCX w H s₁ e s'
end LamY
namespace Lz
open PySem PySem.Spec PyProof.Rows
def Zo (h : Heap) (z ti tu t : Addr) (f : Bool) : Prop := h.get? z = some { cls := .type "zip", dict := none, data := .fields #[rawInt t, .bool f, .bool false, .ref ti, .ref tu], slots := #[] }
section
variable {prog : Program} {w : World} {A : Around} {E : Value → Shared → Prop} {s : Shared}
theorem free_no {z ti tu t : Addr} {f : Bool} {ot : Obj} {Q : Bool → Shared → Prop} (hz : Zo s.heap z ti tu t f) (ht : s.heap.get? t = some ot) (hQ : ∀ h', Zo h' z ti tu t true → h'.objs.size = s.heap.objs.size → (∀ c o, c ≠ z → s.heap.get? c = some o → h'.get? c = some o) → Q false { s with heap := h' }) :
    wpAny (model prog w) A (Builtin.SmallTypes.ownedTupleIsFree (.ref z)) Q E s := by
  unfold Builtin.SmallTypes.ownedTupleIsFree
  refine wpAny_bind (wpAny_field hz rfl (x := rawInt t) rfl ?_)
  show wpAny _ _ (loadIfAlive t >>= _) Q E s
  refine wpAny_bind (PySem.W.kdx_alive ht ?_)
  show wpAny _ _ (field (.ref z) 1 >>= _) Q E s
  refine wpAny_bind (wpAny_field hz rfl (x := .bool f) rfl ?_)
  cases f with
  | true => exact wpAny_pure (hQ s.heap hz rfl fun _ _ _ e => e)
  | false =>
    show wpAny _ _ (setField (.ref z) 1 (.bool true) >>= _) Q E s
    exact wpAny_bind (wpAny_setField_rec hz (by simp) fun h1 z1 s1 => wpAny_pure (hQ h1 z1 s1.1 fun c o hc e => s1.extBut _ _ hc e))
theorem sub_st : isSubtype (.type "StopIteration") (.type "StopIteration") = pure true := by rw [isSubtype_type]; kernel_rfl
theorem next_out {z ti tu t p q l r : Addr} {f : Bool} {ot : Obj} {k : Nat} {xs ys : Array Value} {x y : Value} {Q : Option Value → Shared → Prop} (hz : Zo s.heap z ti tu t f) (ht : s.heap.get? t = some ot) (hp : IsPair s.heap ti (.ref p) (.ref q))
    (pz : p ≠ z) (qz : q ≠ z) (lz : l ≠ z) (rz : r ≠ z) (pq : p ≠ q) (lp : l ≠ p) (rp : r ≠ p) (tz : ti ≠ z)
    (i1 : s.heap.IsListIter p l k) (i2 : s.heap.IsListIter q r k) (m1 : s.heap.IsList l xs) (m2 : s.heap.IsList r ys) (ex : xs[k]? = some x) (ey : ys[k]? = some y)
    (hQ : ∀ h', Zo h' z ti tu t true → h'.IsListIter p l (k + 1) → h'.IsListIter q r (k + 1) → IsPair h' s.heap.objs.size x y → h'.objs.size = s.heap.objs.size + 1 → (∀ c o, c ≠ z → c ≠ p → c ≠ q → s.heap.get? c = some o → h'.get? c = some o) → Q (some (.ref s.heap.objs.size)) { s with heap := h' }) :
    wpAny (model prog w) A (pyNext (.ref z)) Q E s := by
  have ty : s.TypeIs (.ref z) "zip" := ⟨_, hz, rfl⟩
  unfold pyNext
  refine wpAny_bind (wpAny_attempt (wpAny_callSpecial?_slot (name := Str.ofString "__next__") ty F.slot_zip_next (wpAny_call_entry F.slot_zip_next ty F.entry_zip_next ?_ (F.args_zip_next_1 _))))
  show wpAny _ _ (field (.ref z) 2 >>= _) _ _ s
  refine wpAny_bind (wpAny_field hz rfl (x := .bool false) rfl ?_)
  show wpAny _ _ (field (.ref z) 3 >>= _) _ _ s
  refine wpAny_bind (wpAny_field hz rfl (x := .ref ti) rfl (wpAny_bind (wpAny_seqItems hp rfl ?_)))
  show wpAny _ _ (Builtin.SmallTypes.ownedTupleIsFree (.ref z) >>= _) _ _ s
  refine wpAny_bind (free_no hz ht fun h1 z1 e1 k1 => ?_)
  simp only [Bool.false_eq_true, if_false]
  refine wpAny_bind ?_
  rw [show (#[Value.ref p, Value.ref q] : Array Value) = [Value.ref p, Value.ref q].toArray from rfl, List.forIn_toArray]
  simp only [List.forIn_cons, List.forIn_nil]
  refine wpAny_bind (wpAny_bind (wpAny_holding ?_))
  show wpAny _ _ (Builtin.SmallTypes.nextOf (.ref p) >>= _) _ _ _
  refine wpAny_bind (wpAny_nextOf_list_item (i1.at fun o e => k1 _ o pz e) (m1.at fun o e => k1 _ o lz e) ex fun h2 j1 s2 => wpAny_pure ?_)
  refine wpAny_pure ?_
  refine wpAny_bind (wpAny_bind (wpAny_holding ?_))
  show wpAny _ _ (Builtin.SmallTypes.nextOf (.ref q) >>= _) _ _ _
  have k2 : ∀ c o, c ≠ z → c ≠ p → s.heap.get? c = some o → h2.get? c = some o := fun c o a b e => s2.extBut _ _ b (k1 c o a e)
  refine wpAny_bind (wpAny_nextOf_list_item (i2.at fun o e => k2 _ o qz pq.symm e) (m2.at fun o e => k2 _ o rz rp e) ey fun h3 j2 s3 => wpAny_pure ?_)
  refine wpAny_pure ?_
  refine wpAny_pure ?_
  have k3 : ∀ c o, c ≠ z → c ≠ p → c ≠ q → s.heap.get? c = some o → h3.get? c = some o := fun c o a b d e => s3.extBut _ _ d (k2 c o a b e)
  have hsz : h3.objs.size = s.heap.objs.size := by rw [s3.1, s2.1]; exact e1
  show wpAny _ _ (newTuple [x, y] >>= _) _ _ _
  refine wpAny_bind (wpAny_newTuple (wpAny_pure ⟨_, rfl, wpAny_pure ?_⟩))
  have z3 : Zo h3 z ti tu t true := s3.extBut _ _ qz.symm (s2.extBut _ _ pz.symm z1)
  show Q (some (.ref h3.objs.size)) _
  rw [hsz]
  refine hQ _ (Heap.get?_push_of_some _ z3) ((j1.extBut s3.extBut pq).at fun o e => Heap.get?_push_of_some _ e) (j2.at fun o e => Heap.get?_push_of_some _ e) ?_ ?_ fun c o a b d e => Heap.get?_push_of_some _ (k3 c o a b d e)
  · show IsPair _ s.heap.objs.size x y
    rw [← hsz]
    exact Heap.get?_push_size _ rfl
  · rw [Heap.size_push, hsz]
theorem end_out {z ti tu t p q l : Addr} {f : Bool} {ot : Obj} {k : Nat} {xs : Array Value} {Q : Option Value → Shared → Prop} (hh : A.handled = none) (hz : Zo s.heap z ti tu t f) (ht : s.heap.get? t = some ot) (hp : IsPair s.heap ti (.ref p) (.ref q))
    (pz : p ≠ z) (lz : l ≠ z) (i1 : s.heap.IsListIter p l k) (m1 : s.heap.IsList l xs) (ex : xs[k]? = none)
    (hQ : ∀ h', (∀ c o, c ≠ z → c ≠ p → s.heap.get? c = some o → h'.get? c = some o) → Q none { s with heap := h' }) : wpAny (model prog w) A (pyNext (.ref z)) Q E s := by
  have ty : s.TypeIs (.ref z) "zip" := ⟨_, hz, rfl⟩
  unfold pyNext
  refine wpAny_bind (wpAny_attempt (wpAny_callSpecial?_slot (name := Str.ofString "__next__") ty F.slot_zip_next (wpAny_call_entry F.slot_zip_next ty F.entry_zip_next ?_ (F.args_zip_next_1 _))))
  show wpAny _ _ (field (.ref z) 2 >>= _) _ _ s
  refine wpAny_bind (wpAny_field hz rfl (x := .bool false) rfl ?_)
  show wpAny _ _ (field (.ref z) 3 >>= _) _ _ s
  refine wpAny_bind (wpAny_field hz rfl (x := .ref ti) rfl (wpAny_bind (wpAny_seqItems hp rfl ?_)))
  show wpAny _ _ (Builtin.SmallTypes.ownedTupleIsFree (.ref z) >>= _) _ _ s
  refine wpAny_bind (free_no hz ht fun h1 z1 e1 k1 => ?_)
  simp only [Bool.false_eq_true, if_false]
  refine wpAny_bind ?_
  rw [show (#[Value.ref p, Value.ref q] : Array Value) = [Value.ref p, Value.ref q].toArray from rfl, List.forIn_toArray]
  simp only [List.forIn_cons, List.forIn_nil]
  refine wpAny_bind (wpAny_bind (wpAny_holding ?_))
  show wpAny _ _ (Builtin.SmallTypes.nextOf (.ref p) >>= _) _ _ _
  refine wpAny_bind (wpAny_nextOf_list_end hh (i1.at fun o e => k1 _ o pz e) (m1.at fun o e => k1 _ o lz e) ex fun h2 e s2 he => ?_)
  obtain ⟨oe, ho, hc⟩ := he
  exact wpAny_bind (wpAny_isInstance (T := "StopIteration") (b := true) ⟨oe, ho, hc⟩ sub_st (wpAny_pure (hQ h2 fun c o a b e => s2 _ _ b (k1 c o a e))))
def Zs (h : Heap) (z ti tu p q S : Addr) (k : Nat) : Prop := (k = 0 ∧ IsZip h z ti tu .none ∧ ∃ a b, IsPair h tu a b) ∨ ∃ t f ot, Zo h z ti tu t f ∧ h.get? t = some ot ∧ S < t
structure Ap (z ti tu p q l r S : Addr) : Prop where
  d : ZipApart z ti tu p q l r
  Sz : z < S
  St : tu < S
  Si : ti < S
  Sp : p < S
  Sq : q < S
  Sl : l < S
  Sr : r < S
def Pr (xs ys : Array Value) (S : Addr) (h : Heap) (as : List Addr) : Prop := as.Nodup ∧ ∀ (j : Nat) (a : Addr), as[j]? = some a → S < a ∧ ∃ x y, xs[j]? = some x ∧ ys[j]? = some y ∧ IsPair h a x y
theorem no_len : typeLookup (.type "zip") "__len__" = pure none := by rw [typeLookup_type, builtinLookup_eq_fast]; kernel_rfl
theorem no_hint : typeLookup (.type "zip") "__length_hint__" = pure none := by rw [typeLookup_type, builtinLookup_eq_fast]; kernel_rfl
end
section
variable {prog : Program} {w : World} {A : Around} {s : Shared} {R : Result → Shared → Prop} {z ti tu p q l r S : Addr} {xs ys : Array Value}
theorem loop (hh : A.handled = none) (ap : Ap z ti tu p q l r S) (hxy : xs.size ≤ ys.size) (hn : xs.size ≤ sizeLine) (res : Value) {h0 : Heap}
    (hR : ∀ h' tk acc c as, (∀ b o, b ≠ S → b ≠ z → b ≠ tu → b ≠ p → b ≠ q → h0.get? b = some o → h'.get? b = some o) → h'.get? S = some { cls := .type "list", dict := none, data := .seq acc c, slots := #[] } → as.length = xs.size → Pr xs ys S h' as → acc.toList = as.map Value.ref → R (.ok (.ret res)) { s with heap := h', toks := tk }) :
    ∀ (m k : Nat) (h : Heap) (tk c : Nat) (acc : Array Value) (as : List Addr), xs.size - k = m → k ≤ xs.size → Zs h z ti tu p q S k → IsPair h ti (.ref p) (.ref q) → h.IsListIter p l k → h.IsListIter q r k → h.IsList l xs → h.IsList r ys → (∀ b o, b ≠ S → b ≠ z → b ≠ tu → b ≠ p → b ≠ q → h0.get? b = some o → h.get? b = some o) →
      h.get? S = some { cls := .type "list", dict := none, data := .seq acc c, slots := #[] } → acc.toList = as.map Value.ref → as.length = k → Pr xs ys S h as → codeAny (model prog w) A (.builtin "list.extend.loop" ⟨[.ref S, .ref z, res], []⟩) R { s with heap := h, toks := tk } := by
  obtain ⟨D, Sz, St, Si, Sp, Sq, Sl, Sr⟩ := ap
  intro m
  induction m with
  | zero =>
    intro k h tk c acc as hm hk zs hp i1 i2 m1 m2 keep hS ha hl pr
    refine codeAny_builtin PySem.F.entry_extend_loop ?_
    rw [Around.under_plainId PySem.F.plain_extend_loop _]
    show wpAny _ A.in1 (pyNext (.ref z) >>= _) _ _ _
    have ex : xs[k]? = none := Array.getElem?_eq_none (by omega)
    have fin : ∀ h', (∀ c o, c ≠ z → c ≠ tu → c ≠ p → c ≠ q → h.get? c = some o → h'.get? c = some o) → R (.ok (.ret res)) { s with heap := h', toks := tk } := fun h' kp => by
      refine hR h' tk acc c as (fun b o b1 b2 b3 b4 b5 e => kp b o b2 b3 b4 b5 (keep b o b1 b2 b3 b4 b5 e)) (kp S _ (Nat.ne_of_gt Sz) (Nat.ne_of_gt St) (Nat.ne_of_gt Sp) (Nat.ne_of_gt Sq) hS) (by omega) ⟨pr.1, fun j a hj => ?_⟩ ha
      obtain ⟨g, x, y, e1, e2, e3⟩ := pr.2 j a hj
      exact ⟨g, x, y, e1, e2, kp a _ (Nat.ne_of_gt (Nat.lt_trans Sz g)) (Nat.ne_of_gt (Nat.lt_trans St g)) (Nat.ne_of_gt (Nat.lt_trans Sp g)) (Nat.ne_of_gt (Nat.lt_trans Sq g)) e3⟩
    rcases zs with ⟨rfl, hz, a, b, ht⟩ | ⟨t, f, ot, hz, ht, hSt⟩
    · exact wpAny_bind (wpAny_pyNext_zip_end (s := { s with heap := h, toks := tk }) (A := A.in1) hh D hz hp ht i1 i2 m1 m2 (.inl ex) fun h' kp => wpAny_pure (fin h' kp))
    · exact wpAny_bind (end_out (s := { s with heap := h, toks := tk }) (A := A.in1) hh hz ht hp D.i1z D.l1z i1 m1 ex fun h' kp => wpAny_pure (fin h' fun c o a _ b _ e => kp c o a b e))
  | succ m ih =>
    intro k h tk c acc as hm hk zs hp i1 i2 m1 m2 keep hS ha hl pr
    have hlt : k < xs.size := by omega
    have ex : xs[k]? = some xs[k] := Array.getElem?_eq_getElem hlt
    have ey : ys[k]? = some ys[k] := Array.getElem?_eq_getElem (by omega)
    have hsz : acc.size = k := by rw [← Array.length_toList, ha, List.length_map, hl]
    have SL : S < h.objs.size := Heap.lt_size hS
    refine codeAny_builtin PySem.F.entry_extend_loop ?_
    rw [Around.under_plainId PySem.F.plain_extend_loop _]
    show wpAny _ A.in1 (pyNext (.ref z) >>= _) _ _ _
    have go : ∀ h', (∃ t f ot, Zo h' z ti tu t f ∧ h'.get? t = some ot ∧ S < t) → h'.IsListIter p l (k + 1) → h'.IsListIter q r (k + 1) → IsPair h' h.objs.size xs[k] ys[k] → (∀ c o, c ≠ z → c ≠ tu → c ≠ p → c ≠ q → h.get? c = some o → h'.get? c = some o) →
        wpAny (model prog w) A.in1 (updateSeq S (·.push (Value.ref h.objs.size)) >>= fun _ => again (.builtin "list.extend.loop" ⟨[.ref S, .ref z, res], []⟩)) (fun fin s' => match fin with | .done f => R (.ok f) s' | .again c' => c'.quiet = true ∧ codeAny (model prog w) A c' R s') (fun e s' => R (.error e) s') { s with heap := h', toks := tk } := by
      intro h' zo j1 j2 hpr kp
      have S' := kp S _ (Nat.ne_of_gt Sz) (Nat.ne_of_gt St) (Nat.ne_of_gt Sp) (Nat.ne_of_gt Sq) hS
      have up : ∀ b o, b ≠ S → h'.get? b = some o → (h'.update S (Obj.mapSeq (·.push (Value.ref h.objs.size)))).get? b = some o := fun b o hb e => (Heap.get?_update_other _ _ (Ne.symm hb)).trans e
      obtain ⟨t, f, ot, g1, g2, g3⟩ := zo
      have ndn : (as ++ [h.objs.size]).Nodup := by
        rw [List.nodup_append]
        refine ⟨pr.1, by simp, fun a hma b hb e => ?_⟩
        rw [List.mem_singleton] at hb
        obtain ⟨j, hj⟩ := List.getElem?_of_mem hma
        obtain ⟨_, _, _, _, _, e3⟩ := pr.2 j a hj
        rw [e, hb] at e3
        exact Nat.lt_irrefl _ (Heap.lt_size e3)
      refine wpAny_bind (wpAny_updateSeq S' rfl (wpAny_pure ⟨plainId_quiet PySem.F.plain_extend_loop _, ih (k + 1) _ tk _ (acc.push (Value.ref h.objs.size)) (as ++ [h.objs.size]) (by omega) hlt (.inr ⟨t, f, ot, up z _ (Nat.ne_of_lt Sz) g1, up t _ (Nat.ne_of_gt g3) g2, g3⟩) (up ti _ (Nat.ne_of_lt Si) (kp ti _ D.TIz D.TITO D.TIi1 D.TIi2 hp))
        (j1.at fun o e => up p o (Nat.ne_of_lt Sp) e) (j2.at fun o e => up q o (Nat.ne_of_lt Sq) e) (m1.at fun o e => up l o (Nat.ne_of_lt Sl) (kp l o D.l1z D.l1TO D.l1i1 D.l1i2 e)) (m2.at fun o e => up r o (Nat.ne_of_lt Sr) (kp r o D.l2z D.l2TO D.l2i1 D.l2i2 e)) (fun b o b1 b2 b3 b4 b5 e => up b o b1 (kp b o b2 b3 b4 b5 (keep b o b1 b2 b3 b4 b5 e)))
        (Heap.get?_update_self _ S' rfl) (by rw [Array.toList_push, ha, List.map_append]; rfl) (by rw [List.length_append, hl]; rfl) ⟨ndn, fun j b hj => ?_⟩⟩) (by rw [hsz]; omega) (by show (acc.push (Value.ref h.objs.size)).size ≤ sizeLine + 1; rw [Array.size_push, hsz]; omega))
      rcases Nat.lt_trichotomy j as.length with g | g | g
      · rw [List.getElem?_append_left g] at hj
        obtain ⟨u, x, y, e1, e2, e3⟩ := pr.2 j b hj
        exact ⟨u, x, y, e1, e2, up b _ (Nat.ne_of_gt u) (kp b _ (Nat.ne_of_gt (Nat.lt_trans Sz u)) (Nat.ne_of_gt (Nat.lt_trans St u)) (Nat.ne_of_gt (Nat.lt_trans Sp u)) (Nat.ne_of_gt (Nat.lt_trans Sq u)) e3)⟩
      · subst g
        have hb : h.objs.size = b := by simpa using hj
        subst hb
        exact ⟨SL, _, _, by rw [hl]; exact ex, by rw [hl]; exact ey, up _ _ (Nat.ne_of_gt SL) hpr⟩
      · rw [List.getElem?_eq_none (by rw [List.length_append, List.length_singleton]; omega)] at hj
        cases hj
    rcases zs with ⟨rfl, hz, a, b, ht⟩ | ⟨t, f, ot, hz, ht, hSt⟩
    · refine wpAny_bind (wpAny_pyNext_zip_item (s := { s with heap := h, toks := tk }) (A := A.in1) D hz hp ht i1 i2 m1 m2 ex ey fun h' g1 g2 g3 g4 g5 g6 g7 => ?_)
      exact go h' ⟨_, false, _, g1, g5, SL⟩ g3 g4 g5 g7
    · refine wpAny_bind (next_out (s := { s with heap := h, toks := tk }) (A := A.in1) hz ht hp D.i1z D.i2z D.l1z D.l2z D.i12 D.l1i1 D.l2i1 D.TIz i1 i2 m1 m2 ex ey fun h' g1 g3 g4 g5 g6 g7 => ?_)
      exact go h' ⟨t, true, ot, g1, g7 t ot (Nat.ne_of_gt (Nat.lt_trans Sz hSt)) (Nat.ne_of_gt (Nat.lt_trans Sp hSt)) (Nat.ne_of_gt (Nat.lt_trans Sq hSt)) ht, hSt⟩ g3 g4 g5 fun c o a _ b d e => g7 c o a b d e
theorem extend (hh : A.handled = none) (ap : Ap z ti tu p q l r S) (hxy : xs.size ≤ ys.size) (hn : xs.size ≤ sizeLine) (res : Value) (c0 : Nat) (hz : IsZip s.heap z ti tu .none) (ht : ∃ a b, IsPair s.heap tu a b) (hp : IsPair s.heap ti (.ref p) (.ref q)) (i1 : s.heap.IsListIter p l 0) (i2 : s.heap.IsListIter q r 0) (m1 : s.heap.IsList l xs) (m2 : s.heap.IsList r ys)
    (hS : s.heap.get? S = some { cls := .type "list", data := .seq #[] c0 })
    (hR : ∀ h' tk acc c as, (∀ b o, b ≠ S → b ≠ z → b ≠ tu → b ≠ p → b ≠ q → s.heap.get? b = some o → h'.get? b = some o) → h'.get? S = some { cls := .type "list", dict := none, data := .seq acc c, slots := #[] } → as.length = xs.size → Pr xs ys S h' as → acc.toList = as.map Value.ref → R (.ok (.ret res)) { s with heap := h', toks := tk }) :
    wpAny (model prog w) A.in1 (Builtin.List.listExtendWith (.ref S) (.ref z) res) (fun fin s' => match fin with | .done f => R (.ok f) s' | .again c' => c'.quiet = true ∧ codeAny (model prog w) A c' R s') (fun e s' => R (.error e) s') s := by
  have ty : s.TypeIs (.ref z) "zip" := ⟨_, hz, rfl⟩
  have hne : S ≠ z := Nat.ne_of_gt ap.Sz
  unfold Builtin.List.listExtendWith
  refine wpAny_bind (wpAny_typeOf ty ?_)
  have g1 : Builtin.List.listSameRef (.ref S) (.ref z) = false := by simp [Builtin.List.listSameRef, hne]
  have g2 : (Value.type "zip" == Value.type "list") = false := by decide
  have g3 : (Value.type "zip" == Value.type "tuple") = false := by decide
  simp only [g1, g2, g3, Bool.or_false, Bool.false_eq_true, if_false]
  refine wpAny_bind (wpAny_pyIter_zip hz (wpAny_bind (wpAny_holding ?_)))
  unfold Builtin.List.listLengthHint
  refine wpAny_bind (wpAny_specialOf ty no_len ?_)
  show wpAny _ A.in1 (specialOf (Value.ref z) (Str.ofString "__length_hint__") >>= _) _ _ _
  refine wpAny_bind (wpAny_specialOf ty no_hint (wpAny_pure ?_))
  show wpAny _ A.in1 (rule "list.extend.makes-room" >>= fun _ => Builtin.List.listTouch (.ref S) >>= fun _ => again (.builtin "list.extend.loop" ⟨[.ref S, .ref z, res], []⟩)) _ _ _
  refine wpAny_bind (wpAny_rule (wpAny_bind ?_))
  show wpAny _ A.in1 (updateSeq S (·.push .none) >>= fun _ => updateSeq S (·.pop)) _ _ _
  refine wpAny_bind (wpAny_updateSeq hS rfl ?_)
  have S2 := Heap.get?_update_self (Obj.mapSeq (·.push Value.none)) hS rfl
  refine wpAny_updateSeq (hz := by seq_fits) S2 rfl ?_
  have S3 := Heap.get?_update_self (Obj.mapSeq (·.pop)) S2 rfl
  have up : ∀ b o, b ≠ S → s.heap.get? b = some o → ((s.heap.update S (Obj.mapSeq (·.push Value.none))).update S (Obj.mapSeq (·.pop))).get? b = some o := fun b o hb e => (Heap.get?_update_other _ _ (Ne.symm hb)).trans ((Heap.get?_update_other _ _ (Ne.symm hb)).trans e)
  obtain ⟨a, b, ht⟩ := ht
  have ap' := ap
  obtain ⟨D, Sz, St, Si, Sp, Sq, Sl, Sr⟩ := ap
  exact wpAny_pure ⟨plainId_quiet F.plain_extend_loop _, loop hh ap' hxy hn res (h0 := s.heap) hR xs.size 0 _ _ _ #[] [] (Nat.sub_zero _) (Nat.zero_le _) (.inl ⟨rfl, up z _ (Nat.ne_of_lt Sz) hz, a, b, up tu _ (Nat.ne_of_lt St) ht⟩) (up ti _ (Nat.ne_of_lt Si) hp) (i1.at fun o e => up p o (Nat.ne_of_lt Sp) e) (i2.at fun o e => up q o (Nat.ne_of_lt Sq) e) (m1.at fun o e => up l o (Nat.ne_of_lt Sl) e) (m2.at fun o e => up r o (Nat.ne_of_lt Sr) e)
    (fun b o b1 _ _ _ _ e => up b o b1 e) S3 rfl rfl ⟨List.nodup_nil, fun j a hj => by simp at hj⟩⟩
end
end Lz
namespace Pw
open PySem PySem.Spec PyProof.Rows L2
section
variable {T : Cfg} {W : WX} {ρ : List (Option D)} {m0 m' : Mu} {XP : XW} {K : Out → Prop} {ta tb te te' : TE} {P : D → Mu → Prop} {u : TS}
abbrev InvI (ρ : Nat → List (Option D)) (J : Nat → Mu → Prop) : Nat → S → Prop := fun n s => leR (ρ n) s.r ∧ J n s.m
end
open Evl (ex_l ex_t)
section
variable {T : Cfg} {W : WX} {ρ : List (Option D)} {m0 : Mu} {XP : XW} {K : Out → Prop} {ta tb te te' : TE} {P : D → Mu → Prop} {u : TS} {μ : Mu}
theorem sv_frz {i : Nat} {a : Addr} {ds : List D} (h : ρ[i]? = some (some (.ptr a))) (hm : m0 a = some (.lst ds)) (k : SV T u W ⟨ρ.set i (some (.lst ds)), del m0 a⟩ K) : SV T u W ⟨ρ, m0⟩ K := fun σ Hb H Dn S c => by
  obtain ⟨v, e, r⟩ := S.vars i _ h
  cases r
  obtain ⟨n, o, ho, r⟩ := S.mu a _ hm
  cases o with
  | lst xs =>
    have g := Go.freeze S.sub S.mu hm ho
    have S1 := S.go g
    refine k σ (upd Hb a (.lst xs)) H Dn ⟨by simpa using S1.len, fun j d ej => ?_, S1.sub, S1.mu⟩ (c.go g)
    by_cases hij : i = j
    · subst hij
      have hl : i < ρ.length := by
        rcases Nat.lt_or_ge i ρ.length with w | w
        · exact w
        · rw [List.getElem?_eq_none w] at h; cases h
      have ej : (ρ.set i (some (.lst ds)))[i]? = some (some d) := ej
      rw [List.getElem?_set_self hl] at ej
      cases ej
      exact ⟨_, e, .lst upd_same r.1 (RepL.mono g.ex r).2⟩
    · have ej : (ρ.set i (some (.lst ds)))[j]? = some (some d) := ej
      rw [List.getElem?_set_ne hij] at ej
      exact S1.vars j d ej
  | _ => exact r.elim
theorem rep_rep {Hb : Hp} {ds : List D} {xs : List V} (r : RepL T Hb ds xs) : ∀ k : Nat, RepL T Hb (List.replicate k ds).flatten (List.replicate k xs).flatten
  | 0 => .nil
  | k + 1 => by
    rw [List.replicate_succ, List.replicate_succ, List.flatten_cons, List.flatten_cons]
    exact r.app (rep_rep r k)
theorem ov_rep {ds : List D} {k : Nat} (h1 : k ≤ 100000) (hl : ds.length * k ≤ 100000) (p : P (.lst (List.replicate k ds).flatten) μ) : OV T rRep (.lst ds) (.int (k : Int)) μ P := fun x y Hb H Q ex sm rx ry q => by
  obtain ⟨b, xs, rfl, hx, r⟩ := rx.lst_inv
  cases ry
  refine ⟨b, (k : Int), xs, rfl, rfl, ex _ _ hx, by omega, ?_, by rw [← r.1]; exact Evl.sz_of (by simpa using hl), fun p' hp => ?_⟩
  · have : (2 : Int) ^ 63 = 9223372036854775808 := by decide
    rw [this]; omega
  · have g := Go.lay ex sm (o := .lst (List.replicate (k : Int).toNat xs).flatten) hp
    have r2 := rep_rep r k
    exact q _ _ _ _ _ g (.lst upd_same r2.1 (r2.mono g.ex).2) p
theorem gv_lst {n : Nat} {gs : TGs} {is : List Nat} {d : D} {ds : List D} {s : S} {K : S → Prop} (hd : Seqd d ds) (hn : ds.length = n) (h : GVs T gs is ds s K) : GV T (gLst T.K n gs) is d s K := fun x σ Hb H Kt S r q => by
  obtain ⟨a, xs, rfl, hx, r⟩ := hd.inv r
  exact ⟨a, xs, rfl, ex_l S.sub hx, by rw [← r.1]; exact hn, h xs σ Hb H Kt S r q⟩
end
section
variable {T : Cfg} {W : WX} {ρ : List (Option D)} {m0 : Mu} {XP : XW} {K : Out → Prop} {ta : TA} {te te' : TE} {P : D → Mu → Prop} {u : TS} {μ : Mu}
def unK (i : Nat) (K : Out → Prop) : Out → Prop
  | .nx s => K (.nx ⟨s.r.set i none, s.m⟩)
  | .bk s => K (.bk ⟨s.r.set i none, s.m⟩)
  | .ct s => K (.ct ⟨s.r.set i none, s.m⟩)
  | .rt d m => K (.rt d m)
  | .xr _ _ => False
def tryK (T : Cfg) (c : Value) (i : Nat) (ts : Addr → Value → Option Addr → TS) (K : Out → Prop) : Out → Prop
  | .xr x s' => PySem.W.exmOne T.K x.cls c = some true ∧ ∀ a d, (x.val = none → d = none) → SV T (ts a x.cls d) (fun _ _ _ _ => False) ⟨s'.r.set i (some (.ptr a)), s'.m⟩ (unK i K)
  | o => K o
theorem tryK_nx {c : Value} {i : Nat} {ts : Addr → Value → Option Addr → TS} {s' : S} (h : K (.nx s')) : tryK T c i ts K (.nx s') := h
theorem tryK_rt {c : Value} {i : Nat} {ts : Addr → Value → Option Addr → TS} {d : D} {m : Mu} (h : K (.rt d m)) : tryK T c i ts K (.rt d m) := h
theorem unK_rt {i : Nat} {d : D} {m : Mu} (h : K (.rt d m)) : unK i K (.rt d m) := h
theorem unK_nx {i : Nat} {s' : S} (h : K (.nx ⟨s'.r.set i none, s'.m⟩)) : unK i K (.nx s') := h
end
def rInC : R2 := fun x y H Q => ∃ (c : Nat) (z : Str), x = .str ⟨#[c]⟩ ∧ y = .str z ∧ Q (.bl (decide (c ∈ z.cps.toList))) H
section
variable {T : Cfg} {W : WX} {ρ : List (Option D)} {m0 : Mu} {XP : XW} {K : Out → Prop} {ta tb tc te te' : TE} {P : D → Mu → Prop} {u : TS} {μ : Mu}
theorem ev_chain {r r' : R2} (h : EV T ta W ⟨ρ, m0⟩ (fun d μ1 => EV T tb W ⟨ρ, μ1⟩ (fun e μ2 => OV T r d e μ2 (fun z μ3 => ∃ k, z = .bl k ∧ (k = true → EV T tc W ⟨ρ, μ3⟩ (fun f μ4 => OV T r' e f μ4 P) XP) ∧ (k = false → P (.bl false) μ3))) XP) XP) : EV T (tChain r r' ta tb tc) W ⟨ρ, m0⟩ P XP := fun σ Hb H Q S q x =>
  h σ Hb H _ S (fun d μ1 v Hb1 H1 g1 r1 p1 => p1 σ Hb1 H1 _ (S.go g1) (fun e μ2 w Hb2 H2 g2 r2 p2 =>
    p2 v w Hb2 H2 _ g2.sub g2.mu (r1.mono g2.ex) r2 fun z μ3 z' Hb3 H3 g3 r3 p3 => by
      obtain ⟨k, rfl, pt, pf⟩ := p3
      cases r3
      refine ⟨k, rfl, ?_⟩
      have g13 := (g1.trans g2).trans g3
      cases k with
      | false => exact q _ _ _ _ _ g13 (.bl false) (pf rfl)
      | true =>
        refine pt rfl σ Hb3 H3 _ (S.go g13) (fun f μ4 w4 Hb4 H4 g4 r4 p4 => ?_) (fun y μ' cls dd Hb' H' g r p => x y μ' cls dd Hb' H' (g13.trans g) r p)
        exact p4 w w4 Hb4 H4 Q g4.sub g4.mu ((r2.mono g3.ex).mono g4.ex) r4 fun z5 μ5 u5 Hb5 H5 g5 r5 p5 => q z5 μ5 u5 Hb5 H5 ((g13.trans g4).trans g5) r5 p5)
    (fun y μ' cls dd Hb' H' g r p => x y μ' cls dd Hb' H' (g1.trans g) r p)) x
theorem ov_inC {c : Nat} {z : Str} (p : P (.bl (decide (c ∈ z.cps.toList))) μ) : OV T rInC (.str ⟨#[c]⟩) (.str z) μ P := ov_of (fun x y Hb H Q ex rx ry q => by
  cases rx; cases ry
  exact ⟨c, z, rfl, rfl, q _ (.bl _)⟩) p
theorem ov_ixS {z : Str} {i : Int} {c : Nat} (hz : z.length ≤ 100000) (h : atI z.cps.toList i = some c) (p : P (.str ⟨#[c]⟩) μ) : OV T rIxS (.str z) (.int i) μ P := ov_of (fun x y Hb H Q ex rx ry q => by
  cases rx; cases ry
  exact ⟨z, i, c, rfl, rfl, Evl.sz_of hz, h, q _ (.str _)⟩) p
theorem ev_slS {tl th : TO} (h : EV T te W ⟨ρ, m0⟩ (fun d μ1 => OV' T tl W ⟨ρ, μ1⟩ (fun lo μ2 => OV' T th W ⟨ρ, μ2⟩ (fun hi μ3 => ∃ z : Str, d = .str z ∧ z.length ≤ 100000 ∧ P (.str (cutS z lo hi)) μ3) XP) XP) XP) : EV T (tSl rSlS te tl th) W ⟨ρ, m0⟩ P XP := fun σ Hb H Q S q x =>
  h σ Hb H _ S (fun d μ1 v Hb1 H1 g1 r1 p1 => p1 σ Hb1 H1 _ (S.go g1) (fun lo μ2 Hb2 H2 g2 p2 => p2 σ Hb2 H2 _ (S.go (g1.trans g2)) (fun hi μ3 Hb3 H3 g3 p3 => by
    obtain ⟨z, rfl, hz, p⟩ := p3
    cases r1
    exact ⟨z, rfl, Evl.sz_of hz, q _ _ _ _ _ ((g1.trans g2).trans g3) (.str _) p⟩)
    (fun y μ' cls dd Hb' H' g r p => x y μ' cls dd Hb' H' ((g1.trans g2).trans g) r p)) (fun y μ' cls dd Hb' H' g r p => x y μ' cls dd Hb' H' (g1.trans g) r p)) x
theorem sv_forS {i : Nat} (h : EV T te W ⟨ρ, m0⟩ (fun d μ => ∃ (z : Str) (ρ' : Nat → List (Option D)) (J : Nat → Mu → Prop), d = .str z ∧ leR (ρ' 0) ρ ∧ J 0 μ ∧ (∀ n c μ', z.cps.toList[n]? = some c → J n μ' → SV T u W ⟨(ρ' n).set i (some (.str ⟨#[c]⟩)), μ'⟩ (forK (InvI ρ' J) n K)) ∧ ∀ s', leR (ρ' z.cps.size) s'.r → J z.cps.size s'.m → K (.nx s')) (xk ⟨ρ, m0⟩ K)) : SV T (tFor (iStr te) (gName i) u) W ⟨ρ, m0⟩ K :=
  sv_for (is := [i]) (iv_str (h.imp fun d μ ⟨z, ρ', J, e, hr, j0, turn, done⟩ => ⟨z, e, InvI ρ' J, ⟨hr, j0⟩, fun n s' hn hi => by
    have hc : z.cps.toList[n]? = some (z.cps.getD n 0) := by
      rw [Array.getElem?_toList, Array.getD_eq_getD_getElem?, Array.getElem?_eq_getElem hn]
      rfl
    exact gv_name (sv_wk (hi.1.set i _) sub_refl (turn n _ s'.m hc hi.2)), fun s' hi => done s' hi.1 hi.2⟩))
abbrev InvE {X : Type} (R : X → List (Option D)) (J : Nat → X → Mu → Prop) : Nat → S → Prop := fun n s => ∃ x, leR (R x) s.r ∧ J n x s.m
theorem sv_forRgE {X : Type} (R : X → List (Option D)) (J : Nat → X → Mu → Prop) {i : Nat} {ta : TA} (h : EA T ta W ⟨ρ, m0⟩ (fun ds μ => ∃ (n : Int) (x0 : X), ds = [.int n] ∧ n ≤ 1000000 ∧ -1000000 ≤ n ∧ leR (R x0) ρ ∧ J 0 x0 μ ∧ (∀ (k : Nat) x μ', k < n.toNat → J k x μ' → SV T u W ⟨(R x).set i (some (.int k)), μ'⟩ (forK (InvE R J) k K)) ∧ ∀ s' x, leR (R x) s'.r → J n.toNat x s'.m → K (.nx s')) (xk ⟨ρ, m0⟩ K)) : SV T (tFor (iRng1 ta) (gName i) u) W ⟨ρ, m0⟩ K :=
  sv_for (is := [i]) (iv_rng1 (fun σ Hb H Q S q x => h σ Hb H Q S (fun ds μ vs Hb' H' g r ⟨n, x0, e, h1, h2, hr, j0, turn, done⟩ => q ds μ vs Hb' H' g r ⟨n, e, h1, h2, InvE R J, ⟨x0, hr, j0⟩, fun k s' hk ⟨y, hy, hj⟩ => by
    have e0 : (0 : Int) + (k : Nat) = (k : Int) := by omega
    show GV T (gName i) [i] (.int (0 + (k : Nat))) s' _
    rw [e0]
    exact gv_name (sv_wk (hy.set i _) sub_refl (turn k y s'.m hk hj)), fun s' ⟨y, hy, hj⟩ => done s' y hy hj⟩) x))
theorem ev_lcSB {i : Nat} {f : Nat → Bool} (h : EV T te W ⟨ρ, m0⟩ (fun d μ => ∃ z : Str, d = .str z ∧ z.cps.size ≤ 100000 ∧ (∀ c ∈ z.cps.toList, EV T te' (fun _ _ _ _ => False) ⟨(wipeD ρ [i]).set i (some (.str ⟨#[c]⟩)), μ⟩ (fun x μ' => x = .bl (f c) ∧ μ' = μ) (fun _ _ => False)) ∧ P (.lst ((z.cps.toList.map f).map D.bl)) μ) XP) : EV T (tLc (iStr te) (gName i) tYes te' [i]) W ⟨ρ, m0⟩ P XP :=
  ev_lc (is := [i]) (fun _ h => h) (iv_str (h.imp fun d μ ⟨z, e, hl, turn, done⟩ => ⟨z, e, hl, fun n acc μ' => μ' = μ ∧ acc = ((z.cps.toList.take n).map f).map D.bl, ⟨rfl, by simp⟩, fun n acc μ' hn _ ⟨e1, e2⟩ => by
    subst e1 e2
    have hc : z.cps.toList[n]? = some (z.cps.getD n 0) := by
      rw [Array.getElem?_toList, Array.getD_eq_getD_getElem?, Array.getElem?_eq_getElem hn]
      rfl
    refine gv_name (tv_yes ⟨fun _ => ?_, fun e => (nomatch e)⟩)
    refine (turn _ (List.mem_of_getElem? hc)).imp fun x μ2 ⟨e1, e2⟩ => ⟨e2, ?_⟩
    rw [e1, List.take_succ, hc]
    simp, fun acc μ' ⟨e1, e2⟩ => by
    subst e1 e2
    have : z.cps.toList.take z.cps.size = z.cps.toList := by rw [← Array.length_toList, List.take_length]
    rw [this]
    exact done⟩))
end
section
variable {T : Cfg} {W : WX} {ρ : List (Option D)} {m0 : Mu} {XP : XW} {K : Out → Prop} {ta tb tc te te' : TE} {P : D → Mu → Prop} {u : TS} {μ : Mu}
theorem ev_slT {tl th : TO} (h : EV T te W ⟨ρ, m0⟩ (fun d μ1 => OV' T tl W ⟨ρ, μ1⟩ (fun lo μ2 => OV' T th W ⟨ρ, μ2⟩ (fun hi μ3 => ∃ ds, d = .tup ds ∧ P (.tup (cutD ds lo hi)) μ3) XP) XP) XP) : EV T (tSl (rSlA T.K) te tl th) W ⟨ρ, m0⟩ P XP := fun σ Hb H Q S q x =>
  h σ Hb H _ S (fun d μ1 v Hb1 H1 g1 r1 p1 => p1 σ Hb1 H1 _ (S.go g1) (fun lo μ2 Hb2 H2 g2 p2 => p2 σ Hb2 H2 _ (S.go (g1.trans g2)) (fun hi μ3 Hb3 H3 g3 p3 => by
    obtain ⟨ds, rfl, p⟩ := p3
    obtain ⟨a, xs, rfl, hx, r⟩ := ((r1.mono g2.ex).mono g3.ex).tup_inv
    have g13 := (g1.trans g2).trans g3
    have r0 : RepL T Hb3 (cutD ds lo hi) (cutV xs lo hi) := by
      unfold Pw.cutD cutV
      rw [← r.1]
      exact (r.drop _).take _
    refine ⟨a, xs, rfl, ex_t g3.sub hx, fun hw => ?_, fun _ p' hp => ?_⟩
    · have e : cutV xs lo hi = xs := by
        unfold cutV
        rw [hw.1, hw.2, Nat.sub_zero, List.drop_zero, List.take_length]
      rw [e] at r0
      exact q _ _ _ _ _ g13 (.tup hx r0.1 r0.2) p
    · have g := Go.lay g3.sub g3.mu (o := .tup (cutV xs lo hi)) hp
      have rr := r0.mono g.ex
      exact q _ _ _ _ _ (g13.trans g) (.tup (.inl (.inl upd_same)) rr.1 rr.2) p)
    (fun y μ' cls dd Hb' H' g r p => x y μ' cls dd Hb' H' ((g1.trans g2).trans g) r p)) (fun y μ' cls dd Hb' H' g r p => x y μ' cls dd Hb' H' (g1.trans g) r p)) x
end
abbrev AlG : Type := AlF × List (Option (List (Option (Str × Int))))
abbrev Dics := List (Str × List Str)
def obsG (fa : List He.Fa) (fn : List He.DefD) (exs : List (PySem.W.Frag → Bool)) (ds : Dics) (K : PySem.W.Frag) : AlG := (obsF fa fn exs K, ds.map fun q => He.dicW K (He.ga K q.1))
def valG (fn : List He.DefD) (ds : Dics) (w : World) : AlG := (valF fn, ds.map fun q => some (He.keysIn w.params q.2))
def SaysG (fa : List He.Fa) (fn : List He.DefD) (exs : List (PySem.W.Frag → Bool)) (ds : Dics) (w : World) (K : PySem.W.Frag) : Prop := obsG fa fn exs ds K = valG fn ds w
section
variable {fa : List He.Fa} {fn : List He.DefD} {exs : List (PySem.W.Frag → Bool)} {ds : Dics} {w : World} {K : PySem.W.Frag}
theorem SaysG.f (c : SaysG fa fn exs ds w K) : SaysF fa fn exs K := congrArg (fun z : AlG => z.1) c
theorem SaysG.fact (c : SaysG fa fn exs ds w K) (i : Nat) {f : He.Fa} (h : fa[i]? = some f) : f.ok K = true := c.f.fact i h
theorem SaysG.def_ (c : SaysG fa fn exs ds w K) (i : Nat) {d : He.DefD} (h : fn[i]? = some d) : ∃ fd, FunD K d.name d.qual d.params d.body d.scope (d.dvs K) (d.kws K) (He.fAd K d.at_) fd := c.f.def_ i h
theorem SaysG.ex_ (c : SaysG fa fn exs ds w K) (i : Nat) {e : PySem.W.Frag → Bool} (h : exs[i]? = some e) : e K = true := c.f.ex_ i h
theorem SaysG.dic (c : SaysG fa fn exs ds w K) (i : Nat) {q : Str × List Str} (h : ds[i]? = some q) : ∃ es n, KDict K w (He.ga K q.1) es n := by
  have c2 : (ds.map fun q => He.dicW K (He.ga K q.1)) = ds.map fun q => some (He.keysIn w.params q.2) := congrArg (fun z : AlG => z.2) c
  have e := congrArg (fun l => l[i]?) c2
  simp only [List.getElem?_map, h, Option.map_some] at e
  exact He.dicW_ok (Option.some.inj e)
end
open Evl (Ex ex_l ex_t fresh_back)
section
variable {T : Cfg} {W : WX} {s : S} {ρ : List (Option D)} {m0 : Mu} {K : Out → Prop} {ta tb te te' : TE} {m m1 : Mu} {Hb H Hb1 H1 : Hp} {Dn : Ends} {XP : XW} {P : D → Mu → Prop} {μ : Mu} {u : TS}
theorem ev_lcM {wi : TI} {g : TG} {is vs : List Nat} {tt : TT} {P : D → Mu → Prop} {XP : XW} (hv : ∀ i ∈ is, i ∈ vs)
    (h : IV T wi W ⟨ρ, m0⟩ (fun n f μ => n ≤ 100000 ∧ ∃ I : Nat → List D → Mu → Prop, I 0 [] μ ∧ (∀ i acc μ', i < n → acc.length ≤ i → I i acc μ' → GV T g is (f i) ⟨wipeD ρ vs, μ'⟩ (fun s'' => TV T tt (fun _ _ _ _ => False) s'' (fun b μ1 =>
      (b = true → EV T te (fun _ _ _ _ => False) ⟨s''.r, μ1⟩ (fun e μ2 => I (i + 1) (acc ++ [e]) μ2) (fun _ _ => False)) ∧ (b = false → I (i + 1) acc μ1)) (fun _ _ => False))) ∧ ∀ acc μ' p, I n acc μ' → acc.length ≤ n → μ' p = none → P (.ptr p) (put μ' p (.lst acc))) XP) :
    EV T (tLc wi g tt te vs) W ⟨ρ, m0⟩ P XP := fun σ Hb H Q S q x => by
  refine h σ Hb H _ S (fun J n f μ Hb1 H1 g1 ok p => ?_) x
  obtain ⟨hn, I, i0, turn, done⟩ := p
  have S1 := S.go g1
  intro Dl hD
  have hDb : Hb1 Dl = none := fresh_back S1.sub hD
  have hDm : μ Dl = none := by
    cases e : μ Dl with
    | none => rfl
    | some m =>
      obtain ⟨_, o, ho, _⟩ := g1.mu Dl m e
      rw [hD] at ho; cases ho
  -- the new list is one's own at Dl
  have gD : Go T μ Hb1 H1 (put μ Dl (.lst [])) Hb1 (upd H1 Dl (.lst [])) := Go.own g1.sub g1.mu hD RepL.nil
  refine ⟨fun i m H' => m = n - i ∧ i ≤ n ∧ ∃ acc μ' Hb', acc.length ≤ i ∧ μ' Dl = none ∧ Go T μ Hb1 H1 (put μ' Dl (.lst acc)) Hb' H' ∧ I i acc μ', ⟨n, by simp, Nat.zero_le _, [], μ, Hb1, Nat.le_refl _, hDm, gD, i0⟩, ?_⟩
  rintro i m H' ⟨rfl, hi, acc, μ', Hb', hl, hm', g', i'⟩
  have S' : Sim T ⟨ρ, put μ' Dl (.lst acc)⟩ σ Hb' H' := S1.go g'
  obtain ⟨go, stop, yld⟩ := ok Hb' H' g'.ex g'.sub
  by_cases hlt : i < n
  · refine .inr ⟨go i hlt, fun H2 => ∃ acc2 μ2 Hb2, acc2.length ≤ i + 1 ∧ μ2 Dl = none ∧ Go T μ Hb1 H1 (put μ2 Dl (.lst acc2)) Hb2 H2 ∧ I (i + 1) acc2 μ2, ?_, ?_⟩
    · rintro H2 ⟨acc2, μ2, Hb2, hl2, hm2, g2, i2⟩
      exact ⟨n - (i + 1), by omega, rfl, hlt, acc2, μ2, Hb2, hl2, hm2, g2, i2⟩
    · intro y H2 hy
      obtain ⟨Hb2, g2, r2⟩ := yld i y H2 hlt hy _ g'.mu
      have g02 := g'.trans g2
      -- the list set aside: the store without it
      have aside : ∀ {μa : Mu} {Hba Ha : Hp} {ac : List D}, μa Dl = none → SimMu T (put μa Dl (.lst ac)) Hba Ha → SimMu T μa Hba Ha := fun {μa Hba Ha ac} hn hs => hs.as fun a m ha => by
        refine hs a m ?_
        rw [put_ne (fun e => by rw [e, hn] at ha; cases ha)]
        exact ha
      have back : ∀ {μa μb : Mu} {Hba Ha Hbb Hc : Hp} {ac : List D}, μa Dl = none → SimMu T (put μa Dl (.lst ac)) Hba Ha → Go T μa Hba Ha μb Hbb Hc → μb Dl = none ∧ Go T (put μa Dl (.lst ac)) Hba Ha (put μb Dl (.lst ac)) Hbb Hc := fun {μa μb Hba Ha Hbb Hc ac} hn hs gg => by
        obtain ⟨hbn, o, ho, ro⟩ := hs Dl _ put_same
        obtain ⟨ho', hbn'⟩ := gg.keepN ho hbn hn ro
        have mb : μb Dl = none := by
          cases e : μb Dl with
          | none => rfl
          | some m =>
            rcases gg.new Dl m e with z | z
            · exact absurd hn z
            · rw [ho] at z; cases z
        refine ⟨mb, gg.ex, fun a u h1 h2 h3 h4 => ?_, fun a m h1 => ?_, gg.alive, gg.sub, gg.mu.as fun a m h1 => ?_⟩
        · have ne : a ≠ Dl := fun e => by rw [e, put_same] at h3; cases h3
          rw [put_ne ne] at h3
          exact gg.keep a u h1 h2 h3 h4
        · by_cases e : a = Dl
          · subst e; exact .inl (by rw [put_same]; simp)
          · rw [put_ne e] at h1 ⊢; exact gg.new a m h1
        · by_cases e : a = Dl
          · subst e
            rw [put_same] at h1
            cases h1
            exact ⟨hbn', o, ho', ro.mono gg.ex⟩
          · rw [put_ne e] at h1; exact gg.mu a m h1
      have Sw0 : Sim T ⟨ρ, put μ' Dl (.lst acc)⟩ σ Hb2 H2 := S'.go g2
      have Sw : Sim T ⟨ρ, μ'⟩ σ Hb2 H2 := ⟨Sw0.len, Sw0.vars, Sw0.sub, aside hm' Sw0.mu⟩
      have Sww : Sim T ⟨wipeD ρ vs, μ'⟩ (L2.wipe σ vs) Hb2 H2 := Sw.wipe vs
      refine turn i acc μ' hlt hl i' y (L2.wipe σ vs) Hb2 H2 _ Sww r2 fun s3 σ3 em S3 wq k => ?_
      have em : s3.m = μ' := em
      refine ⟨?_, ?_⟩
      · have e1 := wq vs hv
        have idem : ∀ (us : List Nat), (∀ u ∈ us, u ∈ vs) → L2.wipe (L2.wipe σ vs) us = L2.wipe σ vs := by
          intro us
          induction us with
          | nil => intro _; rfl
          | cons u us ih =>
            intro hu
            show (L2.wipe (L2.wipe σ vs) us).set u none = L2.wipe σ vs
            rw [ih fun z hz => hu z (List.mem_cons_of_mem _ hz)]
            have : ∀ (ws : List Nat) (u : Nat), u ∈ ws → (L2.wipe σ ws).set u none = L2.wipe σ ws := by
              intro ws
              induction ws with
              | nil => intro u hu; cases hu
              | cons w ws ih2 =>
                intro u hu
                show ((L2.wipe σ ws).set w none).set u none = (L2.wipe σ ws).set w none
                by_cases e : u = w
                · subst e; rw [List.set_set]
                · have hu2 : u ∈ ws := by
                    rcases List.mem_cons.mp hu with z | z
                    · exact absurd z e
                    · exact z
                  rw [List.set_comm _ _ (fun z => e z.symm), ih2 u hu2]
            exact this vs u (hu u (by simp))
        rw [e1]
        exact idem vs fun _ z => z
      · refine k σ3 Hb2 H2 _ S3 (fun b μ3 Hb3 H3 g3 kk => ?_) (fun _ _ _ _ _ _ _ _ z => z.elim)
        rw [em] at g3
        obtain ⟨hm3, g3'⟩ := back hm' Sw0.mu g3
        have S3' : Sim T ⟨s3.r, μ3⟩ σ3 Hb3 H3 := S3.go (by rw [em]; exact g3)
        cases b with
        | false =>
          show ∃ acc2 μ2 Hb2, _
          exact ⟨acc, μ3, Hb3, by omega, hm3, g02.trans g3', kk.2 rfl⟩
        | true =>
          show te σ3 H3 _
          refine kk.1 rfl σ3 Hb3 H3 _ S3' (fun e μ4 w Hb4 H4 g4 r4 i4 => ?_) (fun _ _ _ _ _ _ _ _ z => z.elim)
          obtain ⟨hm4, g4'⟩ := back hm3 g3'.mu g4
          obtain ⟨_, o, ho, ro⟩ := g4'.mu Dl _ put_same
          cases o with
          | lst xs =>
            have ro : RepL T Hb4 acc xs := ro
            have g5 := Go.chg g4'.sub g4'.mu (p := Dl) (o := .lst (xs ++ [w])) (z := .lst (acc ++ [e])) put_same (ro.app (.cons r4 .nil))
            rw [put_put] at g5
            exact ⟨xs, ho, Evl.sz_lt (by rw [← ro.1]; omega), acc ++ [e], μ4, Hb4, by simp; omega, hm4, ((g02.trans g3').trans g4').trans g5, i4⟩
          | _ => exact ro.elim
  · have e : i = n := by omega
    subst e
    exact .inl ⟨stop i (Nat.le_refl _), q _ _ _ _ _ (g1.trans g') (.ptr Dl) (done acc μ' Dl i' hl hm')⟩
theorem mu_fresh {p : Addr} (sm : SimMu T μ Hb H) (hp : H p = none) : μ p = none := by
  cases e : μ p with
  | none => rfl
  | some m =>
    obtain ⟨_, o, ho, _⟩ := sm p m e
    rw [hp] at ho; cases ho
theorem ov_repM {ds : List D} {k : Nat} (h1 : k ≤ 100000) (hl : ds.length * k ≤ 100000) (p : ∀ a, μ a = none → P (.ptr a) (put μ a (.lst (List.replicate k ds).flatten))) : OV T rRep (.lst ds) (.int (k : Int)) μ P := fun x y Hb H Q ex sm rx ry q => by
  obtain ⟨b, xs, rfl, hx, r⟩ := rx.lst_inv
  cases ry
  refine ⟨b, (k : Int), xs, rfl, rfl, ex _ _ hx, by omega, ?_, by rw [← r.1]; exact Evl.sz_of (by simpa using hl), fun p' hp => ?_⟩
  · have : (2 : Int) ^ 63 = 9223372036854775808 := by decide
    rw [this]; omega
  · have g := Go.own ex sm (o := .lst (List.replicate (k : Int).toNat xs).flatten) (z := .lst (List.replicate k ds).flatten) hp (rep_rep r k)
    exact q _ _ _ _ _ g (.ptr p') (p p' (mu_fresh sm hp))
theorem ov_repM1 {d : D} {k : Nat} (h1 : k ≤ 100000) (p : ∀ a, μ a = none → P (.ptr a) (put μ a (.lst (List.replicate k d)))) : OV T rRep (.lst [d]) (.int (k : Int)) μ P :=
  ov_repM h1 (by simpa using h1) fun a ha => by
    have e : (List.replicate k [d]).flatten = List.replicate k d := by
      clear h1 p
      induction k with
      | zero => rfl
      | succ k ih => rw [List.replicate_succ, List.flatten_cons, ih]; rfl
    rw [e]
    exact p a ha
theorem cv_lstC {d : D} {ds : List D} (hd : Seqd d ds ∨ d = .tup ds) (p : ∀ a, μ a = none → P (.ptr a) (put μ a (.lst ds))) : CV T (rListOf T.K) [d] μ P := fun xs Hb H Q ex sm r q => by
  obtain ⟨v, rfl, r1⟩ := one_inv r
  have : ∃ a ys, v = .ref a ∧ (SqL T.K H a ys ∨ SqT T.K H a ys) ∧ RepL T Hb ds ys := by
    rcases hd with hd | rfl
    · obtain ⟨a, ys, rfl, hx, r2⟩ := hd.inv r1
      exact ⟨a, ys, rfl, .inl (ex_l ex hx), r2⟩
    · obtain ⟨a, ys, rfl, hx, r2⟩ := r1.tup_inv
      exact ⟨a, ys, rfl, .inr (ex_t ex hx), r2⟩
  obtain ⟨a, ys, rfl, hx, r2⟩ := this
  refine ⟨a, ys, rfl, hx, fun l hl => ?_⟩
  have g := Go.own ex sm (o := .lst ys) (z := .lst ds) hl r2
  exact q _ _ _ _ _ g (.ptr l) (p l (mu_fresh sm hl))
theorem cv_lstI {d : D} {ds : List D} (hd : Seqd d ds ∨ d = .tup ds) (p : P (.lst ds) μ) : CV T (rListOf T.K) [d] μ P := fun xs Hb H Q ex sm r q => by
  obtain ⟨v, rfl, r1⟩ := one_inv r
  have : ∃ a ys, v = .ref a ∧ (SqL T.K H a ys ∨ SqT T.K H a ys) ∧ RepL T Hb ds ys := by
    rcases hd with hd | rfl
    · obtain ⟨a, ys, rfl, hx, r2⟩ := hd.inv r1
      exact ⟨a, ys, rfl, .inl (ex_l ex hx), r2⟩
    · obtain ⟨a, ys, rfl, hx, r2⟩ := r1.tup_inv
      exact ⟨a, ys, rfl, .inr (ex_t ex hx), r2⟩
  obtain ⟨a, ys, rfl, hx, r2⟩ := this
  refine ⟨a, ys, rfl, hx, fun l hl => ?_⟩
  have g := Go.lay ex sm (o := .lst ys) hl
  have rr := r2.mono g.ex
  exact q _ _ _ _ _ g (.lst upd_same rr.1 rr.2) p
theorem cv_tupI {d : D} {ds : List D} (hd : Seqd d ds) (p : P (.tup ds) μ) : CV T (rTupOf T.K) [d] μ P := fun xs Hb H Q ex sm r q => by
  obtain ⟨v, rfl, r1⟩ := one_inv r
  obtain ⟨a, ys, rfl, hx, r2⟩ := hd.inv r1
  refine ⟨a, ys, rfl, .inl ⟨ex_l ex hx, fun l hl => ?_⟩⟩
  have g := Go.lay ex sm (o := .tup ys) hl
  have rr := r2.mono g.ex
  exact q _ _ _ _ _ g (.tup (.inl (.inl upd_same)) rr.1 rr.2) p
theorem cv_sumM {a : Addr} {ns : List Int} (hm : μ a = some (.lst (ns.map D.int))) (p : P (.int ns.sum) μ) : CV T (rSum T.K) [.ptr a] μ P := fun xs Hb H Q ex sm r q => by
  obtain ⟨v, rfl, r1⟩ := one_inv r
  cases r1
  obtain ⟨n, o, ho, r⟩ := sm a _ hm
  cases o with
  | lst xs =>
    obtain rfl := RepL.ints (T := T) (H := Hb) r
    exact ⟨a, ns, rfl, Evl.sq_of ho, q _ _ _ _ _ (.refl ex sm) (.int _) p⟩
  | _ => exact r.elim
theorem sv_ext (h : EV T ta W ⟨ρ, m0⟩ (fun d μ1 => ∃ a ds0, d = .ptr a ∧ μ1 a = some (.lst ds0) ∧ EV T te W ⟨ρ, μ1⟩ (fun e μ2 => ∃ ds es, e = .lst es ∧ μ2 a = some (.lst ds) ∧ ds.length + es.length ≤ 100000 ∧ K (.nx ⟨ρ, put μ2 a (.lst (ds ++ es))⟩)) (xk ⟨ρ, m0⟩ K)) (xk ⟨ρ, m0⟩ K)) :
    SV T (tDrop (tBM T.K "list" rExtend ta (tCons te tNil))) W ⟨ρ, m0⟩ K := fun σ Hb H Dn S c => by
  refine h σ Hb H _ S (fun d μ1 v Hb1 H1 g1 r1 p1 => ?_) (c.x S)
  obtain ⟨a, ds0, rfl, hm, p1⟩ := p1
  cases r1
  obtain ⟨n, o, ho, r⟩ := g1.mu a _ hm
  cases o with
  | lst xs0 =>
    refine ⟨Or.inl ⟨rfl, xs0, Evl.sq_of ho⟩, ?_⟩
    refine p1 σ Hb1 H1 _ (S.go g1) (fun e μ2 w Hb2 H2 g2 r2 p2 => ?_) (fun x μ' cls dd Hb' H' g r k => c.x S x μ' cls dd Hb' H' (g1.trans g) r k)
    obtain ⟨ds, es, rfl, hm2, hl, k⟩ := p2
    obtain ⟨n2, o2, ho2, rr⟩ := g2.mu a _ hm2
    obtain ⟨b, ys, rfl, hy, r3⟩ := r2.lst_inv
    cases o2 with
    | lst xs =>
      have rr : RepL T Hb2 ds xs := rr
      have g3 := Go.chg g2.sub g2.mu (p := a) (o := .lst (xs ++ ys)) (z := .lst (ds ++ es)) hm2 (rr.app r3)
      have g := (g1.trans g2).trans g3
      exact ⟨a, b, xs, ys, rfl, rfl, ho2, g2.sub _ _ hy, by rw [← rr.1, ← r3.1]; exact Evl.sz_of hl, c.nx _ _ _ _ g (S.go g) k⟩
    | _ => exact rr.elim
  | _ => exact r.elim
end
inductive Same (a : Addr) (e : D) : D → D → Prop
  | hit : Same a e (.ptr a) e
  | refl (d : D) : Same a e d d
  | lst {ds es : List D} (l : ds.length = es.length) (h : ∀ (i : Nat) (x y : D), ds[i]? = some x → es[i]? = some y → Same a e x y) : Same a e (.lst ds) (.lst es)
  | tup {ds es : List D} (l : ds.length = es.length) (h : ∀ (i : Nat) (x y : D), ds[i]? = some x → es[i]? = some y → Same a e x y) : Same a e (.tup ds) (.tup es)
section
variable {T : Cfg} {W : WX} {s : S} {ρ : List (Option D)} {m0 : Mu} {K : Out → Prop} {ta tb te te' : TE} {m m1 : Mu} {Hb H Hb1 H1 : Hp} {Dn : Ends} {XP : XW} {P : D → Mu → Prop} {μ : Mu} {u : TS}
theorem Same.rep {a : Addr} {e d d' : D} (h : Same a e d d') (ex : Ex Hb Hb1) (he : Rep T Hb1 e (.ref a)) : ∀ {v : V}, Rep T Hb d v → Rep T Hb1 d' v := by
  induction h with
  | hit => intro v r; cases r; exact he
  | refl d => intro v r; exact r.mono ex
  | @lst ds es l h ih =>
    intro v r
    obtain ⟨b, xs, rfl, hx, rl⟩ := r.lst_inv
    refine .lst (ex _ _ hx) (l.symm.trans rl.1) fun i y w hy hw => ?_
    have hi : i < ds.length := by rw [l]; exact (List.getElem?_eq_some_iff.mp hy).1
    exact ih i _ y (List.getElem?_eq_getElem hi) hy (rl.2 i _ w (List.getElem?_eq_getElem hi) hw)
  | @tup ds es l h ih =>
    intro v r
    obtain ⟨b, xs, rfl, hx, rl⟩ := r.tup_inv
    refine .tup (ex_t ex hx) (l.symm.trans rl.1) fun i y w hy hw => ?_
    have hi : i < ds.length := by rw [l]; exact (List.getElem?_eq_some_iff.mp hy).1
    exact ih i _ y (List.getElem?_eq_getElem hi) hy (rl.2 i _ w (List.getElem?_eq_getElem hi) hw)
theorem ev_wlo {a : Addr} (h : EV T te W ⟨ρ, m0⟩ (fun d μ => ∃ b, μ a = some (.well b) ∧ P d (put mu0 a (.well b))) XP) : EV T te W ⟨ρ, m0⟩ P XP := fun σ Hb H Q S q x =>
  h σ Hb H Q S (fun d μ v Hb' H' g r ⟨b, hm, p⟩ => q d _ v Hb' H' (g.forget (sub_one hm)) r p) x
theorem ev_lcU {i : Nat} (h : EV T te W ⟨ρ, m0⟩ (fun d μ => ∃ (ds : List D) (f : D → D), d = .tup ds ∧ ds.length ≤ 100000 ∧ (∀ e ∈ ds, EV T te' (fun _ _ _ _ => False) ⟨(wipeD ρ [i]).set i (some e), μ⟩ (fun x μ' => x = f e ∧ μ' = μ) (fun _ _ => False)) ∧ P (.lst (ds.map f)) μ) XP) : EV T (tLc (iTup T.K te) (gName i) tYes te' [i]) W ⟨ρ, m0⟩ P XP :=
  ev_lc (is := [i]) (fun _ h => h) (iv_tup (h.imp fun d μ ⟨ds, f, hs, hl, turn, done⟩ => ⟨ds, hs, hl, fun n acc μ' => μ' = μ ∧ acc = (ds.take n).map f, ⟨rfl, by simp⟩, fun n acc μ' hn _ ⟨e1, e2⟩ => by
    subst e1 e2
    refine gv_name (tv_yes ⟨fun _ => ?_, fun e => (nomatch e)⟩)
    have hm : nth ds n ∈ ds := List.mem_of_getElem? (nth_get hn)
    refine (turn _ hm).imp fun x μ2 ⟨e1, e2⟩ => ⟨e2, ?_⟩
    rw [e1, List.take_succ, nth_get hn]
    simp, fun acc μ' ⟨e1, e2⟩ => by
    subst e1 e2
    rw [List.take_length]
    exact done⟩))
theorem cv_max2 {i j : Int} (p : P (.int (if j > i then j else i)) μ) : CV T Evl.rMax2 [.int i, .int j] μ P := cv_of (fun xs Hb H Q ex r q => by
  obtain ⟨v, w, rfl, r1, r2⟩ := two_inv r
  cases r1; cases r2
  exact ⟨i, j, rfl, q _ (.int _)⟩) p
end
end Pw
namespace NQ
open PySem PySem.SeqAt GQ
open AutoSeq1 (wpAny_loadPart')
open MeetsSeq MeetsSeq2 MeetsSeq3 SeqRoads2
end NQ
namespace Pw
open PySem PySem.Spec PyProof.Rows L2
open Evl (Ex ex_l ex_t)
section
variable {T : Cfg} {P : D → Mu → Prop} {μ : Mu}
theorem Go.ext {Hb H H' : Hp} (ex : Ex Hb H) (sm : SimMu T μ Hb H) (e : Ext H H') : Go T μ Hb H μ Hb H' :=
  ⟨Ex.refl _, fun a o h n _ _ => ⟨e a o h, fun _ => n⟩, fun a m h => .inl (by rw [h]; simp), fun a o h => ⟨o, e a o h⟩, fun a o h => e a o (ex a o h), sm.up (fun a u _ q => e a u q) (fun _ _ _ => Iff.rfl) fun a m h => by
    obtain ⟨n, o, ho, r⟩ := sm a m h
    exact ⟨n, o, e a o ho, r⟩⟩
end
open Evl (Ex ex_l ex_t fresh_back)
inductive Stl (μ : Mu) : D → D → Prop
  | refl (d : D) : Stl μ d d
  | ptr {p : Addr} {ds es : List D} (h : μ p = some (.lst ds)) (l : ds.length = es.length) (k : ∀ (i : Nat) (x y : D), ds[i]? = some x → es[i]? = some y → Stl μ x y) : Stl μ (.ptr p) (.lst es)
  | lst {ds es : List D} (l : ds.length = es.length) (k : ∀ (i : Nat) (x y : D), ds[i]? = some x → es[i]? = some y → Stl μ x y) : Stl μ (.lst ds) (.lst es)
  | tup {ds es : List D} (l : ds.length = es.length) (k : ∀ (i : Nat) (x y : D), ds[i]? = some x → es[i]? = some y → Stl μ x y) : Stl μ (.tup ds) (.tup es)
theorem Stl.own {μ : Mu} {p : Addr} {ds : List D} (h : μ p = some (.lst ds)) : Stl μ (.ptr p) (.lst ds) := .ptr h rfl fun i x y hx hy => by
  rw [hx] at hy; cases hy; exact .refl _
theorem Stl.two {μ : Mu} {d e d' e' : D} (h : Stl μ d d') (k : Stl μ e e') : Stl μ (.tup [d, e]) (.tup [d', e']) := .tup rfl fun i x y hx hy => by
  match i, hx, hy with
  | 0, hx, hy => cases hx; cases hy; exact h
  | 1, hx, hy => cases hx; cases hy; exact k
  | n + 2, hx, _ => simp at hx
def frzH (μ : Mu) (a : Addr) (Hb H : Hp) : Hp := fun b => if b = a then Hb b else match μ b with
  | some (.lst _) => H b
  | _ => Hb b
section
variable {T : Cfg} {W : WX} {ρ ρ' : List (Option D)} {m0 : Mu} {K : Out → Prop} {ta tb te te' : TE} {Hb H : Hp} {XP : XW} {P : D → Mu → Prop} {μ : Mu} {u : TS}
theorem frz_ex {a : Addr} (ex : Ex Hb H) (sm : SimMu T μ Hb H) : Ex Hb (frzH μ a Hb H) := fun b o h => by
  unfold frzH
  split
  · exact h
  · split
    · exact ex b o h
    · exact h
theorem frz_iffH {a : Addr} (sm : SimMu T μ Hb H) (b : Addr) (u : HO) (hu : ¬ NoTC u) : frzH μ a Hb H b = some u ↔ Hb b = some u := by
  unfold frzH
  split
  · exact Iff.rfl
  · split
    · rename_i h
      exact sm.frz_iff h hu
    · exact Iff.rfl
theorem frz_sub {a : Addr} (ex : Ex Hb H) : Ex (frzH μ a Hb H) H := fun b o h => by
  unfold frzH at h
  split at h
  · exact ex b o h
  · split at h
    · exact h
    · exact ex b o h
theorem Stl.rep {a : Addr} {w : MO} {d d' : D} (h : Stl μ d d') (ex : Ex Hb H) (sm : SimMu T μ Hb H) (ha : μ a = some w) (hw : ∀ ds, w ≠ .lst ds) : ∀ {v : V}, Rep T Hb d v → Rep T (frzH μ a Hb H) d' v := by
  have e1 := frz_ex (a := a) ex sm
  induction h with
  | refl d => intro v r; exact r.mono e1
  | @ptr p ds es hp l k ih =>
    intro v r
    cases r
    obtain ⟨n, o, ho, ro⟩ := sm p _ hp
    cases o with
    | lst xs =>
      have ro : RepL T Hb ds xs := ro
      have hh : frzH μ a Hb H p = some (.lst xs) := by
        unfold frzH
        rw [if_neg (fun e => by rw [e, ha] at hp; cases hp; exact hw _ rfl), hp]
        exact ho
      refine .lst hh (l.symm.trans ro.1) fun i y z hy hz => ?_
      have hi : i < ds.length := by rw [l]; exact (List.getElem?_eq_some_iff.mp hy).1
      exact ih i _ y (List.getElem?_eq_getElem hi) hy (ro.2 i _ z (List.getElem?_eq_getElem hi) hz)
    | _ => exact ro.elim
  | @lst ds es l k ih =>
    intro v r
    obtain ⟨b, xs, rfl, hx, rl⟩ := r.lst_inv
    refine .lst (e1 _ _ hx) (l.symm.trans rl.1) fun i y w hy hw => ?_
    have hi : i < ds.length := by rw [l]; exact (List.getElem?_eq_some_iff.mp hy).1
    exact ih i _ y (List.getElem?_eq_getElem hi) hy (rl.2 i _ w (List.getElem?_eq_getElem hi) hw)
  | @tup ds es l k ih =>
    intro v r
    obtain ⟨b, xs, rfl, hx, rl⟩ := r.tup_inv
    refine .tup (ex_t e1 hx) (l.symm.trans rl.1) fun i y w hy hw => ?_
    have hi : i < ds.length := by rw [l]; exact (List.getElem?_eq_some_iff.mp hy).1
    exact ih i _ y (List.getElem?_eq_getElem hi) hy (rl.2 i _ w (List.getElem?_eq_getElem hi) hw)
theorem ev_stl {a : Addr} (h : EV T te W ⟨ρ, m0⟩ (fun d μ => ∃ d' b, Stl μ d d' ∧ μ a = some (.well b) ∧ P d' (put mu0 a (.well b))) XP) : EV T te W ⟨ρ, m0⟩ P XP := fun σ Hb H Q S q x =>
  h σ Hb H Q S (fun d μ v Hb' H' g r p => by
    obtain ⟨d', b, st, ha, p⟩ := p
    have hna : ∀ ds, MO.well b ≠ .lst ds := fun ds e => by cases e
    have g2 : Go T μ Hb' H' (put mu0 a (.well b)) (frzH μ a Hb' H') H' := by
      refine ⟨frz_ex g.sub g.mu, fun c o h1 h2 h3 _ => ⟨h1, fun _ => ?_⟩, fun c m e => ?_, fun c o h1 => ⟨o, h1⟩, frz_sub g.sub, g.mu.up (fun _ _ _ q => q) (frz_iffH g.mu) fun c m e => ?_⟩
      · unfold frzH
        split
        · exact h2
        · rw [h3]; exact h2
      · left
        by_cases ec : c = a
        · rw [ec, ha]; simp
        · rw [put_ne ec] at e; cases e
      · by_cases ec : c = a
        · subst ec
          rw [put_same] at e
          cases e
          obtain ⟨n, o, ho, ro⟩ := g.mu c _ ha
          refine ⟨?_, o, ho, ro.mono (frz_ex g.sub g.mu)⟩
          unfold frzH
          rw [if_pos rfl]
          exact n
        · rw [put_ne ec] at e; cases e
    exact q d' _ v _ _ (g.trans g2) (st.rep g.sub g.mu ha hna r) p) x
theorem sv_wkR {s : S} (h : leR ρ' s.r) (k : SV T u W ⟨ρ', s.m⟩ K) : SV T u W s K := sv_wk (ρ := s.r) (m0 := s.m) h sub_refl k
end
structure Pln (d : D) (p : PyData) : Prop where
  dp : DPy d p
  lay : p.canLay0 = true
  dep : p.depth ≤ 2
theorem eqv_nil (ps : List PyData) : PyData.eqv (.list ps) (.list []) = decide (ps.length = 0) := by
  cases ps with
  | nil => rfl
  | cons p ps => rfl
end Pw
namespace NQ
open PySem PySem.SeqAt GQ
open AutoSeq1 (wpAny_loadPart')
open MeetsSeq MeetsSeq2 MeetsSeq3 SeqRoads2
end NQ
namespace Pw
open PySem PySem.Spec PyProof.Rows L2
open Evl (Ex ex_l ex_t)
open Evl (Ex ex_l ex_t fresh_back)
end Pw
namespace MxS
open PySem PySem.Spec PyProof.Rows L2
section
variable {P : Program} {w : World} {κ : Type} [DecidableEq κ] (kd : KeyKind P w κ)
structure Quiet : Prop where
  cls : ∀ (ks : List κ) (vs : List Value), ItemsAre kd ks vs → ∀ v ∈ vs, ∀ n, ofAClassStatement n v = pure false
  hsv : ∀ (ks : List κ) (vs : List Value), ItemsAre kd ks vs → ∀ v ∈ vs, ∀ n, ∃ c, hashByValue n v = pure c
abbrev hsh (k : List κ) : Int := tupleKeyHash kd k
def row (p : Addr × List κ) : Int × Value := (hsh kd p.2, Value.ref p.1)
structure Tb (h : Heap) (a : Addr) (L : List (Addr × List κ)) (es : Array (Int × Value)) (ep : Nat) (t : SetTable) : Prop where
  obj : ∃ o, o.ExactSet ∧ o.data = .set es ep t ∧ h.get? a = some o
  its : es.toList = L.map (row kd)
  okt : TabOk t (L.map fun p => hsh kd p.2)
  one : (L.map Prod.snd).Nodup
  key : ∀ p, p ∈ L → IsTupleKey kd h p.2 p.1
  lead : w.params.followText "set-order" = true ∨ t.led = true
  free : 5 * L.length < 3 * t.mask
  small : L.length ≤ 63
end
section
variable {P : Program} {w : World} {κ : Type} [DecidableEq κ] {kd : KeyKind P w κ} {A : Around} {E : Value → Shared → Prop} {s : Shared} {a : Addr} {L : List (Addr × List κ)} {es : Array (Int × Value)} {ep : Nat} {t : SetTable}
theorem quiet_cls (q : Quiet kd) {k : List κ} {b : Addr} {Z : Bool → Shared → Prop} (hk : IsTupleKey kd s.heap k b) (h : Z false s) : wpAny (model P w) A (ofAClassStatement 8 (.ref b)) Z E s := by
  have ty := hk.typeIs
  obtain ⟨o, xs, n, g1, g2, g3, g4⟩ := hk
  have no := q.cls k _ g4
  unfold ofAClassStatement
  refine wpAny_bind (wpAny_typeOf ty ?_)
  dsimp only
  simp only [show (("tuple" : String) == "tuple") = true by decide, if_true, Bool.not_true, Bool.false_eq_true, if_false]
  try refine wpAny_bind (wpAny_pure ?_)
  try simp only [Bool.not_true, Bool.false_eq_true, if_false]
  refine wpAny_bind (wpAny_seqItems g1 g3 ?_)
  dsimp only
  refine wpAny_bind ?_
  rw [← Array.forIn_toList]
  refine wpAny_forIn_list _ (fun more c z => c.1 = none ∧ z = s ∧ ∀ v ∈ more, ∀ n, ofAClassStatement n v = pure false) _ ?_ ?_ _ _ ⟨rfl, rfl, no⟩
  · rintro v more c z ⟨c0, rfl, all⟩
    rw [all v List.mem_cons_self]
    refine wpAny_bind (wpAny_pure ?_)
    simp only [Bool.false_eq_true, if_false]
    exact wpAny_pure ⟨rfl, rfl, fun u hu => all u (List.mem_cons_of_mem _ hu)⟩
  · rintro ⟨c1, c2⟩ z ⟨c0, rfl, _⟩
    simp only at c0
    subst c0
    exact wpAny_pure h
theorem quiet_hsv (q : Quiet kd) {k : List κ} {b : Addr} {Z : Bool → Shared → Prop} (hk : IsTupleKey kd s.heap k b) (h : ∀ c, Z c s) : wpAny (model P w) A (hashByValue 8 (.ref b)) Z E s := by
  have ty := hk.typeIs
  obtain ⟨o, xs, n, g1, g2, g3, g4⟩ := hk
  have no := q.hsv k _ g4
  unfold hashByValue
  refine wpAny_bind (wpAny_specialOf ty F.slot_tuple_hash.lookup ?_)
  refine wpAny_bind (wpAny_seqItems g1 g3 ?_)
  refine wpAny_bind ?_
  rw [← Array.forIn_toList]
  refine wpAny_forIn_list _ (fun more c z => c.1 = none ∧ z = s ∧ ∀ v ∈ more, ∀ n, ∃ c, hashByValue n v = pure c) _ ?_ ?_ _ _ ⟨rfl, rfl, no⟩
  · rintro v more c z ⟨c0, rfl, all⟩
    obtain ⟨y, hy⟩ := all v List.mem_cons_self 7
    rw [hy]
    refine wpAny_bind (wpAny_pure ?_)
    cases y with
    | true =>
      simp only [Bool.not_true, Bool.false_eq_true, if_false]
      exact wpAny_pure ⟨rfl, rfl, fun u hu => all u (List.mem_cons_of_mem _ hu)⟩
    | false =>
      simp only [Bool.not_false, if_true]
      exact wpAny_pure (wpAny_pure (h false))
  · rintro ⟨c1, c2⟩ z ⟨c0, rfl, _⟩
    simp only at c0
    subst c0
    exact wpAny_pure (h true)
theorem quiet_seen (q : Quiet kd) {k : List κ} {b : Addr} {Z : Bool → Shared → Prop} (hk : IsTupleKey kd s.heap k b) {ys : List Value} (hy : ∀ y ∈ ys, ∃ c k', IsTupleKey kd s.heap k' c ∧ y = .ref c) (h : Z false s) : wpAny (model P w) A (searchCouldBeSeen (.ref b) ys) Z E s := by
  unfold searchCouldBeSeen
  refine wpAny_bind ?_
  refine wpAny_forIn_list _ (fun more c z => c.1 = none ∧ z = s ∧ ∀ y ∈ more, ∃ c k', IsTupleKey kd s.heap k' c ∧ y = .ref c) _ ?_ ?_ _ _ ⟨rfl, rfl, hy⟩
  · rintro v more c z ⟨c0, rfl, all⟩
    obtain ⟨d, k', hd, rfl⟩ := all v List.mem_cons_self
    have on : ∀ y ∈ more, ∃ c k', IsTupleKey kd z.heap k' c ∧ y = .ref c := fun u hu => all u (List.mem_cons_of_mem _ hu)
    dsimp only
    by_cases same : (b == d || (carriedByValue (.ref b) && carriedByValue (.ref d))) = true
    · exact wp_if_pos same (wpAny_pure ⟨rfl, rfl, on⟩)
    · refine wp_if_neg same (wpAny_bind (wpAny_eqIsQuiet_tuple hk ?_))
      simp only [Bool.not_true, Bool.false_eq_true, if_false]
      refine wpAny_bind (wpAny_eqIsQuiet_tuple hd ?_)
      simp only [Bool.not_true, Bool.false_eq_true, if_false]
      refine wpAny_bind (quiet_cls q hk ?_)
      simp only [Bool.false_eq_true, if_false]
      refine wpAny_bind (quiet_cls q hd ?_)
      simp only [Bool.false_eq_true, if_false]
      exact wpAny_pure ⟨rfl, rfl, on⟩
  · rintro ⟨c1, c2⟩ z ⟨c0, rfl, _⟩
    simp only at c0
    subst c0
    exact wpAny_pure h
theorem Tb.size (R : Tb kd s.heap a L es ep t) : es.size = L.length := by
  rw [← Array.length_toList, R.its, List.length_map]
theorem Tb.psize (R : Tb kd s.heap a L es ep t) : t.place.size = L.length := by
  have := R.okt.sz
  rwa [List.length_map] at this
theorem Tb.fits (R : Tb kd s.heap a L es ep t) : t.fits es.size = true := by
  have e1 := R.psize
  have e2 := R.size
  have e3 := R.free
  unfold SetTable.fits SetTable.fill
  rw [R.okt.dm, Bool.and_eq_true, beq_iff_eq, decide_eq_true_eq]
  refine ⟨by omega, ?_⟩
  show t.place.size + 0 ≤ _
  omega
theorem Tb.at (R : Tb kd s.heap a L es ep t) {i : Nat} {p : Addr × List κ} (h : L[i]? = some p) : es[i]? = some (hsh kd p.2, Value.ref p.1) := by
  have : es.toList[i]? = some (row kd p) := by rw [R.its, List.getElem?_map, h]; rfl
  rwa [Array.getElem?_toList] at this
abbrev pb (t : SetTable) (x : Int) (c : Nat) : SetTable.Probe := nth t.mask (runAt t.mask (SetTable.bits x % (t.mask + 1)) (SetTable.bits x)) c
theorem pb_nodummy (t : SetTable) (x : Int) (c : Nat) : (pb t x c).dummy = none := by
  have all : ∀ (n : Nat) (p : SetTable.Probe), p.dummy = none → (nth t.mask p n).dummy = none := by
    intro n
    induction n with
    | zero => exact fun p h => h
    | succ n ih => exact fun p h => ih (adv t.mask p) (by unfold adv; split <;> exact h)
  exact all c _ rfl
theorem seek (q : Quiet kd) (R : Tb kd s.heap a L es ep t) {x : Addr} {k : List κ} (hx : IsTupleKey kd s.heap k x) (hu : A.units < cLine) {z : Nat} (zf : z < 10 * SetTable.turns t.mask) (zo : (pb t (hsh kd k) z).j ∉ t.place.toList) (zi : ∀ c, c < z → (pb t (hsh kd k) c).j ∈ t.place.toList)
    {Z : SetFound → Shared → Prop} (yes : k ∈ L.map Prod.snd → Z (.there none) s) (no : k ∉ L.map Prod.snd → Z (.free (pb t (hsh kd k) z).j false) s) : ∀ (f c : Nat) (stand : Option SetTable.Probe), stand.getD (t.probeStart (hsh kd k)) = pb t (hsh kd k) c → c ≤ z → z < f + c →
      (∀ (i : Nat) (p : Addr × List κ), L[i]? = some p → p.2 = k → ∃ d, c ≤ d ∧ d < z ∧ t.place.toList[i]? = some (pb t (hsh kd k) d).j) → wpAny (model P w) A (setSearchFrom a (.ref x) (hsh kd k) true f stand) Z E s := by
  intro f
  induction f with
  | zero => intro c stand _ h1 h2; omega
  | succ f ih =>
    intro c stand st cz zf' later
    obtain ⟨o, ex, dt, ob⟩ := R.obj
    have gw : ¬ t.gaveWay = true := by
      unfold SetTable.gaveWay
      rw [mask_odd R.okt.mok]
      decide
    have hash : ∀ (i : Nat) (p : Addr × List κ), L[i]? = some p → (es[i]?.map (·.1)).getD 0 = hsh kd p.2 := fun i p hp => by rw [R.at hp]; rfl
    have go : ∀ d, nth t.mask (pb t (hsh kd k) c) d = pb t (hsh kd k) (c + d) := fun d => (nth_add t.mask c _ d).symm
    rw [setSearchFrom_succ]
    refine wpAny_bind (wpAny_setState_of ob dt R.fits ?_)
    dsimp only
    refine wp_if_neg gw ?_
    try refine wpAny_bind (wpAny_pure ?_)
    have look := go_spec t R.okt.ris R.okt.dm (fun i => (es[i]?.map (·.1)).getD 0) (hsh kd k) (10 * SetTable.turns t.mask) (z - c) (pb t (hsh kd k) c) (pb_nodummy t _ c) (by omega) (fun d hd => by rw [go]; exact zi (c + d) (by omega)) (by rw [go, show c + (z - c) = z by omega]; exact zo)
    rcases look with ⟨d, i, dz, pi, hi, before, eq⟩ | ⟨before, eq⟩
    · rw [st, show t.probe (fun i => (es[i]?.map (·.1)).getD 0) (hsh kd k) (pb t (hsh kd k) c) = _ from eq]
      dsimp only
      rw [go] at pi
      have il : i < L.length := by
        have := (List.getElem?_eq_some_iff.mp pi).1
        rw [Array.length_toList, R.psize] at this
        exact this
      obtain ⟨p, hp⟩ : ∃ p, L[i]? = some p := ⟨_, List.getElem?_eq_getElem il⟩
      have pm := List.mem_of_getElem? hp
      have live : t.slot (pb t (hsh kd k) (c + d)).j = .live i := slot_live R.okt.ris pi
      have rest : wpAny (model P w) A (searchRest a (.ref x) (hsh kd k) true f es t (nth t.mask (pb t (hsh kd k) c) d).j i (nth t.mask (pb t (hsh kd k) c) (d + 1))) Z E s := by
        rw [go, go]
        unfold searchRest
        rw [R.at hp]
        dsimp only
        refine wpAny_bind (wpAny_holding (wpAny_eqBool_tuple hu (R.key p pm) hx ?_))
        refine wpAny_bind (wpAny_setState_of ob dt R.fits ?_)
        dsimp only
        by_cases pk : p.2 = k
        · exact wp_if_pos (by simp [pk]) (wpAny_pure (yes (List.mem_map.mpr ⟨p, pm, pk⟩)))
        · refine wp_if_neg (by simp [pk]) ?_
          try refine wpAny_bind (wpAny_pure ?_)
          rw [sameMem]
          dsimp only
          simp only [if_true, live, R.at hp]
          refine wpAny_bind (wpAny_isSame_ref_self (wpAny_bind (wpAny_pure ?_)))
          simp only [if_true]
          refine wp_if_neg (by simp [pk]) (ih (c + (d + 1)) _ rfl (by omega) (by omega) fun i2 p2 h2 k2 => ?_)
          obtain ⟨e, e1, e2, e3⟩ := later i2 p2 h2 k2
          have ne1 : ¬ e < c + d := fun lt => before (e - c) i2 (by omega) (by rw [go, show c + (e - c) = e by omega]; exact e3) (by rw [← k2]; exact hash i2 p2 h2)
          have ne2 : e ≠ c + d := fun ee => by
            rw [ee] at e3
            have l2 := slot_live R.okt.ris e3
            rw [live] at l2
            cases l2
            rw [hp] at h2
            cases h2
            exact pk k2
          exact ⟨e, by omega, e2, e3⟩
      by_cases led : t.led = true
      · refine wp_if_neg (by simp [led]) ?_
        try refine wpAny_bind (wpAny_pure ?_)
        exact rest
      · refine wp_if_pos (by simp [led]) (wpAny_bind (quiet_seen q hx (fun y hy => ?_) ?_))
        · obtain ⟨e, he, rfl⟩ := List.mem_map.mp hy
          have he : e ∈ es.toList := by
            have : e ∈ es ∧ e.1 = hsh kd k := by simpa using he
            simpa using this.1
          rw [R.its] at he
          obtain ⟨p2, m2, rfl⟩ := List.mem_map.mp he
          exact ⟨p2.1, p2.2, R.key p2 m2, rfl⟩
        · refine wp_if_neg (by decide) ?_
          try refine wpAny_bind (wpAny_pure ?_)
          exact rest
    · rw [st, show t.probe (fun i => (es[i]?.map (·.1)).getD 0) (hsh kd k) (pb t (hsh kd k) c) = _ from eq, go, show c + (z - c) = z by omega]
      dsimp only
      refine wpAny_pure (no fun mem => ?_)
      obtain ⟨p, pm, pk⟩ := List.mem_map.mp mem
      obtain ⟨i, hi⟩ := List.getElem?_of_mem pm
      obtain ⟨e, e1, e2, e3⟩ := later i p hi pk
      exact before (e - c) i (by omega) (by rw [go, show c + (e - c) = e by omega]; exact e3) (by rw [← pk]; exact hash i p hi)
theorem seek_all (q : Quiet kd) (R : Tb kd s.heap a L es ep t) {x : Addr} {k : List κ} (hx : IsTupleKey kd s.heap k x) (hu : A.units < cLine) {Z : SetFound → Shared → Prop} (yes : k ∈ L.map Prod.snd → Z (.there none) s)
    (no : ∀ z, k ∉ L.map Prod.snd → (pb t (hsh kd k) z).j ∉ t.place.toList → (∀ c, c < z → (pb t (hsh kd k) c).j ∈ t.place.toList) → Z (.free (pb t (hsh kd k) z).j false) s) : wpAny (model P w) A (setSearch a (.ref x) (hsh kd k) true) Z E s := by
  have fr := R.free
  obtain ⟨z, zf, zo, zi⟩ := R.okt.first (by rw [List.length_map]; omega) (hsh kd k)
  have few : 10 * SetTable.turns t.mask < 100000 := by
    unfold SetTable.turns
    rcases R.okt.mok with e | e | e <;> omega
  unfold setSearch
  refine seek q R hx hu zf zo zi yes (fun n => no z n zo zi) 100000 0 none rfl (Nat.zero_le _) (by omega) fun i p hp pk => ?_
  have il : i < t.place.toList.length := by
    rw [Array.length_toList, R.psize]
    exact (List.getElem?_eq_some_iff.mp hp).1
  obtain ⟨c, cz, ce⟩ := R.okt.before zo (i := i) (h := hsh kd k) (by rw [List.getElem?_map, hp, ← pk]; rfl) (List.getElem?_eq_getElem il)
  exact ⟨c, Nat.zero_le _, cz, by rw [List.getElem?_eq_getElem il]; exact congrArg some ce.symm⟩
theorem key_on {h h' : Heap} {k : List κ} {b : Addr} {o : Obj} (hb : IsTupleKey kd h k b) (ob : h.get? a = some o) (dt : o.data = .set es ep t) (sb : Heap.SameBut a h h') : IsTupleKey kd h' k b := by
  obtain ⟨o2, xs, n, g1, g2, g3, g4⟩ := hb
  refine ⟨o2, xs, n, ?_, g2, g3, g4⟩
  rw [sb.2 b fun e => ?_]
  · exact g1
  · rw [e, ob] at g1
    cases g1
    rw [dt] at g3
    cases g3
theorem picked (L : List (Addr × List κ)) (its : es.toList = L.map (row kd)) : ∀ l : List Nat, (∀ i ∈ l, i < L.length) → l.filterMap (fun i => es[i]?) = (l.filterMap fun i => L[i]?).map (row kd) ∧ ((l.filterMap fun i => L[i]?).map fun p => hsh kd p.2) = l.map fun i => (es.map (·.1)).getD i 0
  | [], _ => ⟨rfl, rfl⟩
  | i :: l, hl => by
    have il := hl i List.mem_cons_self
    obtain ⟨e1, e2⟩ := picked L its l fun j hj => hl j (List.mem_cons_of_mem _ hj)
    have g1 : L[i]? = some L[i] := List.getElem?_eq_getElem il
    have g2 : es[i]? = some (row kd L[i]) := by rw [← Array.getElem?_toList, its, List.getElem?_map, g1]; rfl
    refine ⟨?_, ?_⟩
    · rw [List.filterMap_cons, List.filterMap_cons, g1, g2]
      simp only [List.map_cons, e1]
    · rw [List.filterMap_cons, g1]
      simp only [List.map_cons, e2]
      congr 1
      simp [Array.getD_eq_getD_getElem?, g2, row]
theorem all_of (L : List (Addr × List κ)) : ∀ n, n ≤ L.length → (List.range n).filterMap (fun i => L[i]?) = L.take n
  | 0, _ => rfl
  | n + 1, h => by
    rw [List.range_succ, List.filterMap_append, all_of L n (by omega), List.take_succ, List.getElem?_eq_getElem (show n < L.length by omega)]
    simp [List.getElem?_eq_getElem (show n < L.length by omega)]
theorem wider {o : Obj} (ob : s.heap.get? a = some o) (ex : o.ExactSet) (dt : o.data = .set es ep t) (its : es.toList = L.map (row kd)) (okt : TabOk t (L.map fun p => hsh kd p.2)) (lm : L.length ≤ t.mask) (one : (L.map Prod.snd).Nodup) (key : ∀ p, p ∈ L → IsTupleKey kd s.heap p.2 p.1)
    (lead : w.params.followText "set-order" = true ∨ t.led = true) (small : L.length ≤ 63) {n M : Nat} (nM : SetTable.sizeAbove n - 1 = M) (hM : MaskOk M) (n128 : SetTable.sizeAbove n ≤ 128) (room : 5 * L.length < 3 * M) {Z : Unit → Shared → Prop}
    (hZ : ∀ h' L' es' ep' t', Heap.SameBut a s.heap h' → Tb kd h' a L' es' ep' t' → L'.Perm L → Z () { s with heap := h' }) : wpAny (model P w) A (setRelay a n) Z E s := by
  have sz : es.size = L.length := by rw [← Array.length_toList, its, List.length_map]
  have psz : t.place.size = L.length := by
    have := okt.sz
    rwa [List.length_map] at this
  have fit : t.fits es.size = true := by
    unfold SetTable.fits SetTable.fill
    rw [okt.dm, Bool.and_eq_true, beq_iff_eq, decide_eq_true_eq]
    refine ⟨by omega, ?_⟩
    show t.place.size + 0 ≤ _
    omega
  obtain ⟨t2, ord, e1, pm, ok2, m2, l2, p2, d2⟩ := relaid_ok t (hs := es.map (·.1)) (wanted := n) nM hM (by rw [Array.size_map, sz]; omega)
  rw [Array.size_map, sz] at pm
  obtain ⟨r1, r2⟩ := picked L its ord.toList fun i hi => List.mem_range.mp (pm.mem_iff.mp hi)
  have perm : (ord.toList.filterMap fun i => L[i]?).Perm L := by
    have := pm.filterMap fun i => L[i]?
    rwa [all_of L L.length (Nat.le_refl _), List.take_length] at this
  rw [← r2] at ok2
  have its2 : (ord.filterMap fun i => es[i]?).toList = (ord.toList.filterMap fun i => L[i]?).map (row kd) := by
    first
      | (rw [Array.toList_filterMap]; exact r1)
      | simpa using r1
  generalize (ord.toList.filterMap fun i => L[i]?) = L2 at perm ok2 its2
  have len2 := perm.length_eq
  have sz2 : (ord.filterMap fun i => es[i]?).size = es.size := by rw [← Array.length_toList, its2, List.length_map, len2, sz]
  rw [setRelay_eq]
  refine wpAny_bind (wpAny_setState_of ob dt fit ?_)
  dsimp only
  refine wp_if_neg (by rw [sizeLine_eq]; omega) ?_
  try refine wpAny_bind (wpAny_pure ?_)
  rw [e1]
  dsimp only
  refine wpAny_bind ?_
  refine wp_if_neg (by rw [sz2]; simp) ?_
  try refine wpAny_bind (wpAny_pure ?_)
  refine wpAny_pure ?_
  dsimp only
  refine wpAny_storeSet_of ob dt ?_ (by rw [sz2, sz, sizeLine_eq]; omega)
  have sb : Heap.SameBut a s.heap (s.heap.update a (Obj.putSet (ord.filterMap fun i => es[i]?) t2)) := Heap.SameBut.update ..
  refine hZ _ L2 (ord.filterMap fun i => es[i]?) (ep + 1) t2 sb ⟨⟨{ o with data := .set (ord.filterMap fun i => es[i]?) (ep + 1) t2 }, ⟨ex.1, ex.2.1, ex.2.2⟩, rfl, store_at ob dt⟩, its2, ok2, (perm.map Prod.snd).nodup_iff.mpr one, fun p hp => key_on (key p (perm.mem_iff.mp hp)) ob dt sb, by rw [l2]; exact lead, by rw [len2, m2]; exact room, by rw [len2]; exact small⟩ perm
theorem gain (q : Quiet kd) (R : Tb kd s.heap a L es ep t) {x : Addr} {k : List κ} (hx : IsTupleKey kd s.heap k x) (hu : A.units < cLine) (few : L.length < 63) {Z : Bool → Shared → Prop}
    (hZ : ∀ b h' L' es' ep' t', Heap.SameBut a s.heap h' → Tb kd h' a L' es' ep' t' → (k ∈ L.map Prod.snd → L' = L) → (k ∉ L.map Prod.snd → L'.Perm ((x, k) :: L)) → Z b { s with heap := h' }) : wpAny (model P w) A (setAddHashed a (.ref x) (hsh kd k)) Z E s := by
  obtain ⟨o, ex, dt, ob⟩ := R.obj
  have sz := R.size
  have fr := R.free
  unfold setAddHashed
  refine wpAny_holding ?_
  rw [show (100000 : Nat) = 99999 + 1 from rfl, setAddHashedIn_succ]
  refine wpAny_bind (wpAny_setState_of ob dt R.fits ?_)
  dsimp only
  refine wp_if_neg (by simp [byScan, Value.scannable]) ?_
  try refine wpAny_bind (wpAny_pure ?_)
  refine wpAny_bind (seek_all q R hx hu (fun mem => ?_) fun z new zo zi => ?_)
  · dsimp only
    exact wpAny_pure (hZ false s.heap L es ep t (Heap.SameBut.refl a s.heap) R (fun _ => rfl) fun n => absurd mem n)
  dsimp only
  refine wpAny_bind (wpAny_setState_of ob dt R.fits ?_)
  dsimp only
  obtain ⟨f1, f2, f3, f4, f5, f6, f7, f8, f9⟩ := R.okt.put zo zi
  generalize t.put (pb t (hsh kd k) z).j = tp at f1 f3 f4 f5 f6 f7 f8 f9 ⊢
  obtain ⟨t0, at1⟩ := tp
  dsimp only at f1 f3 f4 f5 f6 f7 f8 f9 ⊢
  subst f1
  -- what is said of hashes by value changes but a mark
  have mark : ∀ (c : Bool), ∃ t1 : SetTable, (if c = true then t0 else { t0 with plain := false }) = t1 ∧ t1.mask = t0.mask ∧ t1.led = t0.led ∧ t1.fill = t0.fill ∧ ∀ hs, TabOk t0 hs → TabOk t1 hs := fun c => by
    cases c with
    | true => exact ⟨t0, rfl, rfl, rfl, rfl, fun hs h => h⟩
    | false => exact ⟨{ t0 with plain := false }, rfl, rfl, rfl, rfl, fun hs h => ⟨h.ris, h.dm, h.sz, h.mok, h.bd, h.reach⟩⟩
  by_cases pl0 : t0.plain = true
  refine wp_if_pos pl0 (wpAny_bind (quiet_hsv q hx fun c => ?_))
  obtain ⟨t1, e1, mk1, mk2, mk3, mk4⟩ := mark c
  rw [e1]
  rotate_left
  refine wp_if_neg pl0 ?_
  try refine wpAny_bind (wpAny_pure ?_)
  obtain ⟨t1, e1, mk1, mk2, mk3, mk4⟩ := mark true
  rw [e1]
  all_goals
    replace f3 := mk4 _ f3
    rw [← mk1] at f4
    rw [← mk2] at f5
    rw [← mk3] at f9
    generalize SetTable.below t.place (pb t (hsh kd k) z).j = m at f2 f3 ⊢
    have perm := put_perm L m (x, k)
    have its1 : (SetTable.insertAt es m (hsh kd k, Value.ref x)).toList = (L.take m ++ (x, k) :: L.drop m).map (row kd) := by
      rw [SetTable.toList_insertAt, R.its, List.map_append, List.map_cons, List.map_take, List.map_drop]
      rfl
    have hashes : (L.take m ++ (x, k) :: L.drop m).map (fun p => hsh kd p.2) = (L.map fun p => hsh kd p.2).take m ++ hsh kd k :: (L.map fun p => hsh kd p.2).drop m := by
      rw [List.map_append, List.map_cons, List.map_take, List.map_drop]
    rw [← hashes] at f3
    generalize L.take m ++ (x, k) :: L.drop m = L1 at perm its1 f3
    have len1 : L1.length = L.length + 1 := perm.length_eq
    have one1 : (L1.map Prod.snd).Nodup := (perm.map Prod.snd).nodup_iff.mpr (List.nodup_cons.mpr ⟨new, R.one⟩)
    generalize SetTable.insertAt es m (hsh kd k, Value.ref x) = es1 at its1 ⊢
    have sz1 : es1.size = L.length + 1 := by rw [← Array.length_toList, its1, List.length_map, len1]
    refine wpAny_bind (wpAny_storeSet_of ob dt ?_ (by rw [sz1, sizeLine_eq]; omega))
    have sb : Heap.SameBut a s.heap (s.heap.update a (Obj.putSet es1 t1)) := Heap.SameBut.update ..
    have ob1 := store_at (es' := es1) (t' := t1) ob dt
    generalize s.heap.update a (Obj.putSet es1 t1) = h1 at sb ob1 ⊢
    have key1 : ∀ p, p ∈ L1 → IsTupleKey kd h1 p.2 p.1 := fun p hp => by
      rcases List.mem_cons.mp (perm.mem_iff.mp hp) with e | hp
      · rw [e]; exact key_on hx ob dt sb
      · exact key_on (R.key p hp) ob dt sb
    have lead1 : w.params.followText "set-order" = true ∨ t1.led = true := by rw [f5]; exact R.lead
    have full : t1.tooFull = true ↔ 3 * t.mask ≤ 5 * (L.length + 1) := by
      unfold SetTable.tooFull
      rw [decide_eq_true_eq, f9, List.length_map, f4]
      omega
    by_cases tf : t1.tooFull = true
    · first
        | (refine wpAny_bind ?_; refine wp_if_pos (by simp [tf]) ?_)
        | (refine wp_if_pos (by simp [tf]) ?_; refine wpAny_bind ?_)
      have tf' := full.mp tf
      rw [sz]
      have two : (t.mask = 7 ∧ L.length = 4) ∨ (t.mask = 31 ∧ L.length = 18) := by
        rcases R.okt.mok with e | e | e <;> omega
      have wide : ∀ M, SetTable.sizeAbove (SetTable.grown (L.length + 1)) - 1 = M → MaskOk M → SetTable.sizeAbove (SetTable.grown (L.length + 1)) ≤ 128 → 5 * (L.length + 1) < 3 * M →
          wpAny (model P w) A (setRelay a (SetTable.grown (L.length + 1))) (fun _ z => wpAny (model P w) A (pure true) Z E z) E { s with heap := h1 } := fun M g1 g2 g3 g4 =>
        wider (s := { s with heap := h1 }) (L := L1) ob1 ⟨ex.1, ex.2.1, ex.2.2⟩ rfl its1 f3 (by rw [len1, f4]; omega) one1 key1 lead1 (by omega) g1 g2 g3 (by rw [len1]; exact g4) fun h2 L2 es2 ep2 t2 sb2 R2 perm2 =>
          wpAny_pure (hZ true h2 L2 es2 ep2 t2 (sb.trans sb2) R2 (fun y => absurd y new) fun _ => perm2.trans perm)
      rcases two with ⟨_, e⟩ | ⟨_, e⟩
      · exact wide 31 (by rw [e, size_20]) (.inr (.inl rfl)) (by rw [e, size_20]; decide) (by omega)
      · exact wide 127 (by rw [e, size_76]) (.inr (.inr rfl)) (by rw [e, size_76]; decide) (by omega)
    · first
        | refine wp_if_neg (by simp [tf]) ?_
        | (refine wpAny_bind ?_; refine wp_if_neg (by simp [tf]) ?_; refine wpAny_pure ?_)
      have tf' : ¬ 3 * t.mask ≤ 5 * (L.length + 1) := fun z => tf (full.mpr z)
      exact wpAny_pure (hZ true h1 L1 es1 (ep + 1) t1 sb ⟨⟨{ o with data := .set es1 (ep + 1) t1 }, ⟨ex.1, ex.2.1, ex.2.2⟩, rfl, ob1⟩, its1, f3, one1, key1, lead1, by rw [len1, f4]; omega, by omega⟩ (fun y => absurd y new) fun _ => perm)
structure In (ks : List (Addr × List κ)) (i : Nat) (L : List (Addr × List κ)) : Prop where
  from_ : ∀ p, p ∈ L → p ∈ ks
  has : ∀ k, k ∈ L.map Prod.snd ↔ k ∈ (ks.take i).map Prod.snd
  le : L.length ≤ i
theorem key_keep {h h' : Heap} {k : List κ} {b : Addr} (x : IsTupleKey kd h k b) (hk : ∀ c o, h.get? c = some o → h'.get? c = some o) : IsTupleKey kd h' k b := by
  obtain ⟨o, xs, n, g, r⟩ := x
  exact ⟨o, xs, n, hk b o g, r⟩
theorem Tb.keep {h h' : Heap} (R : Tb kd h a L es ep t) (ha : ∀ o, h.get? a = some o → h'.get? a = some o) (hk : ∀ p, p ∈ L → IsTupleKey kd h' p.2 p.1) : Tb kd h' a L es ep t := by
  obtain ⟨o, r1, r2, r3⟩ := R.obj
  exact ⟨⟨o, r1, r2, ha o r3⟩, R.its, R.okt, R.one, hk, R.lead, R.free, R.small⟩
abbrev nu (w : World) : Obj := { cls := .type "set", dict := none, data := .set #[] 0 (.fresh 0 0 (!w.params.followText "set-order")) }
theorem tb_new {h : Heap} (ob : h.get? a = some (nu w)) : Tb kd h a [] #[] 0 (.fresh 0 0 (!w.params.followText "set-order")) where
  obj := ⟨_, ⟨rfl, rfl, rfl⟩, rfl, ob⟩
  its := rfl
  okt := ⟨List.Pairwise.nil, rfl, rfl, .inl rfl, fun y hy => (by cases hy), fun i h j hi => (by simp at hi)⟩
  one := List.nodup_nil
  key := fun p hp => (by cases hp)
  lead := by
    show _ ∨ (!w.params.followText "set-order") = true
    cases w.params.followText "set-order"
    · exact .inr rfl
    · exact .inl rfl
  free := by
    show 5 * 0 < 3 * 7
    decide
  small := Nat.zero_le _
theorem taken (q : Quiet kd) {I : Addr} {fp wr : List Addr} {G : Array GenState → Array GenState → Prop} {n : Nat} {Pv : Nat → Value → Prop} {St : Nat → Shared → Prop} {Rs : Result → Shared → Prop} (W : WalksS P w A.in1 I fp wr G n Pv St) (S : Addr) (notIn : S ∉ fp) (ks : List (Addr × List κ)) (len : n = ks.length) (few : ks.length ≤ 63)
    (val : ∀ i v, Pv i v → ∃ p, ks[i]? = some p ∧ v = .ref p.1) (h0 : Heap) (key : ∀ p, p ∈ ks → IsTupleKey kd h0 p.2 p.1) (fresh : h0.get? S = none) (wfresh : ∀ b ∈ wr, h0.get? b = none) (hu : A.in1.units < cLine) : ∀ (m i : Nat) (s : Shared), i + m = n → St i s → (∀ b o, h0.get? b = some o → s.heap.get? b = some o) →
      (∃ L es ep t, Tb kd s.heap S L es ep t ∧ In ks i L) → (∀ s' L es ep t, Moved (S :: wr) G s s' → Tb kd s'.heap S L es ep t → In ks n L → (∀ b o, h0.get? b = some o → s'.heap.get? b = some o) → Rs (.ok (.ret .none)) s') → codeAny (model P w) A (.builtin "set.update.loop" ⟨[.ref S, .ref I], []⟩) Rs s := by
  have sw : S ∉ wr := fun h => notIn (W.sub _ h)
  have up : ∀ b ∈ wr, b ∈ S :: wr := fun b hb => List.mem_cons_of_mem _ hb
  have stays : ∀ {y y' : Shared}, Moved wr G y y' → (∀ b o, h0.get? b = some o → y.heap.get? b = some o) → ∀ b o, h0.get? b = some o → y'.heap.get? b = some o := fun mv kp b o e =>
    mv.heap b o (fun hb => by rw [wfresh b hb] at e; cases e) (kp b o e)
  intro m
  induction m with
  | zero =>
    intro i s im st kp ⟨L, es, ep, t, R, g⟩ done
    obtain rfl : i = n := by omega
    refine codeAny_builtin F.entry_set_update_loop ?_
    rw [Around.under_plainId F.plain_set_update_loop _]
    show wpAny _ A.in1 (pyNext (.ref I) >>= _) _ _ s
    refine wpAny_bind (W.done s _ _ st fun s' mv => ?_)
    have kp' := stays mv kp
    exact wpAny_pure (done s' L es ep t (mv.mono up) (R.keep (fun o e => mv.heap S o sw e) fun p hp => key_keep (key p (g.from_ p hp)) kp') g kp')
  | succ m ih =>
    intro i s im st kp ⟨L, es, ep, t, R, g⟩ done
    have lt : i < n := by omega
    refine codeAny_builtin F.entry_set_update_loop ?_
    rw [Around.under_plainId F.plain_set_update_loop _]
    show wpAny _ A.in1 (pyNext (.ref I) >>= _) _ _ s
    refine wpAny_bind (W.item i s _ _ lt st fun v s' pv st' mv => ?_)
    obtain ⟨p, hp, rfl⟩ := val i v pv
    have kp' := stays mv kp
    have R' : Tb kd s'.heap S L es ep t := R.keep (fun o e => mv.heap S o sw e) fun y hy => key_keep (key y (g.from_ y hy)) kp'
    have hx : IsTupleKey kd s'.heap p.2 p.1 := key_keep (key p (List.mem_of_getElem? hp)) kp'
    show wpAny _ A.in1 (holding [Value.ref p.1] (setAdd S (.ref p.1)) >>= _) _ _ s'
    refine wpAny_bind (wpAny_holding ?_)
    unfold setAdd
    refine wpAny_holding (wpAny_bind (wpAny_pyHash_tuple hu hx ?_))
    refine gain (s := { s' with toks := s'.toks + (p.2.length + 1) }) q R' hx hu (by have := g.le; omega) fun b h' L' es' ep' t' sb R2 c1 c2 => ?_
    have tk : ks.take (i + 1) = ks.take i ++ [p] := by rw [List.take_succ, hp]; rfl
    have g' : In ks (i + 1) L' := by
      by_cases c : p.2 ∈ L.map Prod.snd
      · rw [c1 c]
        refine ⟨g.from_, fun k => ?_, by have := g.le; omega⟩
        rw [tk, List.map_append, List.mem_append, ← g.has k]
        constructor
        · exact .inl
        · rintro (z | z)
          · exact z
          · have : k = p.2 := by simpa using z
            rw [this]; exact c
      · have pm := c2 c
        refine ⟨fun y hy => ?_, fun k => ?_, ?_⟩
        · rcases List.mem_cons.mp (pm.mem_iff.mp hy) with e | z
          · rw [e]; exact List.mem_of_getElem? hp
          · exact g.from_ y z
        · rw [(pm.map Prod.snd).mem_iff, List.map_cons, List.mem_cons, tk, List.map_append, List.mem_append, ← g.has k]
          constructor
          · rintro (z | z)
            · exact .inr (by simpa using z)
            · exact .inl z
          · rintro (z | z)
            · exact .inr z
            · exact .inl (by simpa using z)
        · rw [pm.length_eq, List.length_cons]
          have := g.le
          omega
    have kp2 : ∀ b o, h0.get? b = some o → h'.get? b = some o := fun b o e => (sb.2 b (fun z => by rw [z, fresh] at e; cases e)).trans (kp' b o e)
    refine wpAny_pure ⟨plainId_quiet F.plain_set_update_loop _, ih (i + 1) _ (by omega) (W.frame _ s' _ _ st' (Nat.le_add_right _ _) fun b hb o e => ?_) kp2 ⟨L', es', ep', t', R2, g'⟩ fun s'' L2 es2 ep2 t2 mv2 R3 g3 kp3 => ?_⟩
    · rw [sb.2 b (fun z : b = S => notIn (z ▸ hb))]; exact e
    · refine done s'' L2 es2 ep2 t2 (Moved.trans W.gtrans ((mv.mono up).then_heap (Nat.le_add_right _ _) fun b o hb e => ?_) mv2) R3 g3 kp3
      rw [sb.2 b (fun z : b = S => hb (by rw [z]; exact List.mem_cons_self))]; exact e
theorem make_set (q : Quiet kd) {l : Addr} {xs : Array Value} (ks : List (Addr × List κ)) {Z : Value → Shared → Prop} (calm : A.handled = none) (hl : s.heap.IsList l xs) (it : xs.toList = ks.map fun p => Value.ref p.1) (key : ∀ p, p ∈ ks → IsTupleKey kd s.heap p.2 p.1) (few : ks.length ≤ 63) (hu : A.units + 3 < cLine)
    (hZ : ∀ (h' : Heap) (tk : Nat) L es ep t, Tb kd h' s.heap.objs.size L es ep t → In ks ks.length L → (∀ b o, s.heap.get? b = some o → h'.get? b = some o) → Z (.ref s.heap.objs.size) { s with heap := h', toks := tk }) : wpAny (model P w) A (call (.type "set") [.ref l]) Z E s := by
  have len : xs.size = ks.length := by rw [← Array.length_toList, it, List.length_map]
  obtain ⟨mc, mt, m1⟩ := F.called_set.mro
  have m2 := F.called_set.made
  have m3 := F.called_set.sub
  refine wpAny_call (codeAny_of_tree ?_)
  show wpAny _ _ (callAny (.type "set") _) _ _ _
  refine wpAny_pure ⟨Code.quiet_builtin _ (by decide +kernel), codeAny_builtin F.entry_type_call ?_⟩
  rw [Around.under_plain (weight_type_call_type "set" [.ref l] []) rfl]
  have m4 := F.called_set.notType
  have m5 := F.called_set.canCreate
  have m6 := F.typeCall_set_1 (.ref l)
  repeat (any_goals (first | assumption | wp_step))
  refine codeAny_mono (code_set_led1 (.ref l) (E := E) (Q₁ := fun v z => v = .ref s.heap.objs.size ∧ z = { s with heap := s.heap.push (nu w) }) ⟨rfl, rfl⟩) fun r z hr => ?_
  cases r with
  | error e => exact hr
  | ok fl =>
    cases fl with
    | ret v =>
      obtain ⟨rfl, rfl⟩ := hr
      have gS : (s.heap.push (nu w)).get? s.heap.objs.size = some (nu w) := Heap.get?_push_size _ rfl
      have tS : Shared.TypeIs { s with heap := s.heap.push (nu w) } (.ref s.heap.objs.size) "set" := ⟨_, gS, rfl⟩
      have i1 := F.called_set.init.lookup
      have i2 := F.called_set.init.bind (.ref s.heap.objs.size)
      repeat (any_goals (first | assumption | wp_step))
      refine codeAny_mono (codeAny_call_builtin (R := wants (fun v y => v = .none ∧ ∃ h' tk L es ep t, y = { s with heap := h', toks := tk } ∧ Tb kd h' s.heap.objs.size L es ep t ∧ In ks ks.length L ∧ ∀ b o, s.heap.get? b = some o → h'.get? b = some o) E) F.called_set.init.plain F.entry_set_init (check_set_init_1 tS ?_)) fun r2 y hr2 => ?_
      · obtain ⟨⟨c1, c2, c3, c4⟩, gl, e1, nl, e2⟩ := hl
        simp only at e1 e2
        subst e1 e2
        have gl' : (s.heap.push (nu w)).get? l = some { cls := .type "list", dict := c2, data := .seq xs nl, slots := c4 } := Heap.get?_push_of_some _ gl
        have n1 := F.sub_list_set
        have n2 := F.sub_list_frozenset
        have n3 : (Value.type "list" == Value.type "dict") = false := by decide
        have il : (s.heap.push (nu w)).IsList l xs := ⟨_, gl', rfl, nl, rfl⟩
        unfold Builtin.«set.__init__» noKeywords Builtin.Frozenset.updateFrom
        generalize hold : pyIter = it0
        wp_walk
        subst hold
        refine wpAny_pyIter_list il ?_
        refine wpAny_bind (wpAny_runValue ?_)
        have lS : l < s.heap.objs.size := Heap.lt_size gl
        have calm3 : A.in1.in1.in1.handled = none := by simp [calm]
        have lI : l ≠ (s.heap.push (nu w)).objs.size := by
          rw [Heap.size_push]
          exact Nat.ne_of_lt (Nat.lt_of_lt_of_le lS (Nat.le_succ _))
        have SI : s.heap.objs.size ∉ [(s.heap.push (nu w)).objs.size, l] := by
          rw [Heap.size_push]
          intro mem
          rcases List.mem_cons.mp mem with e | e
          · exact absurd e (Nat.ne_of_lt (Nat.lt_succ_self _))
          · exact absurd (List.mem_singleton.mp e) (Nat.ne_of_gt lS)
        have val : ∀ (i : Nat) (v : Value), xs[i]? = some v → ∃ p, ks[i]? = some p ∧ v = .ref p.1 := fun i v hv => by
          have : xs.toList[i]? = some v := by rw [Array.getElem?_toList]; exact hv
          rw [it, List.getElem?_map, Option.map_eq_some_iff] at this
          obtain ⟨p, g1, g2⟩ := this
          exact ⟨p, g1, g2.symm⟩
        have gone : ∀ b, s.heap.objs.size ≤ b → s.heap.get? b = none := fun b hb => by
          cases g : s.heap.get? b with
          | none => rfl
          | some o => exact absurd (Nat.lt_of_lt_of_le (Heap.lt_size g) hb) (Nat.lt_irrefl b)
        refine taken q ((Walks.list calm3 _ l lI xs).toS) s.heap.objs.size SI ks len few val s.heap key (gone _ (Nat.le_refl _)) (fun b hb => gone b (by
          rw [List.mem_singleton.mp hb, Heap.size_push]
          exact Nat.le_add_right _ 1)) hu xs.size 0 _ (by omega) ⟨⟨_, Heap.get?_push_size _ rfl, rfl, rfl⟩, (il.push _)⟩ (fun b o e => Heap.get?_push_of_some _ (Heap.get?_push_of_some _ e)) ?first ?last
        case first =>
          refine ⟨[], #[], 0, _, tb_new (Heap.get?_push_of_some _ gS), fun p hp => (by cases hp), fun k => ?_, Nat.le_refl _⟩
          simp
        case last =>
          intro y L es ep t mv R g kp
          obtain ⟨h', g2, d2, tk, os2⟩ := y
          have z1 : g2 = s.gens := mv.gens
          have z2 : d2 = s.drawn := mv.drawn
          have z3 : os2 = s.os := mv.os
          subst z1 z2 z3
          rw [len] at g
          refine wpAny_pure ?_
          exact wpAny_pure ⟨rfl, h', tk, L, es, ep, t, rfl, R, g, kp⟩
      · cases r2 with
        | error e => exact hr2
        | ok fl2 =>
          cases fl2 with
          | ret v2 =>
            obtain ⟨rfl, h', tk, L, es, ep, t, rfl, R, g, kp⟩ := hr2
            repeat (any_goals (first | assumption | wp_step))
            exact hZ _ _ _ _ _ _ R g kp
          | _ => exact hr2.elim
    | _ => exact hr.elim
end
end MxS
namespace Pw
open PySem PySem.Spec PyProof.Rows L2
open Evl (Ex ex_l ex_t)
theorem mix_shape {P : Program} {w : World} {k : List Key} {vs : List Value} (h : ItemsAre (mixKind P w) k vs) : ∀ v ∈ vs, (∃ i t, v = Value.int i t) ∨ ∃ x t, v = Value.str x t := by
  induction h with
  | nil => intro v hv; cases hv
  | @cons k0 u ks us h1 _ ih =>
    intro v hv
    rcases List.mem_cons.mp hv with e | hv
    · rcases keyIs_shape (k := k0) (v := u) h1 with ⟨i, t, _, e2⟩ | ⟨x, t, _, e2⟩
      · exact .inl ⟨i, t, e.trans e2⟩
      · exact .inr ⟨x, t, e.trans e2⟩
    · exact ih v hv
theorem mix_quiet (P : Program) (w : World) : MxS.Quiet (mixKind P w) where
  cls := fun ks vs h v hv n => by
    rcases mix_shape h v hv with ⟨i, t, rfl⟩ | ⟨x, t, rfl⟩ <;> cases n <;> rfl
  hsv := fun ks vs h v hv n => by
    rcases mix_shape h v hv with ⟨i, t, rfl⟩ | ⟨x, t, rfl⟩
    · exact ⟨true, by cases n <;> rfl⟩
    · exact ⟨false, by cases n <;> rfl⟩
theorem mix_items {P : Program} {w : World} : ∀ {k : List Key} {us : List Value}, Vals (k.map kV) us → ItemsAre (mixKind P w) k us
  | [], _, .nil => .nil
  | .inl i :: k, _, .cons r h => by
    obtain ⟨t, rfl⟩ := (show ∃ t, _ = Value.int i t from r)
    exact .cons (keyIs_int i t) (mix_items h)
  | .inr x :: k, _, .cons r h => by
    obtain ⟨t, rfl⟩ := (show ∃ t, _ = Value.str x t from r)
    exact .cons (keyIs_str x t) (mix_items h)
section
variable {X : Cx}
theorem inv_key {pins : List (Addr × Obj)} {σ : L2.St} {H : Hp} {s : Shared} {b : Addr} {k : List Key} (I : Inv X pins σ H s) (h : SqT X.K H b (k.map kV)) : IsTupleKey (mixKind X.prog X.w) s.heap k b := by
  obtain ⟨its, r, ⟨o, ho, hc, n, hd⟩, _⟩ := I.tuple h
  exact ⟨o, its.toArray, n, ho, hc, hd, by simpa using mix_items r⟩
theorem refs_eq {κ : Type} : ∀ {ks : List (Addr × κ)} {us : List Value}, Vals (ks.map fun p => V.ref p.1) us → us = ks.map fun p => Value.ref p.1
  | [], _, .nil => rfl
  | p :: ks, _, .cons r h => by
    cases r
    rw [refs_eq h]
    rfl
def tLenSetM (K : PySem.W.Frag) (ta : TE) : TE := fun σ H Q => ta σ H fun x H1 => ∃ (l : Addr) (ks : List (Addr × List Key)), x = V.ref l ∧ SqL K H1 l (ks.map fun p => V.ref p.1) ∧ (∀ p, p ∈ ks → SqT K H1 p.1 (p.2.map kV)) ∧ ks.length ≤ 63 ∧
  ∀ L : List (List Key), L.Nodup → (∀ k, k ∈ L ↔ k ∈ ks.map Prod.snd) → Q (.int L.length) H1
theorem pe_lenSetM {a : Expr} {ta : TE} {p p2 q pos : Pos} (hc : X.calm = true) (hu : X.A.units + 64 < cLine) (hg : Gl X "len") (hm : X.mg "len" = none) (hg2 : Gl X "set") (hm2 : X.mg "set" = none) (ha : PE X a ta)
    (na : starEach [a] X.env = (false, eval a X.env) :: starEach [] X.env := by rfl) : PE X (.Call (.Name "len" p) [.Call (.Name "set" p2) [a] [] q] [] pos) (tLenSetM X.K ta) := by
  refine ⟨fun pins s σ H Q I h => ?_⟩
  refine Call_ (ld_blt I hg hm PySem.boot_len ?_)
  refine PyProof.Rows.callWith_builtin1 (PyProof.Rows.args_cons ?_ rfl) rfl rfl
  refine Call_ (ld_blt I hg2 hm2 PyProof.Rows.boot_set ?_)
  refine PyProof.Rows.callWith_type1 (PyProof.Rows.args_cons (thn (ha.run pins s σ H _ I h) fun v s1 ⟨x, H1, I1, r1, w1⟩ => PyProof.Rows.args_nil ?_) na) na rfl
  obtain ⟨l, ks, rfl, sq, tp, few, w1⟩ := w1
  cases r1
  obtain ⟨its, r, pl, _⟩ := I1.list sq
  refine MxS.make_set (kd := mixKind X.prog X.w) (mix_quiet _ _) ks (I1.ok.hd hc) pl.isList (by simpa using refs_eq r) (fun p hp => inv_key I1 (tp p hp)) few (by omega) fun h' tk L es ep t R g kp => ?_
  refine PyProof.Rows.args_nil ?_
  obtain ⟨o, ex, dt, ob⟩ := R.obj
  have sz := MxS.Tb.size (s := { s1 with heap := h', toks := tk }) R
  have I2 : Inv X pins σ H1 { s1 with heap := h', toks := tk } := I1.kept fun b o e => kp b o e
  have sm := R.small
  refine call_len_set ob ex dt (MxS.Tb.fits (s := { s1 with heap := h', toks := tk }) R) (by rw [sz]; omega) ⟨.int (L.map Prod.snd).length, H1, I2.tok _, ⟨_, by rw [sz, List.length_map]⟩, w1 (L.map Prod.snd) R.one fun k => ?_⟩
  rw [g.has k, List.take_length]
end
open Evl (Ex ex_l ex_t fresh_back)
abbrev srtV (vs : List V) (ds : List PyData) : List V := ((vs.zip ds).mergeSort (PySem.W.dataLe false Prod.snd)).map Prod.fst
def rSortD (K : PySem.W.Frag) : List V → Hp → VK → Prop := fun xs H Q => ∃ (a : Addr) (vs : List V) (ds : List PyData), xs = [.ref a] ∧ SqL K H a vs ∧ DpAll K H vs ds ∧ PySem.W.AllAlike ds ∧ PySem.W.Sortable ds ∧ (∀ d, d ∈ ds → d.depth ≤ 8) ∧
  ∀ l, H l = none → Q (.ref l) (upd H l (.lst (srtV vs ds)))
theorem dp_len {K : PySem.W.Frag} {H : Hp} : ∀ {ds : List PyData} {vs : List V}, DpAll K H vs ds → vs.length = ds.length
  | _, _, .nil => rfl
  | _, _, .cons _ h => by simp [dp_len h]
theorem each_zip {α : Type} : ∀ {ds : List α} {vs : List V} {us : List Value}, Vals vs us → vs.length = ds.length → PySem.W.EachIs (fun (v : Value) (b : V × α) => RelV b.1 v) us (vs.zip ds)
  | _, [], _, .nil, _ => .nil
  | d :: ds, v :: vs, _, .cons r h, l => .cons r (each_zip h (by simpa using l))
  | [], _ :: _, _, .cons _ _, l => by simp at l
theorem vals_each {α : Type} : ∀ {bs : List (V × α)} {us : List Value}, PySem.W.EachIs (fun (v : Value) (b : V × α) => RelV b.1 v) us bs → Vals (bs.map Prod.fst) us
  | _, _, .nil => .nil
  | _, _, .cons r h => .cons r (vals_each h)
theorem zip_snd {α β : Type} : ∀ {xs : List α} {ys : List β}, xs.length = ys.length → (xs.zip ys).map Prod.snd = ys
  | [], [], _ => rfl
  | x :: xs, y :: ys, h => by simp [zip_snd (xs := xs) (ys := ys) (by simpa using h)]
  | [], _ :: _, h => by simp at h
  | _ :: _, [], h => by simp at h
theorem cr_sortD {X : Cx} (hu : X.A.units + 64 < cLine) : CallR X (.builtin "sorted") (rSortD X.K) := by
  intro pins s σ H xs us Q I r h
  obtain ⟨a, vs, ds, rfl, hs, dp, al, so, dep, q⟩ := h
  rw [Vals.ref1 r]
  obtain ⟨its, rv, pl, hz⟩ := I.list hs
  obtain ⟨as, rd⟩ := Dp.readsAll I ds _ its dp rv
  have hlen := dp_len dp
  have hsnd : (vs.zip ds).map Prod.snd = ds := zip_snd hlen
  have hvl : vs.length = its.length := rv.length
  refine PySem.W.sorted_data (β := V × PyData) (bs := vs.zip ds) (enc := Prod.snd) (R := fun (v : Value) (b : V × PyData) => RelV b.1 v) (vs := its) pl.isList (each_zip rv hlen) ?er (by rw [hsnd]; exact al) (by rw [hsnd]; exact so) ?len ?dep fun out ho hE => ?_
  case er => exact PySem.W.readsAll_each Prod.snd (by rw [hsnd]; exact rd)
  case len => simp [List.length_zip]; omega
  case dep =>
    intro b hb
    have h1 := dep b.2 (by rw [← hsnd]; exact List.mem_map.2 ⟨b, hb, rfl⟩)
    omega
  · obtain ⟨ep, he'⟩ := PyProof.Rows.sortedAll_at s.heap its out.toArray
    have hv := vals_each hE
    have hl2 : (srtV vs ds).length ≤ sizeLine := by
      rw [List.length_map, List.length_mergeSort, List.length_zip]
      omega
    exact ⟨.ref _, upd H (s.heap.objs.size + 1) (.lst (srtV vs ds)), I.laid (t' := s.toks) (fun _ _ => PyProof.Rows.sortedAll_old) (Nat.le_succ _) ⟨hl2, out, ep, hv, he'⟩, rfl, q _ (I.hok.fresh (Nat.le_succ _))⟩
section
variable {T : Cfg} {W : WX} {ρ : List (Option D)} {m0 : Mu} {XP : XW} {K : Out → Prop} {ta tb tc te te' : TE} {P : D → Mu → Prop} {u : TS} {μ : Mu}
theorem zip_rep {β : Type} {f : β → D} {Hb : Hp} : ∀ {bs : List β} {xs : List V}, RepL T Hb (bs.map f) xs → ∀ p ∈ xs.zip bs, Rep T Hb (f p.2) p.1
  | [], xs, r, p, hp => by simp at hp
  | b :: bs, xs, r, p, hp => by
    obtain ⟨v, ys, rfl, h1, h2⟩ := RepL.cons_inv (d := f b) (ds := bs.map f) r
    rcases List.mem_cons.1 (show p ∈ (v, b) :: ys.zip bs from hp) with e | h
    · rw [e]; exact h1
    · exact zip_rep h2 p h
theorem rep_pairs {β : Type} {f : β → D} {Hb : Hp} : ∀ {zs : List (V × β)}, (∀ p ∈ zs, Rep T Hb (f p.2) p.1) → RepL T Hb ((zs.map Prod.snd).map f) (zs.map Prod.fst)
  | [], _ => .nil
  | z :: zs, h => .cons (h z (List.mem_cons_self ..)) (rep_pairs fun p hp => h p (List.mem_cons_of_mem _ hp))
theorem dpy_all {β : Type} {f : β → D} {enc : β → PyData} : ∀ {bs : List β}, (∀ b ∈ bs, DPy (f b) (enc b)) → DPyL (bs.map f) (bs.map enc)
  | [], _ => .nil
  | b :: bs, h => .cons (h b (List.mem_cons_self ..)) (dpy_all fun p hp => h p (List.mem_cons_of_mem _ hp))
theorem cv_sortE {β : Type} {f : β → D} {enc : β → PyData} {bs : List β} {d : D} (hd : Seqd d (bs.map f)) (hp : ∀ b ∈ bs, DPy (f b) (enc b)) (al : PySem.W.AllAlike (bs.map enc)) (so : PySem.W.Sortable (bs.map enc)) (dep : ∀ b ∈ bs, (enc b).depth ≤ 8)
    (p : P (.lst ((bs.mergeSort (PySem.W.dataLe false enc)).map f)) μ) : CV T (rSortD T.K) [d] μ P := fun xs Hb H Q ex sm rx q => by
  obtain ⟨v, rfl, rv⟩ := one_inv rx
  obtain ⟨a, ys, rfl, hs, ry⟩ := hd.inv rv
  refine ⟨a, ys, bs.map enc, rfl, ex_l ex hs, DPyL.dp ex _ _ _ (dpy_all hp) ry, al, so, fun e he => ?_, fun l hl => ?_⟩
  · obtain ⟨b, hb, rfl⟩ := List.mem_map.1 he
    exact dep b hb
  · have hlen : ys.length = bs.length := by rw [← ry.1, List.length_map]
    have g := Go.lay ex sm (o := .lst (srtV ys (bs.map enc))) hl
    refine q _ _ _ _ _ g ?_ p
    have hz := zip_rep ry
    let r : V × β → V × β → Bool := fun x y => PySem.W.dataLe false enc x.2 y.2
    have e1 : srtV ys (bs.map enc) = ((ys.zip bs).mergeSort r).map Prod.fst := by
      have : ys.zip (bs.map enc) = (ys.zip bs).map (fun z => (z.1, enc z.2)) := by
        rw [List.zip_map_right]; rfl
      show (((ys.zip (bs.map enc)).mergeSort (PySem.W.dataLe false Prod.snd)).map Prod.fst) = _
      rw [this, ← List.map_mergeSort (r := r) (f := fun z : V × β => (z.1, enc z.2)) (fun a _ b _ => rfl), List.map_map]
      rfl
    have e2 : bs.mergeSort (PySem.W.dataLe false enc) = ((ys.zip bs).mergeSort r).map Prod.snd := by
      rw [List.map_mergeSort (s := PySem.W.dataLe false enc) (fun a _ b _ => rfl), zip_snd hlen]
    have rr : RepL T Hb ((((ys.zip bs).mergeSort r).map Prod.snd).map f) (((ys.zip bs).mergeSort r).map Prod.fst) := rep_pairs fun z hz' => hz z ((List.mergeSort_perm _ _).mem_iff.1 hz')
    rw [e2]
    exact .lst (by rw [upd_same, e1]) rr.1 (rr.mono g.ex).2
def kD : Key → D
  | .inl i => .int i
  | .inr x => .str x
theorem rep_key {Hb : Hp} : ∀ {k : List Key} {xs : List V}, RepL T Hb (k.map kD) xs → xs = k.map kV
  | [], xs, r => r.nil_inv
  | .inl i :: k, xs, r => by
    obtain ⟨v, ys, rfl, h1, h2⟩ := RepL.cons_inv (d := kD (.inl i)) (ds := k.map kD) r
    have h1' : Rep T Hb (.int i) v := h1
    cases h1'
    rw [rep_key h2]; rfl
  | .inr i :: k, xs, r => by
    obtain ⟨v, ys, rfl, h1, h2⟩ := RepL.cons_inv (d := kD (.inr i)) (ds := k.map kD) r
    have h1' : Rep T Hb (.str i) v := h1
    cases h1'
    rw [rep_key h2]; rfl
theorem rep_keys {Hb : Hp} : ∀ {ks : List (List Key)} {xs : List V}, RepL T Hb (ks.map fun k => .tup (k.map kD)) xs → ∃ zs : List (Addr × List Key), zs.map Prod.snd = ks ∧ xs = zs.map (fun p => V.ref p.1) ∧ ∀ p, p ∈ zs → SqT T.K Hb p.1 (p.2.map kV)
  | [], xs, r => ⟨[], rfl, r.nil_inv, fun p hp => by cases hp⟩
  | k :: ks, xs, r => by
    obtain ⟨v, ys, rfl, h1, h2⟩ := RepL.cons_inv (d := D.tup (k.map kD)) (ds := ks.map fun k => .tup (k.map kD)) r
    obtain ⟨a, zs, rfl, hs, rz⟩ := h1.tup_inv
    obtain rfl := rep_key rz
    obtain ⟨ws, e1, e2, h3⟩ := rep_keys h2
    refine ⟨(a, k) :: ws, by simp [e1], by simp [e2], fun p hp => ?_⟩
    rcases List.mem_cons.1 hp with rfl | h
    · exact hs
    · exact h3 p h
theorem ev_lenSetM (h : EV T te W ⟨ρ, m0⟩ (fun d μ => ∃ ks : List (List Key), Seqd d (ks.map fun k => .tup (k.map kD)) ∧ ks.length ≤ 63 ∧ ∀ L : List (List Key), L.Nodup → (∀ k, k ∈ L ↔ k ∈ ks) → P (.int L.length) μ) XP) : EV T (tLenSetM T.K te) W ⟨ρ, m0⟩ P XP := fun σ Hb H Q S q x =>
  h σ Hb H _ S (fun d μ v Hb1 H1 g r p => by
    obtain ⟨ks, hd, hl, p⟩ := p
    obtain ⟨a, xs, rfl, hs, rx⟩ := hd.inv r
    obtain ⟨zs, e1, e2, h3⟩ := rep_keys rx
    subst e2
    refine ⟨a, zs, rfl, ex_l g.sub hs, fun p hp => ex_t g.sub (h3 p hp), by rw [← e1] at hl; simpa using hl, fun L hL hm => ?_⟩
    rw [e1] at hm
    exact q _ _ _ _ _ g (.int _) (p L hL hm)) x
theorem ev_dnewM (h : ∀ p, m0 p = none → P (.ptr p) (put m0 p (.dK []))) : EV T tDNewK W ⟨ρ, m0⟩ P XP := fun σ Hb H Q S q x p hp => by
  have g := Go.own S.sub S.mu (o := .dK []) (z := .dK []) hp (show RepP T Hb [] [] from ⟨rfl, fun i g f a _ => by simp at a⟩)
  refine q _ _ _ _ _ g (.ptr p) (h p ?_)
  cases e : m0 p with
  | none => rfl
  | some m =>
    obtain ⟨_, o, ho, _⟩ := S.mu p m e
    rw [hp] at ho; cases ho
theorem repP_snoc {α : Type} {Hb : Hp} {gs : List (α × D)} {fs : List (α × V)} {k : α} {d : D} {v : V} (h : RepP T Hb gs fs) (r : Rep T Hb d v) : RepP T Hb (gs ++ [(k, d)]) (fs ++ [(k, v)]) := by
  have hl : gs.length = fs.length := by have := congrArg List.length h.1; simpa using this
  refine ⟨by simp [h.1], fun i g f a b => ?_⟩
  by_cases hi : i < gs.length
  · rw [List.getElem?_append_left hi] at a
    rw [List.getElem?_append_left (by omega)] at b
    exact h.2 i g f a b
  · rw [List.getElem?_append_right (by omega)] at a
    rw [List.getElem?_append_right (by omega), ← hl] at b
    cases e : i - gs.length with
    | zero => rw [e] at a b; cases a; cases b; exact r
    | succ n => rw [e] at a; simp at a
theorem rep_kD {Hb : Hp} {k : Key} {y : V} (r : Rep T Hb (kD k) y) : y = kV k := by
  cases k with
  | inl i => have r' : Rep T Hb (.int i) y := r; cases r'; rfl
  | inr i => have r' : Rep T Hb (.str i) y := r; cases r'; rfl
theorem valV_fresh {fs : List (Key × V)} {k : Key} (h : k ∉ fs.map Prod.fst) : valV fs k = none := by
  induction fs with
  | nil => rfl
  | cons p r ih =>
    rw [List.map_cons, List.mem_cons, not_or] at h
    rw [valV_neg (fun e => h.1 e.symm)]
    exact ih h.2
theorem sv_dput {td ty tv : TE} (h : EV T tv W ⟨ρ, m0⟩ (fun e μ1 => EV T td W ⟨ρ, μ1⟩ (fun d μ2 => EV T ty W ⟨ρ, μ2⟩ (fun i μ3 => ∃ a kvs k, d = .ptr a ∧ μ3 a = some (.dK kvs) ∧ i = kD k ∧ kvs.length < 1000 ∧ k ∉ kvs.map Prod.fst ∧ K (.nx ⟨ρ, put μ3 a (.dK (kvs ++ [(k, e)]))⟩)) (xk ⟨ρ, m0⟩ K)) (xk ⟨ρ, m0⟩ K)) (xk ⟨ρ, m0⟩ K)) : SV T (sDPut td ty tv) W ⟨ρ, m0⟩ K := fun σ Hb H Dn S c =>
  h σ Hb H _ S (fun e μ1 v Hb1 H1 g1 r1 p1 => p1 σ Hb1 H1 _ (S.go g1) (fun d μ2 x Hb2 H2 g2 r2 p2 => p2 σ Hb2 H2 _ ((S.go g1).go g2) (fun i μ3 y Hb3 H3 g3 r3 p3 => by
    obtain ⟨a, kvs, k, rfl, hm, rfl, hl, hk, kk⟩ := p3
    have r2 := r2.mono g3.ex
    cases r2
    obtain rfl := rep_kD r3
    obtain ⟨n, o, ho, ro⟩ := g3.mu a _ hm
    cases o with
    | dK fs =>
      have ro : RepP T Hb3 kvs fs := ro
      have hlen : kvs.length = fs.length := by have := congrArg List.length ro.1; simpa using this
      refine ⟨a, _, rfl, .inl ⟨fs, k, ho, rfl, ?_, rfl⟩, ?_⟩
      · rw [← hlen, sizeLine_eq]; omega
      · rw [putK_new v (valV_fresh (by rw [← ro.1]; exact hk))]
        have g4 := Go.chg g3.sub g3.mu (o := .dK (fs ++ [(k, v)])) (z := .dK (kvs ++ [(k, e)])) hm (repP_snoc ro ((r1.mono g2.ex).mono g3.ex))
        have g := ((g1.trans g2).trans g3).trans g4
        exact c.nx _ _ _ _ g (S.go g) kk
    | _ => exact ro.elim)
    (fun y μ' cls dd Hb' H' g r p => c.x S y μ' cls dd Hb' H' ((g1.trans g2).trans g) r p)) (fun y μ' cls dd Hb' H' g r p => c.x S y μ' cls dd Hb' H' (g1.trans g) r p)) (c.x S)
inductive Stm (μ : Mu) : D → D → Prop
  | refl (d : D) : Stm μ d d
  | own {p : Addr} {kvs : List (Key × D)} (h : μ p = some (.dK kvs)) : Stm μ (.ptr p) (.dic kvs)
  | lst {ds es : List D} (l : ds.length = es.length) (k : ∀ (i : Nat) (x y : D), ds[i]? = some x → es[i]? = some y → Stm μ x y) : Stm μ (.lst ds) (.lst es)
def frzD (μ : Mu) (a : Addr) (Hb H : Hp) : Hp := fun b => if b = a then Hb b else match μ b with
  | some (.dK _) => H b
  | _ => Hb b
theorem frzD_iff {T : Cfg} {μ : Mu} {Hb H : Hp} {a : Addr} (sm : SimMu T μ Hb H) (b : Addr) (u : HO) (hu : ¬ NoTC u) : frzD μ a Hb H b = some u ↔ Hb b = some u := by
  unfold frzD
  split
  · exact Iff.rfl
  · split
    · rename_i h
      exact sm.frz_iff h hu
    · exact Iff.rfl
theorem frzD_ex {Hb H : Hp} {a : Addr} (ex : Ex Hb H) : Ex Hb (frzD μ a Hb H) := fun b o h => by
  unfold frzD
  split
  · exact h
  · split
    · exact ex b o h
    · exact h
theorem frzD_sub {Hb H : Hp} {a : Addr} (ex : Ex Hb H) : Ex (frzD μ a Hb H) H := fun b o h => by
  unfold frzD at h
  split at h
  · exact ex b o h
  · split at h
    · exact h
    · exact ex b o h
theorem Stm.rep {Hb H : Hp} {a : Addr} {c : Nat} {gs : List (Str × D)} {d d' : D} (h : Stm μ d d') (ex : Ex Hb H) (sm : SimMu T μ Hb H) (ha : μ a = some (.ins c gs)) : ∀ {v : V}, Rep T Hb d v → Rep T (frzD μ a Hb H) d' v := by
  have e1 := frzD_ex (μ := μ) (a := a) ex
  induction h with
  | refl d => intro v r; exact r.mono e1
  | @own p kvs hp =>
    intro v r
    cases r
    obtain ⟨n, o, ho, ro⟩ := sm p _ hp
    cases o with
    | dK fs =>
      have ro : RepP T Hb kvs fs := ro
      have hh : frzD μ a Hb H p = some (.dK fs) := by
        unfold frzD
        rw [if_neg (fun e => by rw [e, ha] at hp; cases hp), hp]
        exact ho
      exact .dic hh ro.1 (ro.mono e1).2
    | _ => exact ro.elim
  | @lst ds es l k ih =>
    intro v r
    obtain ⟨b, xs, rfl, hx, rl⟩ := r.lst_inv
    refine .lst (e1 _ _ hx) (l.symm.trans rl.1) fun i y w hy hw => ?_
    have hi : i < ds.length := by rw [l]; exact (List.getElem?_eq_some_iff.mp hy).1
    exact ih i _ y (List.getElem?_eq_getElem hi) hy (rl.2 i _ w (List.getElem?_eq_getElem hi) hw)
def stK (a : Addr) (c : Nat) (K : Out → Prop) : Out → Prop
  | .nx s' => ∃ gs gs', s'.m a = some (.ins c gs) ∧ gs.map Prod.fst = gs'.map Prod.fst ∧ (∀ (i : Nat) (g g' : Str × D), gs[i]? = some g → gs'[i]? = some g' → Stm s'.m g.2 g'.2) ∧ K (.nx ⟨List.replicate s'.r.length none, put mu0 a (.ins c gs')⟩)
  | o => K o
theorem rep_none (n i : Nat) (d : D) : (List.replicate n (none : Option D))[i]? ≠ some (some d) := by
  intro h
  rw [List.getElem?_replicate] at h
  split at h <;> cases h
theorem sv_stlI {a : Addr} {c : Nat} {s : S} (h : SV T u W s (stK a c K)) : SV T u W s K := fun σ Hb H Dn S cn => h σ Hb H Dn S
  ⟨fun s' σ' Hb' H' g S' p => by
    obtain ⟨gs, gs', ha, hk, st, p⟩ := p
    obtain ⟨n, o, ho, ro⟩ := g.mu a _ ha
    have ex1 := frzD_ex (μ := s'.m) (a := a) g.sub
    cases o with
    | ins C dx fs =>
      obtain ⟨hC, ro⟩ := (show C = T.cls c ∧ RepP T Hb' gs fs from ro)
      have g2 : Go T s'.m Hb' H' (put mu0 a (.ins c gs')) (frzD s'.m a Hb' H') H' := by
        refine ⟨ex1, fun b o h1 h2 h3 _ => ⟨h1, fun _ => ?_⟩, fun b m e => ?_, fun b o h1 => ⟨o, h1⟩, frzD_sub g.sub, g.mu.up (fun _ _ _ q => q) (frzD_iff g.mu) fun b m e => ?_⟩
        · unfold frzD
          split
          · exact h2
          · rw [h3]; exact h2
        · left
          by_cases ec : b = a
          · rw [ec, ha]; simp
          · rw [put_ne ec] at e; cases e
        · by_cases ec : b = a
          · subst ec
            rw [put_same] at e
            cases e
            refine ⟨?_, _, ho, hC, ?_⟩
            · unfold frzD
              rw [if_pos rfl]
              exact n
            · refine ⟨hk.symm.trans ro.1, fun i g' f a b => ?_⟩
              have hi : i < gs.length := by
                have h1 := (List.getElem?_eq_some_iff.mp a).1
                have h2 := congrArg List.length hk
                simp at h2
                omega
              exact (st i _ g' (List.getElem?_eq_getElem hi) a).rep g.sub g.mu ha (ro.2 i _ f (List.getElem?_eq_getElem hi) b)
          · rw [put_ne ec] at e; cases e
      refine cn.nx _ σ' _ _ (g.trans g2) ⟨by simp [S'.len], fun i d e => absurd e (rep_none _ _ _), g2.sub, g2.mu⟩ p
    | _ => exact ro.elim,
   cn.rt, cn.bk, cn.ct, cn.xr⟩
theorem stK_nx {a : Addr} {c : Nat} {s' : S} (h : ∃ gs gs', s'.m a = some (.ins c gs) ∧ gs.map Prod.fst = gs'.map Prod.fst ∧ (∀ (i : Nat) (g g' : Str × D), gs[i]? = some g → gs'[i]? = some g' → Stm s'.m g.2 g'.2) ∧ K (.nx ⟨List.replicate s'.r.length none, put mu0 a (.ins c gs')⟩)) : stK a c K (.nx s') := h
theorem sv_for3T {i j l : Nat} (h : EV T te W ⟨ρ, m0⟩ (fun d μ => ∃ ds ρ' J, Seqd d ds ∧ leR ρ' ρ ∧ J 0 μ ∧ (∀ n e μ', ds[n]? = some e → J n μ' → ∃ x y z, e = .tup [x, y, z] ∧ SV T u W ⟨((ρ'.set i (some x)).set j (some y)).set l (some z), μ'⟩ (forK (InvR ρ' J) n K)) ∧ ∀ s', leR ρ' s'.r → J ds.length s'.m → K (.nx s')) (xk ⟨ρ, m0⟩ K)) : SV T (tFor (iList T.K te) (gTup T.K 3 (gCons (gName i) (gCons (gName j) (gCons (gName l) gNil)))) u) W ⟨ρ, m0⟩ K :=
  sv_for (is := [i] ++ ([j] ++ ([l] ++ []))) (iv_list (h.imp fun d μ ⟨ds, ρ', J, hs, hle, j0, turn, done⟩ => ⟨ds, hs, InvR ρ' J, ⟨hle, j0⟩, fun n s' hn ⟨hl, hj⟩ => by
    obtain ⟨x, y, z, e, k⟩ := turn n (nth ds n) s'.m (nth_get hn) hj
    rw [e]
    exact gv_tup rfl (gvs_cons (gv_name (gvs_cons (gv_name (gvs_cons (gv_name (gvs_nil (sv_wk (((hl.set _ _).set _ _).set _ _) sub_refl k)))))))), fun s' ⟨hl, hj⟩ => done s' hl hj⟩))
theorem ev_lcF3 {i j l : Nat} (h : EV T te W ⟨ρ, m0⟩ (fun d μ => ∃ (ds : List D) (f : D → D), Seqd d ds ∧ ds.length ≤ 100000 ∧ (∀ e ∈ ds, ∃ x y z, e = .tup [x, y, z] ∧ EV T te' (fun _ _ _ _ => False) ⟨(((wipeD ρ [i, j, l]).set i (some x)).set j (some y)).set l (some z), μ⟩ (fun x μ' => x = f e ∧ μ' = μ) (fun _ _ => False)) ∧ P (.lst (ds.map f)) μ) XP) : EV T (tLc (iList T.K te) (gTup T.K 3 (gCons (gName i) (gCons (gName j) (gCons (gName l) gNil)))) tYes te' [i, j, l]) W ⟨ρ, m0⟩ P XP :=
  ev_lc (is := [i] ++ ([j] ++ ([l] ++ []))) (fun _ h => h) (iv_list (h.imp fun d μ ⟨ds, f, hs, hl, turn, done⟩ => ⟨ds, hs, hl, fun n acc μ' => μ' = μ ∧ acc = (ds.take n).map f, ⟨rfl, by simp⟩, fun n acc μ' hn _ ⟨e1, e2⟩ => by
    subst e1 e2
    have hm : nth ds n ∈ ds := List.mem_of_getElem? (nth_get hn)
    obtain ⟨x, y, z, e, k⟩ := turn _ hm
    rw [e]
    refine gv_tup rfl (gvs_cons (gv_name (gvs_cons (gv_name (gvs_cons (gv_name (gvs_nil (tv_yes ⟨fun _ => ?_, fun e => (nomatch e)⟩))))))))
    refine k.imp fun x μ2 ⟨e1, e2⟩ => ⟨e2, ?_⟩
    rw [e1, List.take_succ, nth_get hn]
    simp [e], fun acc μ' ⟨e1, e2⟩ => by
    subst e1 e2
    simpa using done⟩))
end
theorem endT {pr : Program} {wd : World} {B : Around} (hh : B.handled = none) (j t i : Nat) (its : Array Value) (hi : its.size ≤ i) (hne : t ≠ j) : Draws pr wd B j [j, t] i (fun _ _ => False) (fun k h => k = i ∧ h.IsTupleIter j t i ∧ h.IsTuple t its) :=
  ⟨fun _ _ st => let ⟨o, e, _⟩ := st.2.1; ⟨o, e⟩, fun _ _ _ st k => ⟨st.1, st.2.1.at fun o e => k j (by simp) o e, st.2.2.at fun o e => k t (by simp) o e⟩,
    fun k _ _ _ hk st _ => absurd st.1 (by omega), fun _ _ _ st q => wpAny_nextOf_tuple_end hh st.2.1 st.2.2 (by simp; omega) q⟩
def rSumT (K : PySem.W.Frag) : List V → Hp → VK → Prop := fun vs H Q => ∃ (a : Addr) (ns : List Int), vs = [V.ref a] ∧ SqT K H a (ns.map V.int) ∧ Q (.int ns.sum) H
theorem cr_sumT {X : Cx} (hc : X.calm = true) : CallR X (.builtin "sum") (rSumT X.K) := by
  intro pins s σ H vs us Q I r h
  obtain ⟨a, ns, rfl, hs, q⟩ := h
  obtain ⟨its, rv, hl, _⟩ := I.tuple hs
  obtain ⟨xs, e⟩ := rv.ints.allInts.items
  have hn : numsOf (intItems xs).toList = ns := by rw [← e]; exact rv.ints.numsOf
  rw [nums_intItems] at hn
  rw [Vals.ref1 r]
  have hl' : s.heap.IsTuple a (intItems xs) := by rw [← e]; exact hl
  refine PySem.W.ktm_sumG (I.ok.hd hc) hl' fun h' tk t' hk => ⟨.int ns.sum, H, I.kept hk, ⟨t', ?_⟩, q⟩
  rw [preSum_eq, List.take_of_length_le (by simp), hn]
def tNevS : TS := fun _ _ _ => False
theorem ps_nev {X : Cx} {st : Stmt} : PS X st tNevS := ⟨fun _ _ _ _ _ _ h => h.elim⟩
theorem hu1 {k : Nat} {A : Around} (r : Room k A) : A.units + 1 < cLine := by have := r.units; omega
def valD (kvs : List (Key × D)) (k : Key) : Option D := (kvs.find? fun kv => decide (kv.1 = k)).map (·.2)
section
variable {T : Cfg} {W : WX} {ρ : List (Option D)} {m0 : Mu} {XP : XW} {K : Out → Prop} {ta tb tc te te' : TE} {P : D → Mu → Prop} {u : TS} {μ : Mu}
theorem Rep.dic_inv {Hb : Hp} {gs : List (Key × D)} {v : V} (h : Rep T Hb (.dic gs) v) : ∃ a fs, v = .ref a ∧ Hb a = some (.dK fs) ∧ RepP T Hb gs fs := by
  cases h with
  | dic h l r => exact ⟨_, _, rfl, h, l, r⟩
theorem RepP.val {Hb : Hp} {k : Key} : ∀ {gs : List (Key × D)} {fs : List (Key × V)}, RepP T Hb gs fs → (∀ d, valD gs k = some d → ∃ v, valV fs k = some v ∧ Rep T Hb d v) ∧ (valD gs k = none → valV fs k = none) := by
  intro gs
  induction gs with
  | nil =>
    intro fs h
    have e : fs = [] := by have := h.1; simpa using this.symm
    subst e
    exact ⟨fun d e => (nomatch e), fun _ => rfl⟩
  | cons g gs ih =>
    intro fs h
    cases fs with
    | nil => have := h.1; simp at this
    | cons f fs =>
      obtain ⟨h1, h2⟩ := h
      simp only [List.map_cons, List.cons.injEq] at h1
      have r0 := h2 0 g f rfl rfl
      have rt : RepP T Hb gs fs := ⟨h1.2, fun i g' f' a b => h2 (i + 1) g' f' (by simpa using a) (by simpa using b)⟩
      have ih := ih rt
      unfold valD valV at *
      rw [List.find?_cons, List.find?_cons]
      by_cases e : g.1 = k
      · have e2 : f.1 = k := by rw [← h1.1]; exact e
        rw [decide_eq_true e, decide_eq_true e2]
        exact ⟨fun d hd => by cases hd; exact ⟨_, rfl, r0⟩, fun q => (nomatch q)⟩
      · have e2 : ¬ f.1 = k := by rw [← h1.1]; exact e
        rw [decide_eq_false e, decide_eq_false e2]
        exact ih
theorem dget_of {Hb H : Hp} {kvs : List (Key × D)} {k : Key} {v y : V} (ex : Ex Hb H) (r : Rep T Hb (.dic kvs) v) (ry : Rep T Hb (kD k) y) : ∃ a o, v = .ref a ∧ DGet H a y o ∧ (∀ d, valD kvs k = some d → ∃ w, o = some w ∧ Rep T Hb d w) ∧ o.isSome = (valD kvs k).isSome := by
  obtain ⟨a, fs, rfl, ha, rp⟩ := r.dic_inv
  obtain rfl := rep_kD ry
  refine ⟨a, valV fs k, rfl, DGet.k (ex _ _ ha), rp.val.1, ?_⟩
  cases e : valD kvs k with
  | none => rw [rp.val.2 e]; rfl
  | some d => obtain ⟨w, hw, _⟩ := rp.val.1 d e; rw [hw]; rfl
theorem ev_dget {td ty : TE} (h : EV T td W ⟨ρ, m0⟩ (fun d μ1 => EV T ty W ⟨ρ, μ1⟩ (fun e μ2 => ∃ kvs k z, d = .dic kvs ∧ e = kD k ∧ valD kvs k = some z ∧ P z μ2) XP) XP) : EV T (tDGet td ty) W ⟨ρ, m0⟩ P XP := fun σ Hb H Q S q x =>
  h σ Hb H _ S (fun d μ1 v Hb1 H1 g1 r1 p1 => p1 σ Hb1 H1 _ (S.go g1) (fun e μ2 w Hb2 H2 g2 r2 p2 => by
    obtain ⟨kvs, k, z, rfl, rfl, hz, p⟩ := p2
    obtain ⟨a, o, rfl, g, h1, _⟩ := dget_of g2.sub (r1.mono g2.ex) r2
    obtain ⟨w, rfl, rw'⟩ := h1 z hz
    exact ⟨a, w, rfl, g, q _ _ _ _ _ (g1.trans g2) rw' p⟩)
    (fun y μ' cls dd Hb' H' g r p => x y μ' cls dd Hb' H' (g1.trans g) r p)) x
theorem ev_din {td ty : TE} (h : EV T ty W ⟨ρ, m0⟩ (fun e μ1 => EV T td W ⟨ρ, μ1⟩ (fun d μ2 => ∃ kvs k, d = .dic kvs ∧ e = kD k ∧ P (.bl (valD kvs k).isSome) μ2) XP) XP) : EV T (tDIn ty td) W ⟨ρ, m0⟩ P XP := fun σ Hb H Q S q x =>
  h σ Hb H _ S (fun d μ1 v Hb1 H1 g1 r1 p1 => p1 σ Hb1 H1 _ (S.go g1) (fun e μ2 w Hb2 H2 g2 r2 p2 => by
    obtain ⟨kvs, k, rfl, rfl, p⟩ := p2
    obtain ⟨a, o, rfl, g, _, h2⟩ := dget_of g2.sub r2 (r1.mono g2.ex)
    refine ⟨a, o, rfl, g, ?_⟩
    rw [h2]
    exact q _ _ _ _ _ (g1.trans g2) (.bl _) p)
    (fun y μ' cls dd Hb' H' g r p => x y μ' cls dd Hb' H' (g1.trans g) r p)) x
theorem cv_sumT {ns : List Int} (p : P (.int ns.sum) μ) : CV T (rSumT T.K) [.tup (ns.map D.int)] μ P := cv_of (fun xs Hb H Q ex r q => by
  obtain ⟨v, rfl, r1⟩ := one_inv r
  obtain ⟨a, xs, rfl, hx, r2⟩ := r1.tup_inv
  obtain rfl := r2.ints
  exact ⟨a, ns, rfl, ex_t ex hx, q _ (.int _)⟩) p
abbrev InvX {X : Type} (R : Nat → X → List (Option D)) (J : Nat → X → Mu → Prop) : Nat → S → Prop := fun n s => ∃ x, leR (R n x) s.r ∧ J n x s.m
theorem sv_forX {X : Type} (R : Nat → X → List (Option D)) (J : Nat → X → Mu → Prop) {wi : TI} {i : Nat} (h : IV T wi W ⟨ρ, m0⟩ (fun n f μ => ∃ x0, leR (R 0 x0) ρ ∧ J 0 x0 μ ∧ (∀ k x μ', k < n → J k x μ' → SV T u W ⟨(R k x).set i (some (f k)), μ'⟩ (forK (InvX R J) k K)) ∧ ∀ s' x, leR (R n x) s'.r → J n x s'.m → K (.nx s')) (xk ⟨ρ, m0⟩ K)) : SV T (tFor wi (gName i) u) W ⟨ρ, m0⟩ K :=
  sv_for (is := [i]) (fun σ Hb H Q S q x => h σ Hb H Q S (fun j n f μ Hb' H' g ok p => q j n f μ Hb' H' g ok (by
    obtain ⟨x0, hle, j0, turn, done⟩ := p
    exact ⟨InvX R J, ⟨x0, hle, j0⟩, fun k s' hk ⟨x, hl, hj⟩ => gv_name (sv_wk (hl.set i _) sub_refl (turn k x s'.m hk hj)), fun s' ⟨x, hl, hj⟩ => done s' x hl hj⟩)) x)
theorem sv_forX2 {X : Type} (R : Nat → X → List (Option D)) (J : Nat → X → Mu → Prop) {wi : TI} {i j : Nat} (h : IV T wi W ⟨ρ, m0⟩ (fun n f μ => ∃ x0, leR (R 0 x0) ρ ∧ J 0 x0 μ ∧ (∀ k x μ', k < n → J k x μ' → ∃ y z, f k = .tup [y, z] ∧ SV T u W ⟨((R k x).set i (some y)).set j (some z), μ'⟩ (forK (InvX R J) k K)) ∧ ∀ s' x, leR (R n x) s'.r → J n x s'.m → K (.nx s')) (xk ⟨ρ, m0⟩ K)) : SV T (tFor wi (gTup T.K 2 (gCons (gName i) (gCons (gName j) gNil))) u) W ⟨ρ, m0⟩ K :=
  sv_for (is := [i] ++ ([j] ++ [])) (fun σ Hb H Q S q x => h σ Hb H Q S (fun jj n f μ Hb' H' g ok p => q jj n f μ Hb' H' g ok (by
    obtain ⟨x0, hle, j0, turn, done⟩ := p
    refine ⟨InvX R J, ⟨x0, hle, j0⟩, fun k s' hk ⟨x, hl, hj⟩ => ?_, fun s' ⟨x, hl, hj⟩ => done s' x hl hj⟩
    obtain ⟨y, z, e, t⟩ := turn k x s'.m hk hj
    rw [e]
    exact gv_tup rfl (gvs_cons (gv_name (gvs_cons (gv_name (gvs_nil (sv_wk ((hl.set _ _).set _ _) sub_refl t)))))))) x)
theorem range_succ_fm {g : Nat → Option D} {k : Nat} : (List.range (k + 1)).filterMap g = (List.range k).filterMap g ++ (g k).toList := by
  rw [List.range_succ, List.filterMap_append]
  cases e : g k <;> simp [e]
theorem ev_lcX {wi : TI} {i : Nat} {tt : TT} (h : IV T wi W ⟨ρ, m0⟩ (fun n f μ => n ≤ 100000 ∧ ∃ g : Nat → Option D, (∀ k, k < n → TV T tt (fun _ _ _ _ => False) ⟨(wipeD ρ [i]).set i (some (f k)), μ⟩ (fun b μ1 => μ1 = μ ∧ (b = true → EV T te' (fun _ _ _ _ => False) ⟨(wipeD ρ [i]).set i (some (f k)), μ⟩ (fun z μ2 => g k = some z ∧ μ2 = μ) (fun _ _ => False)) ∧ (b = false → g k = none)) (fun _ _ => False)) ∧ P (.lst ((List.range n).filterMap g)) μ) XP) : EV T (tLc wi (gName i) tt te' [i]) W ⟨ρ, m0⟩ P XP :=
  ev_lc (is := [i]) (fun _ h => h) (fun σ Hb H Q S q x => h σ Hb H Q S (fun jj n f μ Hb' H' g ok p => q jj n f μ Hb' H' g ok (by
    obtain ⟨hn, gg, turn, done⟩ := p
    refine ⟨hn, fun k acc μ' => μ' = μ ∧ acc = (List.range k).filterMap gg, ⟨rfl, by simp⟩, fun k acc μ' hk _ ⟨e1, e2⟩ => ?_, fun acc μ' ⟨e1, e2⟩ => by subst e1 e2; exact done⟩
    subst e1 e2
    refine gv_name fun σ Hb H Q S q x => turn k hk σ Hb H Q S (fun b μ1 Hb' H' g p => q b μ1 Hb' H' g ?_) x
    obtain ⟨rfl, h1, h2⟩ := p
    refine ⟨fun e => (h1 e).imp fun z μ2 ⟨e1, e2⟩ => ⟨e2, ?_⟩, fun e => ⟨rfl, ?_⟩⟩
    · rw [range_succ_fm, e1]; rfl
    · rw [range_succ_fm, h2 e]; simp)) x)
theorem ev_lcX2 {wi : TI} {i j : Nat} {tt : TT} (h : IV T wi W ⟨ρ, m0⟩ (fun n f μ => n ≤ 100000 ∧ ∃ g : Nat → Option D, (∀ k, k < n → ∃ y z, f k = .tup [y, z] ∧ TV T tt (fun _ _ _ _ => False) ⟨((wipeD ρ [i, j]).set i (some y)).set j (some z), μ⟩ (fun b μ1 => μ1 = μ ∧ (b = true → EV T te' (fun _ _ _ _ => False) ⟨((wipeD ρ [i, j]).set i (some y)).set j (some z), μ⟩ (fun z μ2 => g k = some z ∧ μ2 = μ) (fun _ _ => False)) ∧ (b = false → g k = none)) (fun _ _ => False)) ∧ P (.lst ((List.range n).filterMap g)) μ) XP) : EV T (tLc wi (gTup T.K 2 (gCons (gName i) (gCons (gName j) gNil))) tt te' [i, j]) W ⟨ρ, m0⟩ P XP :=
  ev_lc (is := [i] ++ ([j] ++ [])) (fun _ h => h) (fun σ Hb H Q S q x => h σ Hb H Q S (fun jj n f μ Hb' H' g ok p => q jj n f μ Hb' H' g ok (by
    obtain ⟨hn, gg, turn, done⟩ := p
    refine ⟨hn, fun k acc μ' => μ' = μ ∧ acc = (List.range k).filterMap gg, ⟨rfl, by simp⟩, fun k acc μ' hk _ ⟨e1, e2⟩ => ?_, fun acc μ' ⟨e1, e2⟩ => by subst e1 e2; exact done⟩
    subst e1 e2
    obtain ⟨y, z, e, t⟩ := turn k hk
    rw [e]
    refine gv_tup rfl (gvs_cons (gv_name (gvs_cons (gv_name (gvs_nil fun σ Hb H Q S q x => t σ Hb H Q S (fun b μ1 Hb' H' g p => q b μ1 Hb' H' g ?_) x)))))
    obtain ⟨rfl, h1, h2⟩ := p
    refine ⟨fun e => (h1 e).imp fun z μ2 ⟨e1, e2⟩ => ⟨e2, ?_⟩, fun e => ⟨rfl, ?_⟩⟩
    · rw [range_succ_fm, e1]; rfl
    · rw [range_succ_fm, h2 e]; simp)) x)
end
abbrev Cls' := Value × Option Nat × (Addr → Value → Option Addr → TS)
section
variable {T : Cfg} {W : WX} {ρ : List (Option D)} {m0 : Mu} {XP : XW} {K : Out → Prop} {te te' : TE} {P : D → Mu → Prop} {u : TS} {μ : Mu} {E : XK} {ta : TA} {Hb H : Hp}
theorem cv_isiM {a : Addr} {ds : List D} {n : String} {b : Bool} (hm : μ a = some (.lst ds)) (hk : PySem.W.kitOne T.K (.type "list") (.type n) = some b) (p : P (.bl b) μ) : CV T (rIsi T.K) [.ptr a, .ty n] μ P := fun xs Hb H Q ex sm r q => by
  obtain ⟨v, w, rfl, r1, r2⟩ := two_inv r
  cases r1
  cases r2
  obtain ⟨_, o, ho, ro⟩ := sm a _ hm
  cases o with
  | lst ys => exact ⟨_, _, _, _, b, rfl, .ty n, .base (.lst ho), hk, q _ _ _ _ _ (Go.refl ex sm) (.bl _) p⟩
  | _ => exact ro.elim
abbrev rDictP (K : PySem.W.Frag) : List V → Hp → VK → Prop := fun xs H Q => ∃ (a : Addr) (ps : List Addr) (kvs : List (Key × V)), xs = [.ref a] ∧ SqL K H a (ps.map V.ref) ∧ Paired (fun p kv => SqT K H p [kV kv.1, kv.2]) ps kvs ∧ ∀ p, H p = none → Q (.ref p) (upd H p (.dK (mergeK [] kvs)))
theorem merge_nd : ∀ {more acc : List (Key × V)}, ((acc ++ more).map Prod.fst).Nodup → mergeK acc more = acc ++ more := by
  intro more
  induction more with
  | nil => intro acc _; simp [mergeK]
  | cons kv more ih =>
    intro acc h
    have hk : kv.1 ∉ acc.map Prod.fst := by
      rw [List.map_append, List.map_cons, List.nodup_append] at h
      exact fun hm => h.2.2 _ hm _ (List.mem_cons_self) rfl
    have e : mergeK acc (kv :: more) = mergeK (putK acc kv.1 kv.2) more := rfl
    rw [e, putK_new _ (valV_fresh hk), ih (by simpa using h)]
    simp
theorem pairs_rep {Hb : Hp} : ∀ {kds : List (Key × D)} {xs : List V}, RepL T Hb (kds.map fun kd => .tup [kD kd.1, kd.2]) xs → ∃ (ps : List Addr) (kvs : List (Key × V)), xs = ps.map V.ref ∧ Paired (fun p kv => SqT T.K Hb p [kV kv.1, kv.2]) ps kvs ∧ RepP T Hb kds kvs := by
  intro kds
  induction kds with
  | nil => intro xs r; exact ⟨[], [], r.nil_inv, .nil, rfl, fun i g f a _ => by simp at a⟩
  | cons kd kds ih =>
    intro xs r
    obtain ⟨v, ys, rfl, r1, r2⟩ := RepL.cons_inv (d := .tup [kD kd.1, kd.2]) (ds := kds.map fun kd => .tup [kD kd.1, kd.2]) r
    obtain ⟨ps, kvs, rfl, hp, rp⟩ := ih r2
    obtain ⟨p, zs, rfl, hs, rz⟩ := r1.tup_inv
    obtain ⟨k, w, rfl, rk, rw'⟩ := two_inv rz
    obtain rfl := rep_kD rk
    refine ⟨p :: ps, (kd.1, w) :: kvs, rfl, .cons hs hp, by simp [rp.1], fun i g f a b => ?_⟩
    cases i with
    | zero =>
      simp at a b
      subst a b
      exact rw'
    | succ i =>
      simp at a b
      exact rp.2 i g f a b
theorem Paired.sq {Hb H : Hp} (ex : Ex Hb H) {ps : List Addr} {kvs : List (Key × V)} (h : Paired (fun p kv => SqT T.K Hb p [kV kv.1, kv.2]) ps kvs) : Paired (fun p kv => SqT T.K H p [kV kv.1, kv.2]) ps kvs := by
  induction h with
  | nil => exact .nil
  | cons a _ ih => exact .cons (ex_t ex a) ih
theorem cv_dictP {d : D} {kds : List (Key × D)} (hd : Seqd d (kds.map fun kd => .tup [kD kd.1, kd.2])) (hn : (kds.map Prod.fst).Nodup) (p : P (.dic kds) μ) : CV T (rDictP T.K) [d] μ P := fun xs Hb H Q ex sm r q => by
  obtain ⟨v, rfl, r1⟩ := one_inv r
  obtain ⟨a, ys, rfl, hs, ry⟩ := hd.inv r1
  obtain ⟨ps, kvs, rfl, hp, rp⟩ := pairs_rep ry
  refine ⟨a, ps, kvs, rfl, ex_l ex hs, Paired.sq ex hp, fun l hl => ?_⟩
  have e : mergeK [] kvs = kvs := by
    rw [merge_nd (by rw [List.nil_append, ← rp.1]; exact hn), List.nil_append]
  rw [e]
  have g := Go.lay ex sm (o := .dK kvs) hl
  have rp2 := rp.mono g.ex
  exact q _ _ _ _ _ g (.dic upd_same rp2.1 rp2.2) p
end
end Pw
namespace Lw
open PySem PySem.Spec PyProof.Rows L2 Pw
def top (i : Nat) : Stmt := PySem.Challenge.pw_farbetween_k62_farthest_words.main.body.getD i (.Pass ⟨0, 0, 0, 0⟩)
abbrev s_is_whole : Stmt := (top 10)
abbrev s_is_between : Stmt := (top 11)
abbrev s_is_name : Stmt := (top 12)
abbrev s_common : Stmt := (top 13)
abbrev s_Share___init__ : Stmt := (inClass (top 15) 0)
abbrev s_Share___eq__ : Stmt := (inClass (top 15) 1)
abbrev s_Share___str__ : Stmt := (inClass (top 15) 2)
abbrev s_minus : Stmt := (top 16)
abbrev s_times : Stmt := (top 17)
abbrev s_less : Stmt := (top 18)
abbrev s_are_weights : Stmt := (top 21)
abbrev s_is_step : Stmt := (top 22)
abbrev s_are_steps : Stmt := (top 23)
abbrev s_lowest : Stmt := (top 24)
abbrev s_Machine___init__ : Stmt := (inClass (top 25) 0)
abbrev s_check_fade : Stmt := (top 27)
abbrev s_check_depth : Stmt := (top 28)
abbrev s_signs_of : Stmt := (top 32)
abbrev s_Going___init__ : Stmt := (inClass (top 33) 0)
abbrev s_Going_begun : Stmt := (inClass (top 33) 1)
abbrev s_Going_gone : Stmt := (inClass (top 33) 2)
abbrev s_share_of : Stmt := (top 34)
abbrev s_check_words : Stmt := (top 35)
abbrev s_farthest_wordN : Stmt := (top 36)
abbrev s_Lwell : Stmt := (top 38)
abbrev s_Ldraw : Stmt := (top 39)
abbrev s_Lone : Stmt := (top 40)
abbrev s_Llow : Stmt := (top 41)
abbrev s_Lpair : Stmt := (top 42)
abbrev s_Lnames : Stmt := (top 43)
abbrev s_Lweights : Stmt := (top 44)
abbrev s_Lmachine : Stmt := (top 45)
abbrev s_Lspread62 : Stmt := (top 46)
abbrev s_Ltotal62 : Stmt := (top 47)
abbrev s_Lnumber62 : Stmt := (top 48)
abbrev s_Lfarthest62 : Stmt := (top 49)
abbrev s_Lother62 : Stmt := (top 50)
abbrev s_law : Stmt := (top 51)
theorem sc_is_whole : FnScope ["thing"] ["thing"] (defScope s_is_whole) := ⟨rfl, rfl, rfl, by decide +kernel, rfl, by decide +kernel, by decide +kernel⟩
theorem sc_is_between : FnScope ["thing", "low", "high"] ["thing", "low", "high"] (defScope s_is_between) := ⟨rfl, rfl, rfl, by decide +kernel, rfl, by decide +kernel, by decide +kernel⟩
theorem sc_is_name : FnScope ["thing", "letter"] ["thing"] (defScope s_is_name) := ⟨rfl, rfl, rfl, by decide +kernel, rfl, by decide +kernel, by decide +kernel⟩
theorem sc_common : FnScope ["one", "other"] ["one", "other"] (defScope s_common) := ⟨rfl, rfl, rfl, by decide +kernel, rfl, by decide +kernel, by decide +kernel⟩
theorem sc_Share___init__ : FnScope ["self", "top", "bottom", "by"] ["self", "top", "bottom"] (defScope s_Share___init__) := ⟨rfl, rfl, rfl, by decide +kernel, rfl, by decide +kernel, by decide +kernel⟩
theorem sc_minus : FnScope ["one", "other"] ["one", "other"] (defScope s_minus) := ⟨rfl, rfl, rfl, by decide +kernel, rfl, by decide +kernel, by decide +kernel⟩
theorem sc_times : FnScope ["one", "other"] ["one", "other"] (defScope s_times) := ⟨rfl, rfl, rfl, by decide +kernel, rfl, by decide +kernel, by decide +kernel⟩
theorem sc_less : FnScope ["one", "other"] ["one", "other"] (defScope s_less) := ⟨rfl, rfl, rfl, by decide +kernel, rfl, by decide +kernel, by decide +kernel⟩
theorem sc_are_weights : FnScope ["thing", "many", "weight"] ["thing", "many"] (defScope s_are_weights) := ⟨rfl, rfl, rfl, by decide +kernel, rfl, by decide +kernel, by decide +kernel⟩
theorem sc_is_step : FnScope ["thing", "many"] ["thing", "many"] (defScope s_is_step) := ⟨rfl, rfl, rfl, by decide +kernel, rfl, by decide +kernel, by decide +kernel⟩
theorem sc_are_steps : FnScope ["thing", "many", "step"] ["thing", "many"] (defScope s_are_steps) := ⟨rfl, rfl, rfl, by decide +kernel, rfl, by decide +kernel, by decide +kernel⟩
theorem sc_lowest : FnScope ["weights", "by", "weight"] ["weights"] (defScope s_lowest) := ⟨rfl, rfl, rfl, by decide +kernel, rfl, by decide +kernel, by decide +kernel⟩
theorem sc_Machine___init__ : FnScope ["self", "many", "steps", "room", "sign", "weights"] ["self", "many", "steps"] (defScope s_Machine___init__) := ⟨rfl, rfl, rfl, by decide +kernel, rfl, by decide +kernel, by decide +kernel⟩
theorem sc_check_fade : FnScope ["fade"] ["fade"] (defScope s_check_fade) := ⟨rfl, rfl, rfl, by decide +kernel, rfl, by decide +kernel, by decide +kernel⟩
theorem sc_check_depth : FnScope ["depth", "most"] ["depth", "most"] (defScope s_check_depth) := ⟨rfl, rfl, rfl, by decide +kernel, rfl, by decide +kernel, by decide +kernel⟩
theorem sc_signs_of : FnScope ["machine", "room", "sign", "weights"] ["machine"] (defScope s_signs_of) := ⟨rfl, rfl, rfl, by decide +kernel, rfl, by decide +kernel, by decide +kernel⟩
theorem sc_Going___init__ : FnScope ["self", "machine", "room", "sign", "weights", "whole", "by", "part", "to", "weight"] ["self", "machine"] (defScope s_Going___init__) := ⟨rfl, rfl, rfl, by decide +kernel, rfl, by decide +kernel, by decide +kernel⟩
theorem sc_Going_begun : FnScope ["self", "room"] ["self"] (defScope s_Going_begun) := ⟨rfl, rfl, rfl, by decide +kernel, rfl, by decide +kernel, by decide +kernel⟩
theorem sc_Going_gone : FnScope ["self", "spread", "sign", "found", "numbers", "bottom", "room", "number", "to", "weight"] ["self", "spread", "sign"] (defScope s_Going_gone) := ⟨rfl, rfl, rfl, by decide +kernel, rfl, by decide +kernel, by decide +kernel⟩
theorem sc_share_of : FnScope ["spread", "numbers", "bottom"] ["spread"] (defScope s_share_of) := ⟨rfl, rfl, rfl, by decide +kernel, rfl, by decide +kernel, by decide +kernel⟩
theorem sc_check_words : FnScope ["fade", "one", "other", "long"] ["fade", "one", "other", "long"] (defScope s_check_words) := ⟨rfl, rfl, rfl, by decide +kernel, rfl, by decide +kernel, by decide +kernel⟩
theorem sc_farthest_wordN : FnScope ["fade", "one", "other", "long", "signs", "rows", "best", "factor", "k", "first", "second", "longer", "word", "mine", "yours", "by", "apart", "sign"] ["fade", "one", "other", "long"] (defScope s_farthest_wordN) := ⟨rfl, rfl, rfl, by decide +kernel, rfl, by decide +kernel, by decide +kernel⟩
theorem sc_Lwell : FnScope ["_law_cell"] ["_law_cell"] (defScope s_Lwell) := ⟨rfl, rfl, rfl, by decide +kernel, rfl, by decide +kernel, by decide +kernel⟩
theorem sc_Ldraw : FnScope ["_law_well_here", "_law_many", "_law_prime", "_law_number_here", "_law_digit"] ["_law_well_here", "_law_many"] (defScope s_Ldraw) := ⟨rfl, rfl, rfl, by decide +kernel, rfl, by decide +kernel, by decide +kernel⟩
theorem sc_Lone : FnScope ["_law_well_here", "_law_some"] ["_law_well_here", "_law_some"] (defScope s_Lone) := ⟨rfl, rfl, rfl, by decide +kernel, rfl, by decide +kernel, by decide +kernel⟩
theorem sc_Llow : FnScope ["_law_top", "_law_bottom", "_law_one_here", "_law_other_here"] ["_law_top", "_law_bottom"] (defScope s_Llow) := ⟨rfl, rfl, rfl, by decide +kernel, rfl, by decide +kernel, by decide +kernel⟩
theorem sc_Lpair : FnScope ["_law_share"] ["_law_share"] (defScope s_Lpair) := ⟨rfl, rfl, rfl, by decide +kernel, rfl, by decide +kernel, by decide +kernel⟩
theorem sc_Lnames : FnScope ["_law_well_here", "_law_many", "_law_found", "_law_last", "_law_some", "_law_at", "_law_word", "_law_k"] ["_law_well_here", "_law_many"] (defScope s_Lnames) := ⟨rfl, rfl, rfl, by decide +kernel, rfl, by decide +kernel, by decide +kernel⟩
theorem sc_Lweights : FnScope ["_law_well_here", "_law_many", "_law_way", "_law_found", "_law_k", "_law_at", "_law_room"] ["_law_well_here", "_law_many"] (defScope s_Lweights) := ⟨rfl, rfl, rfl, by decide +kernel, rfl, by decide +kernel, by decide +kernel⟩
theorem sc_Lmachine : FnScope ["_law_well_here", "_law_signs", "_law_most", "_law_many", "_law_way", "_law_bare", "_law_few", "_law_steps", "_law_room", "_law_at", "_law_sign"] ["_law_well_here", "_law_signs", "_law_most"] (defScope s_Lmachine) := ⟨rfl, rfl, rfl, by decide +kernel, rfl, by decide +kernel, by decide +kernel⟩
theorem sc_Lspread62 : FnScope ["_law_steps", "_law_many", "_law_spread_here", "_law_sign", "_law_onward", "_law_later", "_law_room", "_law_top", "_law_bottom", "_law_whole", "_law_to", "_law_weight", "_law_by", "_law_here", "_law_mine", "_law_weights_here", "_law_one_here", "_law_other_here"] ["_law_steps", "_law_many", "_law_spread_here", "_law_sign"] (defScope s_Lspread62) := ⟨rfl, rfl, rfl, by decide +kernel, rfl, by decide +kernel, by decide +kernel⟩
theorem sc_Ltotal62 : FnScope ["_law_pairs", "_law_found", "_law_top", "_law_bottom"] ["_law_pairs"] (defScope s_Ltotal62) := ⟨rfl, rfl, rfl, by decide +kernel, rfl, by decide +kernel, by decide +kernel⟩
theorem sc_Lnumber62 : FnScope ["_law_spreads", "_law_factor", "_law_by", "_law_one_here", "_law_other_here", "_law_spread_here"] ["_law_spreads", "_law_factor"] (defScope s_Lnumber62) := ⟨rfl, rfl, rfl, by decide +kernel, rfl, by decide +kernel, by decide +kernel⟩
theorem sc_Lfarthest62 : FnScope ["_law_fade", "_law_some", "_law_long", "_law_signs", "_law_rows", "_law_best", "_law_factor", "_law_k", "_law_longer", "_law_word", "_law_spreads", "_law_sign", "_law_later", "_law_number_here", "_law_step", "_law_spread_here", "_law_many", "_law_steps"] ["_law_fade", "_law_some", "_law_long"] (defScope s_Lfarthest62) := ⟨rfl, rfl, rfl, by decide +kernel, rfl, by decide +kernel, by decide +kernel⟩
theorem sc_Lother62 : FnScope ["_law_well_here", "_law_many", "_law_steps", "_law_names_here", "_law_at", "_law_to", "_law_row", "_law_room", "_law_sign", "_law_weights_here"] ["_law_well_here", "_law_many", "_law_steps", "_law_names_here"] (defScope s_Lother62) := ⟨rfl, rfl, rfl, by decide +kernel, rfl, by decide +kernel, by decide +kernel⟩
theorem sc_law : FnScope ["_law_script", "_law_cell", "_law_well_here", "_law_names_here", "_law_mine", "_law_some", "_law_wide", "_law_long", "_law_fade", "_law_machines", "_law_due", "_law_turn", "_law_many", "_law_steps", "_law_found", "_law_amount", "_law_row", "_law_step"] ["_law_script"] (defScope s_law) := ⟨rfl, rfl, rfl, by decide +kernel, rfl, by decide +kernel, by decide +kernel⟩
abbrev FnP (K : PySem.W.Frag) (x q : Str) (st : Stmt) (dvs : List V) (f : Addr) : Prop := FunD K x q (defArgs st) (defBody st) (defScope st) dvs [] f (fdOf K f)
def d_is_whole : He.DefD := ⟨("is_whole", none), "is_whole", "is_whole", defArgs s_is_whole, defBody s_is_whole, defScope s_is_whole, [], []⟩
def d_is_between : He.DefD := ⟨("is_between", none), "is_between", "is_between", defArgs s_is_between, defBody s_is_between, defScope s_is_between, [], []⟩
def d_is_name : He.DefD := ⟨("is_name", none), "is_name", "is_name", defArgs s_is_name, defBody s_is_name, defScope s_is_name, [], []⟩
def d_common : He.DefD := ⟨("common", none), "common", "common", defArgs s_common, defBody s_common, defScope s_common, [], []⟩
def d_Share___init__ : He.DefD := ⟨("Share", some "__init__"), "__init__", "Share.__init__", defArgs s_Share___init__, defBody s_Share___init__, defScope s_Share___init__, [.int 1], []⟩
def d_Share___eq__ : He.DefD := ⟨("Share", some "__eq__"), "__eq__", "Share.__eq__", defArgs s_Share___eq__, defBody s_Share___eq__, defScope s_Share___eq__, [], []⟩
def d_Share___str__ : He.DefD := ⟨("Share", some "__str__"), "__str__", "Share.__str__", defArgs s_Share___str__, defBody s_Share___str__, defScope s_Share___str__, [], []⟩
def d_minus : He.DefD := ⟨("minus", none), "minus", "minus", defArgs s_minus, defBody s_minus, defScope s_minus, [], []⟩
def d_times : He.DefD := ⟨("times", none), "times", "times", defArgs s_times, defBody s_times, defScope s_times, [], []⟩
def d_less : He.DefD := ⟨("less", none), "less", "less", defArgs s_less, defBody s_less, defScope s_less, [], []⟩
def d_are_weights : He.DefD := ⟨("are_weights", none), "are_weights", "are_weights", defArgs s_are_weights, defBody s_are_weights, defScope s_are_weights, [], []⟩
def d_is_step : He.DefD := ⟨("is_step", none), "is_step", "is_step", defArgs s_is_step, defBody s_is_step, defScope s_is_step, [], []⟩
def d_are_steps : He.DefD := ⟨("are_steps", none), "are_steps", "are_steps", defArgs s_are_steps, defBody s_are_steps, defScope s_are_steps, [], []⟩
def d_lowest : He.DefD := ⟨("lowest", none), "lowest", "lowest", defArgs s_lowest, defBody s_lowest, defScope s_lowest, [], []⟩
def d_Machine___init__ : He.DefD := ⟨("Machine", some "__init__"), "__init__", "Machine.__init__", defArgs s_Machine___init__, defBody s_Machine___init__, defScope s_Machine___init__, [], []⟩
def d_check_fade : He.DefD := ⟨("check_fade", none), "check_fade", "check_fade", defArgs s_check_fade, defBody s_check_fade, defScope s_check_fade, [], []⟩
def d_check_depth : He.DefD := ⟨("check_depth", none), "check_depth", "check_depth", defArgs s_check_depth, defBody s_check_depth, defScope s_check_depth, [], []⟩
def d_signs_of : He.DefD := ⟨("signs_of", none), "signs_of", "signs_of", defArgs s_signs_of, defBody s_signs_of, defScope s_signs_of, [], []⟩
def d_Going___init__ : He.DefD := ⟨("Going", some "__init__"), "__init__", "Going.__init__", defArgs s_Going___init__, defBody s_Going___init__, defScope s_Going___init__, [], []⟩
def d_Going_begun : He.DefD := ⟨("Going", some "begun"), "begun", "Going.begun", defArgs s_Going_begun, defBody s_Going_begun, defScope s_Going_begun, [], []⟩
def d_Going_gone : He.DefD := ⟨("Going", some "gone"), "gone", "Going.gone", defArgs s_Going_gone, defBody s_Going_gone, defScope s_Going_gone, [], []⟩
def d_share_of : He.DefD := ⟨("share_of", none), "share_of", "share_of", defArgs s_share_of, defBody s_share_of, defScope s_share_of, [], []⟩
def d_check_words : He.DefD := ⟨("check_words", none), "check_words", "check_words", defArgs s_check_words, defBody s_check_words, defScope s_check_words, [], []⟩
def d_farthest_wordN : He.DefD := ⟨("farthest_word", none), "farthest_word", "farthest_word", defArgs s_farthest_wordN, defBody s_farthest_wordN, defScope s_farthest_wordN, [], []⟩
def d_Lwell : He.DefD := ⟨("_law_well", none), "_law_well", "_law_well", defArgs s_Lwell, defBody s_Lwell, defScope s_Lwell, [], []⟩
def d_Ldraw : He.DefD := ⟨("_law_draw", none), "_law_draw", "_law_draw", defArgs s_Ldraw, defBody s_Ldraw, defScope s_Ldraw, [], []⟩
def d_Lone : He.DefD := ⟨("_law_one", none), "_law_one", "_law_one", defArgs s_Lone, defBody s_Lone, defScope s_Lone, [], []⟩
def d_Llow : He.DefD := ⟨("_law_low", none), "_law_low", "_law_low", defArgs s_Llow, defBody s_Llow, defScope s_Llow, [], []⟩
def d_Lpair : He.DefD := ⟨("_law_pair", none), "_law_pair", "_law_pair", defArgs s_Lpair, defBody s_Lpair, defScope s_Lpair, [], []⟩
def d_Lnames : He.DefD := ⟨("_law_names", none), "_law_names", "_law_names", defArgs s_Lnames, defBody s_Lnames, defScope s_Lnames, [], []⟩
def d_Lweights : He.DefD := ⟨("_law_weights", none), "_law_weights", "_law_weights", defArgs s_Lweights, defBody s_Lweights, defScope s_Lweights, [], []⟩
def d_Lmachine : He.DefD := ⟨("_law_machine", none), "_law_machine", "_law_machine", defArgs s_Lmachine, defBody s_Lmachine, defScope s_Lmachine, [], []⟩
def d_Lspread62 : He.DefD := ⟨("_law_spread", none), "_law_spread", "_law_spread", defArgs s_Lspread62, defBody s_Lspread62, defScope s_Lspread62, [], []⟩
def d_Ltotal62 : He.DefD := ⟨("_law_total", none), "_law_total", "_law_total", defArgs s_Ltotal62, defBody s_Ltotal62, defScope s_Ltotal62, [], []⟩
def d_Lnumber62 : He.DefD := ⟨("_law_number", none), "_law_number", "_law_number", defArgs s_Lnumber62, defBody s_Lnumber62, defScope s_Lnumber62, [], []⟩
def d_Lfarthest62 : He.DefD := ⟨("_law_farthest", none), "_law_farthest", "_law_farthest", defArgs s_Lfarthest62, defBody s_Lfarthest62, defScope s_Lfarthest62, [], []⟩
def d_Lother62 : He.DefD := ⟨("_law_other", none), "_law_other", "_law_other", defArgs s_Lother62, defBody s_Lother62, defScope s_Lother62, [], []⟩
def d_law : He.DefD := ⟨("law", none), "law", "law", defArgs s_law, defBody s_law, defScope s_law, [], []⟩
def fn : List He.DefD := ([d_is_whole, d_is_between, d_is_name, d_common, d_Share___init__, d_Share___eq__, d_Share___str__, d_minus, d_times, d_less, d_are_weights, d_is_step, d_are_steps, d_lowest, d_Machine___init__, d_check_fade, d_check_depth, d_signs_of, d_Going___init__, d_Going_begun, d_Going_gone, d_share_of, d_check_words, d_farthest_wordN, d_Lwell, d_Ldraw, d_Lone, d_Llow, d_Lpair, d_Lnames] : List He.DefD) ++ ([d_Lweights, d_Lmachine, d_Lspread62, d_Ltotal62, d_Lnumber62, d_Lfarthest62, d_Lother62, d_law] : List He.DefD)
def fa : List He.Fa := ([.glo "is_whole", .glo "is_between", .glo "is_name", .glo "common", .glo "minus", .glo "times", .glo "less", .glo "are_weights", .glo "is_step", .glo "are_steps", .glo "lowest", .glo "check_fade", .glo "check_depth", .glo "signs_of", .glo "share_of", .glo "check_words", .glo "farthest_word", .glo "_law_well", .glo "_law_draw", .glo "_law_one", .glo "_law_low", .glo "_law_pair", .glo "_law_names", .glo "_law_weights", .glo "_law_machine", .glo "_law_spread", .glo "_law_total", .glo "_law_number", .glo "_law_farthest", .glo "_law_other"] : List He.Fa) ++ ([.glo "law", .glo "FarError", .glo "NoShare", .glo "NoMachine", .glo "NoFade", .glo "NoDepth", .glo "TooMany", .glo "Share", .cls "Share", .mkr "Share", .noat "Share" "top", .noat "Share" "bottom", .meth "Share" "__eq__", .meth "Share" "__str__", .glo "Machine", .cls "Machine", .mkr "Machine", .noat "Machine" "many", .noat "Machine" "steps", .noat "Machine" "onward", .glo "Going", .cls "Going", .mkr "Going", .noat "Going" "many", .noat "Going" "by", .noat "Going" "rows", .meth "Going" "begun", .meth "Going" "gone", .free "abs", .free "all"] : List He.Fa) ++ ([.free "bool", .free "dict", .free "enumerate", .free "int", .free "isinstance", .free "len", .free "list", .free "max", .free "range", .free "set", .free "sorted", .free "str", .free "sum", .free "tuple", .free "zip", .str "LETTERS" "abcdefghijklmnopqrstuvwxyz", .int "MOST_LETTERS" 8, .int "MOST_ROOMS" 12, .int "MOST_LONG" 6, .int "MOST_SIGNS" 3] : List He.Fa)
def exs : List (PySem.W.Frag → Bool) := ([(fun K => decide (PySem.W.mroIn K (He.ga K "Share") (.type "object") = some true)), (fun K => He.eqO (PySem.W.findIn K (.ref (He.ga K "Share")) "__ne__") (some (some (.builtin "object.__ne__")))), (fun K => He.eqO (PySem.W.findIn K (.ref (He.ga K "Share")) "__class__") (some (some (.builtin "object.__class__")))), (fun K => He.eqO (PySem.W.specialIn K (.builtin "object.__class__") "__get__") (some (some (.builtin "getset_descriptor.__get__")))), (fun K => decide (PySem.W.takesIn K (.builtin "object.__class__") = some true)), (fun K => decide (PySem.W.subIn K (.type "NoneType") (.ref (He.ga K "Share")) = some false)), (fun K => decide (PySem.W.kitOne K (.type "NoneType") (.ref (He.ga K "Share")) = some false)), (fun K => decide (PySem.W.kitOne K (.ref (He.ga K "Share")) (.type "NoneType") = some false)), (fun K => decide (PySem.W.subIn K (.type "bool") (.ref (He.ga K "Share")) = some false)), (fun K => decide (PySem.W.kitOne K (.type "bool") (.ref (He.ga K "Share")) = some false)), (fun K => decide (PySem.W.kitOne K (.ref (He.ga K "Share")) (.type "bool") = some false)), (fun K => decide (PySem.W.subIn K (.type "int") (.ref (He.ga K "Share")) = some false)), (fun K => decide (PySem.W.kitOne K (.type "int") (.ref (He.ga K "Share")) = some false)), (fun K => decide (PySem.W.kitOne K (.ref (He.ga K "Share")) (.type "int") = some false)), (fun K => decide (PySem.W.subIn K (.type "str") (.ref (He.ga K "Share")) = some false)), (fun K => decide (PySem.W.kitOne K (.type "str") (.ref (He.ga K "Share")) = some false)), (fun K => decide (PySem.W.kitOne K (.ref (He.ga K "Share")) (.type "str") = some false)), (fun K => decide (PySem.W.subIn K (.type "list") (.ref (He.ga K "Share")) = some false)), (fun K => decide (PySem.W.kitOne K (.type "list") (.ref (He.ga K "Share")) = some false)), (fun K => decide (PySem.W.kitOne K (.ref (He.ga K "Share")) (.type "list") = some false))] : List (PySem.W.Frag → Bool)) ++ ([(fun K => decide (PySem.W.subIn K (.type "tuple") (.ref (He.ga K "Share")) = some false)), (fun K => decide (PySem.W.kitOne K (.type "tuple") (.ref (He.ga K "Share")) = some false)), (fun K => decide (PySem.W.kitOne K (.ref (He.ga K "Share")) (.type "tuple") = some false)), (fun K => decide (PySem.W.subIn K (.type "dict") (.ref (He.ga K "Share")) = some false)), (fun K => decide (PySem.W.kitOne K (.type "dict") (.ref (He.ga K "Share")) = some false)), (fun K => decide (PySem.W.kitOne K (.ref (He.ga K "Share")) (.type "dict") = some false)), (fun K => decide (PySem.W.mroIn K (He.ga K "Machine") (.type "object") = some true)), (fun K => He.eqO (PySem.W.findIn K (.ref (He.ga K "Machine")) "__ne__") (some (some (.builtin "object.__ne__")))), (fun K => He.eqO (PySem.W.findIn K (.ref (He.ga K "Machine")) "__class__") (some (some (.builtin "object.__class__")))), (fun K => He.eqO (PySem.W.specialIn K (.builtin "object.__class__") "__get__") (some (some (.builtin "getset_descriptor.__get__")))), (fun K => decide (PySem.W.takesIn K (.builtin "object.__class__") = some true)), (fun K => decide (PySem.W.subIn K (.type "NoneType") (.ref (He.ga K "Machine")) = some false)), (fun K => decide (PySem.W.kitOne K (.type "NoneType") (.ref (He.ga K "Machine")) = some false)), (fun K => decide (PySem.W.kitOne K (.ref (He.ga K "Machine")) (.type "NoneType") = some false)), (fun K => decide (PySem.W.subIn K (.type "bool") (.ref (He.ga K "Machine")) = some false)), (fun K => decide (PySem.W.kitOne K (.type "bool") (.ref (He.ga K "Machine")) = some false)), (fun K => decide (PySem.W.kitOne K (.ref (He.ga K "Machine")) (.type "bool") = some false)), (fun K => decide (PySem.W.subIn K (.type "int") (.ref (He.ga K "Machine")) = some false)), (fun K => decide (PySem.W.kitOne K (.type "int") (.ref (He.ga K "Machine")) = some false)), (fun K => decide (PySem.W.kitOne K (.ref (He.ga K "Machine")) (.type "int") = some false))] : List (PySem.W.Frag → Bool)) ++ ([(fun K => decide (PySem.W.subIn K (.type "str") (.ref (He.ga K "Machine")) = some false)), (fun K => decide (PySem.W.kitOne K (.type "str") (.ref (He.ga K "Machine")) = some false)), (fun K => decide (PySem.W.kitOne K (.ref (He.ga K "Machine")) (.type "str") = some false)), (fun K => decide (PySem.W.subIn K (.type "list") (.ref (He.ga K "Machine")) = some false)), (fun K => decide (PySem.W.kitOne K (.type "list") (.ref (He.ga K "Machine")) = some false)), (fun K => decide (PySem.W.kitOne K (.ref (He.ga K "Machine")) (.type "list") = some false)), (fun K => decide (PySem.W.subIn K (.type "tuple") (.ref (He.ga K "Machine")) = some false)), (fun K => decide (PySem.W.kitOne K (.type "tuple") (.ref (He.ga K "Machine")) = some false)), (fun K => decide (PySem.W.kitOne K (.ref (He.ga K "Machine")) (.type "tuple") = some false)), (fun K => decide (PySem.W.subIn K (.type "dict") (.ref (He.ga K "Machine")) = some false)), (fun K => decide (PySem.W.kitOne K (.type "dict") (.ref (He.ga K "Machine")) = some false)), (fun K => decide (PySem.W.kitOne K (.ref (He.ga K "Machine")) (.type "dict") = some false)), (fun K => decide (PySem.W.mroIn K (He.ga K "Going") (.type "object") = some true)), (fun K => He.eqO (PySem.W.findIn K (.ref (He.ga K "Going")) "__ne__") (some (some (.builtin "object.__ne__")))), (fun K => He.eqO (PySem.W.findIn K (.ref (He.ga K "Going")) "__class__") (some (some (.builtin "object.__class__")))), (fun K => He.eqO (PySem.W.specialIn K (.builtin "object.__class__") "__get__") (some (some (.builtin "getset_descriptor.__get__")))), (fun K => decide (PySem.W.takesIn K (.builtin "object.__class__") = some true)), (fun K => decide (PySem.W.subIn K (.type "NoneType") (.ref (He.ga K "Going")) = some false)), (fun K => decide (PySem.W.kitOne K (.type "NoneType") (.ref (He.ga K "Going")) = some false)), (fun K => decide (PySem.W.kitOne K (.ref (He.ga K "Going")) (.type "NoneType") = some false))] : List (PySem.W.Frag → Bool)) ++ ([(fun K => decide (PySem.W.subIn K (.type "bool") (.ref (He.ga K "Going")) = some false)), (fun K => decide (PySem.W.kitOne K (.type "bool") (.ref (He.ga K "Going")) = some false)), (fun K => decide (PySem.W.kitOne K (.ref (He.ga K "Going")) (.type "bool") = some false)), (fun K => decide (PySem.W.subIn K (.type "int") (.ref (He.ga K "Going")) = some false)), (fun K => decide (PySem.W.kitOne K (.type "int") (.ref (He.ga K "Going")) = some false)), (fun K => decide (PySem.W.kitOne K (.ref (He.ga K "Going")) (.type "int") = some false)), (fun K => decide (PySem.W.subIn K (.type "str") (.ref (He.ga K "Going")) = some false)), (fun K => decide (PySem.W.kitOne K (.type "str") (.ref (He.ga K "Going")) = some false)), (fun K => decide (PySem.W.kitOne K (.ref (He.ga K "Going")) (.type "str") = some false)), (fun K => decide (PySem.W.subIn K (.type "list") (.ref (He.ga K "Going")) = some false)), (fun K => decide (PySem.W.kitOne K (.type "list") (.ref (He.ga K "Going")) = some false)), (fun K => decide (PySem.W.kitOne K (.ref (He.ga K "Going")) (.type "list") = some false)), (fun K => decide (PySem.W.subIn K (.type "tuple") (.ref (He.ga K "Going")) = some false)), (fun K => decide (PySem.W.kitOne K (.type "tuple") (.ref (He.ga K "Going")) = some false)), (fun K => decide (PySem.W.kitOne K (.ref (He.ga K "Going")) (.type "tuple") = some false)), (fun K => decide (PySem.W.subIn K (.type "dict") (.ref (He.ga K "Going")) = some false)), (fun K => decide (PySem.W.kitOne K (.type "dict") (.ref (He.ga K "Going")) = some false)), (fun K => decide (PySem.W.kitOne K (.ref (He.ga K "Going")) (.type "dict") = some false)), (fun K => PySem.W.excIn K (He.ga K "NoShare") He.veBase "ValueError.__new__"), (fun K => PySem.W.keepIn K (.ref (He.ga K "NoShare")))] : List (PySem.W.Frag → Bool)) ++ ([(fun K => decide (PySem.W.subIn K (.ref (He.ga K "NoShare")) (.type "BaseException") = some true)), (fun K => decide (PySem.W.typeIn K (.ref (He.ga K "NoShare")) = some (.type "type")))] : List (PySem.W.Frag → Bool))
structure Txt (K : PySem.W.Frag) (mg : Str → Option Value) : Prop where
  F_is_whole : FnP K "is_whole" "is_whole" s_is_whole [] (He.ga K "is_whole")
  g_is_whole : mg "is_whole" = some (.ref (He.ga K "is_whole"))
  F_is_between : FnP K "is_between" "is_between" s_is_between [] (He.ga K "is_between")
  g_is_between : mg "is_between" = some (.ref (He.ga K "is_between"))
  F_is_name : FnP K "is_name" "is_name" s_is_name [] (He.ga K "is_name")
  g_is_name : mg "is_name" = some (.ref (He.ga K "is_name"))
  F_common : FnP K "common" "common" s_common [] (He.ga K "common")
  g_common : mg "common" = some (.ref (He.ga K "common"))
  F_Share___init__ : FnP K "__init__" "Share.__init__" s_Share___init__ [.int 1] (He.ma K (He.ga K "Share") "__init__")
  F_Share___eq__ : FnP K "__eq__" "Share.__eq__" s_Share___eq__ [] (He.ma K (He.ga K "Share") "__eq__")
  F_Share___str__ : FnP K "__str__" "Share.__str__" s_Share___str__ [] (He.ma K (He.ga K "Share") "__str__")
  F_minus : FnP K "minus" "minus" s_minus [] (He.ga K "minus")
  g_minus : mg "minus" = some (.ref (He.ga K "minus"))
  F_times : FnP K "times" "times" s_times [] (He.ga K "times")
  g_times : mg "times" = some (.ref (He.ga K "times"))
  F_less : FnP K "less" "less" s_less [] (He.ga K "less")
  g_less : mg "less" = some (.ref (He.ga K "less"))
  F_are_weights : FnP K "are_weights" "are_weights" s_are_weights [] (He.ga K "are_weights")
  g_are_weights : mg "are_weights" = some (.ref (He.ga K "are_weights"))
  F_is_step : FnP K "is_step" "is_step" s_is_step [] (He.ga K "is_step")
  g_is_step : mg "is_step" = some (.ref (He.ga K "is_step"))
  F_are_steps : FnP K "are_steps" "are_steps" s_are_steps [] (He.ga K "are_steps")
  g_are_steps : mg "are_steps" = some (.ref (He.ga K "are_steps"))
  F_lowest : FnP K "lowest" "lowest" s_lowest [] (He.ga K "lowest")
  g_lowest : mg "lowest" = some (.ref (He.ga K "lowest"))
  F_Machine___init__ : FnP K "__init__" "Machine.__init__" s_Machine___init__ [] (He.ma K (He.ga K "Machine") "__init__")
  F_check_fade : FnP K "check_fade" "check_fade" s_check_fade [] (He.ga K "check_fade")
  g_check_fade : mg "check_fade" = some (.ref (He.ga K "check_fade"))
  F_check_depth : FnP K "check_depth" "check_depth" s_check_depth [] (He.ga K "check_depth")
  g_check_depth : mg "check_depth" = some (.ref (He.ga K "check_depth"))
  F_signs_of : FnP K "signs_of" "signs_of" s_signs_of [] (He.ga K "signs_of")
  g_signs_of : mg "signs_of" = some (.ref (He.ga K "signs_of"))
  F_Going___init__ : FnP K "__init__" "Going.__init__" s_Going___init__ [] (He.ma K (He.ga K "Going") "__init__")
  F_Going_begun : FnP K "begun" "Going.begun" s_Going_begun [] (He.ma K (He.ga K "Going") "begun")
  F_Going_gone : FnP K "gone" "Going.gone" s_Going_gone [] (He.ma K (He.ga K "Going") "gone")
  F_share_of : FnP K "share_of" "share_of" s_share_of [] (He.ga K "share_of")
  g_share_of : mg "share_of" = some (.ref (He.ga K "share_of"))
  F_check_words : FnP K "check_words" "check_words" s_check_words [] (He.ga K "check_words")
  g_check_words : mg "check_words" = some (.ref (He.ga K "check_words"))
  F_farthest_wordN : FnP K "farthest_word" "farthest_word" s_farthest_wordN [] (He.ga K "farthest_word")
  g_farthest_wordN : mg "farthest_word" = some (.ref (He.ga K "farthest_word"))
  F_Lwell : FnP K "_law_well" "_law_well" s_Lwell [] (He.ga K "_law_well")
  g_Lwell : mg "_law_well" = some (.ref (He.ga K "_law_well"))
  F_Ldraw : FnP K "_law_draw" "_law_draw" s_Ldraw [] (He.ga K "_law_draw")
  g_Ldraw : mg "_law_draw" = some (.ref (He.ga K "_law_draw"))
  F_Lone : FnP K "_law_one" "_law_one" s_Lone [] (He.ga K "_law_one")
  g_Lone : mg "_law_one" = some (.ref (He.ga K "_law_one"))
  F_Llow : FnP K "_law_low" "_law_low" s_Llow [] (He.ga K "_law_low")
  g_Llow : mg "_law_low" = some (.ref (He.ga K "_law_low"))
  F_Lpair : FnP K "_law_pair" "_law_pair" s_Lpair [] (He.ga K "_law_pair")
  g_Lpair : mg "_law_pair" = some (.ref (He.ga K "_law_pair"))
  F_Lnames : FnP K "_law_names" "_law_names" s_Lnames [] (He.ga K "_law_names")
  g_Lnames : mg "_law_names" = some (.ref (He.ga K "_law_names"))
  F_Lweights : FnP K "_law_weights" "_law_weights" s_Lweights [] (He.ga K "_law_weights")
  g_Lweights : mg "_law_weights" = some (.ref (He.ga K "_law_weights"))
  F_Lmachine : FnP K "_law_machine" "_law_machine" s_Lmachine [] (He.ga K "_law_machine")
  g_Lmachine : mg "_law_machine" = some (.ref (He.ga K "_law_machine"))
  F_Lspread62 : FnP K "_law_spread" "_law_spread" s_Lspread62 [] (He.ga K "_law_spread")
  g_Lspread62 : mg "_law_spread" = some (.ref (He.ga K "_law_spread"))
  F_Ltotal62 : FnP K "_law_total" "_law_total" s_Ltotal62 [] (He.ga K "_law_total")
  g_Ltotal62 : mg "_law_total" = some (.ref (He.ga K "_law_total"))
  F_Lnumber62 : FnP K "_law_number" "_law_number" s_Lnumber62 [] (He.ga K "_law_number")
  g_Lnumber62 : mg "_law_number" = some (.ref (He.ga K "_law_number"))
  F_Lfarthest62 : FnP K "_law_farthest" "_law_farthest" s_Lfarthest62 [] (He.ga K "_law_farthest")
  g_Lfarthest62 : mg "_law_farthest" = some (.ref (He.ga K "_law_farthest"))
  F_Lother62 : FnP K "_law_other" "_law_other" s_Lother62 [] (He.ga K "_law_other")
  g_Lother62 : mg "_law_other" = some (.ref (He.ga K "_law_other"))
  F_law : FnP K "law" "law" s_law [] (He.ga K "law")
  g_law : mg "law" = some (.ref (He.ga K "law"))
  g_FarError : mg "FarError" = some (.ref (He.ga K "FarError"))
  g_NoShare : mg "NoShare" = some (.ref (He.ga K "NoShare"))
  g_NoMachine : mg "NoMachine" = some (.ref (He.ga K "NoMachine"))
  g_NoFade : mg "NoFade" = some (.ref (He.ga K "NoFade"))
  g_NoDepth : mg "NoDepth" = some (.ref (He.ga K "NoDepth"))
  g_TooMany : mg "TooMany" = some (.ref (He.ga K "TooMany"))
  g_Share : mg "Share" = some (.ref (He.ga K "Share"))
  cl_Share : Cls K (He.ga K "Share")
  mk_Share : Mk K (He.ga K "Share") (He.ma K (He.ga K "Share") "__init__")
  na_Share_top : NoAttr K (He.ga K "Share") "top"
  na_Share_bottom : NoAttr K (He.ga K "Share") "bottom"
  m_Share__eq__ : Meth K (He.ga K "Share") "__eq__" (He.ma K (He.ga K "Share") "__eq__")
  m_Share__str__ : Meth K (He.ga K "Share") "__str__" (He.ma K (He.ga K "Share") "__str__")
  g_Machine : mg "Machine" = some (.ref (He.ga K "Machine"))
  cl_Machine : Cls K (He.ga K "Machine")
  mk_Machine : Mk K (He.ga K "Machine") (He.ma K (He.ga K "Machine") "__init__")
  na_Machine_many : NoAttr K (He.ga K "Machine") "many"
  na_Machine_steps : NoAttr K (He.ga K "Machine") "steps"
  na_Machine_onward : NoAttr K (He.ga K "Machine") "onward"
  g_Going : mg "Going" = some (.ref (He.ga K "Going"))
  cl_Going : Cls K (He.ga K "Going")
  mk_Going : Mk K (He.ga K "Going") (He.ma K (He.ga K "Going") "__init__")
  na_Going_many : NoAttr K (He.ga K "Going") "many"
  na_Going_by : NoAttr K (He.ga K "Going") "by"
  na_Going_rows : NoAttr K (He.ga K "Going") "rows"
  m_Goingbegun : Meth K (He.ga K "Going") "begun" (He.ma K (He.ga K "Going") "begun")
  m_Goinggone : Meth K (He.ga K "Going") "gone" (He.ma K (He.ga K "Going") "gone")
  f_abs : mg "abs" = none
  f_all : mg "all" = none
  f_bool : mg "bool" = none
  f_dict : mg "dict" = none
  f_enumerate : mg "enumerate" = none
  f_int : mg "int" = none
  f_isinstance : mg "isinstance" = none
  f_len : mg "len" = none
  f_list : mg "list" = none
  f_max : mg "max" = none
  f_range : mg "range" = none
  f_set : mg "set" = none
  f_sorted : mg "sorted" = none
  f_str : mg "str" = none
  f_sum : mg "sum" = none
  f_tuple : mg "tuple" = none
  f_zip : mg "zip" = none
  k_LETTERS : ∃ t, mg "LETTERS" = some (.str "abcdefghijklmnopqrstuvwxyz" t)
  k_MOST_LETTERS : ∃ t, mg "MOST_LETTERS" = some (.int 8 t)
  k_MOST_ROOMS : ∃ t, mg "MOST_ROOMS" = some (.int 12 t)
  k_MOST_LONG : ∃ t, mg "MOST_LONG" = some (.int 6 t)
  k_MOST_SIGNS : ∃ t, mg "MOST_SIGNS" = some (.int 3 t)
  obj_Share : PySem.W.mroIn K (He.ga K "Share") (.type "object") = some true
  ne_Share : PySem.W.findIn K (.ref (He.ga K "Share")) "__ne__" = some (some (.builtin "object.__ne__"))
  ia_Share : PySem.W.findIn K (.ref (He.ga K "Share")) "__class__" = some (some (.builtin "object.__class__"))
  ig_Share : PySem.W.specialIn K (.builtin "object.__class__") "__get__" = some (some (.builtin "getset_descriptor.__get__"))
  it_Share : PySem.W.takesIn K (.builtin "object.__class__") = some true
  nf_Share_NoneType : PySem.W.subIn K (.type "NoneType") (.ref (He.ga K "Share")) = some false
  kit_Share_NoneType : PySem.W.kitOne K (.type "NoneType") (.ref (He.ga K "Share")) = some false
  tik_Share_NoneType : PySem.W.kitOne K (.ref (He.ga K "Share")) (.type "NoneType") = some false
  nf_Share_bool : PySem.W.subIn K (.type "bool") (.ref (He.ga K "Share")) = some false
  kit_Share_bool : PySem.W.kitOne K (.type "bool") (.ref (He.ga K "Share")) = some false
  tik_Share_bool : PySem.W.kitOne K (.ref (He.ga K "Share")) (.type "bool") = some false
  nf_Share_int : PySem.W.subIn K (.type "int") (.ref (He.ga K "Share")) = some false
  kit_Share_int : PySem.W.kitOne K (.type "int") (.ref (He.ga K "Share")) = some false
  tik_Share_int : PySem.W.kitOne K (.ref (He.ga K "Share")) (.type "int") = some false
  nf_Share_str : PySem.W.subIn K (.type "str") (.ref (He.ga K "Share")) = some false
  kit_Share_str : PySem.W.kitOne K (.type "str") (.ref (He.ga K "Share")) = some false
  tik_Share_str : PySem.W.kitOne K (.ref (He.ga K "Share")) (.type "str") = some false
  nf_Share_list : PySem.W.subIn K (.type "list") (.ref (He.ga K "Share")) = some false
  kit_Share_list : PySem.W.kitOne K (.type "list") (.ref (He.ga K "Share")) = some false
  tik_Share_list : PySem.W.kitOne K (.ref (He.ga K "Share")) (.type "list") = some false
  nf_Share_tuple : PySem.W.subIn K (.type "tuple") (.ref (He.ga K "Share")) = some false
  kit_Share_tuple : PySem.W.kitOne K (.type "tuple") (.ref (He.ga K "Share")) = some false
  tik_Share_tuple : PySem.W.kitOne K (.ref (He.ga K "Share")) (.type "tuple") = some false
  nf_Share_dict : PySem.W.subIn K (.type "dict") (.ref (He.ga K "Share")) = some false
  kit_Share_dict : PySem.W.kitOne K (.type "dict") (.ref (He.ga K "Share")) = some false
  tik_Share_dict : PySem.W.kitOne K (.ref (He.ga K "Share")) (.type "dict") = some false
  obj_Machine : PySem.W.mroIn K (He.ga K "Machine") (.type "object") = some true
  ne_Machine : PySem.W.findIn K (.ref (He.ga K "Machine")) "__ne__" = some (some (.builtin "object.__ne__"))
  ia_Machine : PySem.W.findIn K (.ref (He.ga K "Machine")) "__class__" = some (some (.builtin "object.__class__"))
  ig_Machine : PySem.W.specialIn K (.builtin "object.__class__") "__get__" = some (some (.builtin "getset_descriptor.__get__"))
  it_Machine : PySem.W.takesIn K (.builtin "object.__class__") = some true
  nf_Machine_NoneType : PySem.W.subIn K (.type "NoneType") (.ref (He.ga K "Machine")) = some false
  kit_Machine_NoneType : PySem.W.kitOne K (.type "NoneType") (.ref (He.ga K "Machine")) = some false
  tik_Machine_NoneType : PySem.W.kitOne K (.ref (He.ga K "Machine")) (.type "NoneType") = some false
  nf_Machine_bool : PySem.W.subIn K (.type "bool") (.ref (He.ga K "Machine")) = some false
  kit_Machine_bool : PySem.W.kitOne K (.type "bool") (.ref (He.ga K "Machine")) = some false
  tik_Machine_bool : PySem.W.kitOne K (.ref (He.ga K "Machine")) (.type "bool") = some false
  nf_Machine_int : PySem.W.subIn K (.type "int") (.ref (He.ga K "Machine")) = some false
  kit_Machine_int : PySem.W.kitOne K (.type "int") (.ref (He.ga K "Machine")) = some false
  tik_Machine_int : PySem.W.kitOne K (.ref (He.ga K "Machine")) (.type "int") = some false
  nf_Machine_str : PySem.W.subIn K (.type "str") (.ref (He.ga K "Machine")) = some false
  kit_Machine_str : PySem.W.kitOne K (.type "str") (.ref (He.ga K "Machine")) = some false
  tik_Machine_str : PySem.W.kitOne K (.ref (He.ga K "Machine")) (.type "str") = some false
  nf_Machine_list : PySem.W.subIn K (.type "list") (.ref (He.ga K "Machine")) = some false
  kit_Machine_list : PySem.W.kitOne K (.type "list") (.ref (He.ga K "Machine")) = some false
  tik_Machine_list : PySem.W.kitOne K (.ref (He.ga K "Machine")) (.type "list") = some false
  nf_Machine_tuple : PySem.W.subIn K (.type "tuple") (.ref (He.ga K "Machine")) = some false
  kit_Machine_tuple : PySem.W.kitOne K (.type "tuple") (.ref (He.ga K "Machine")) = some false
  tik_Machine_tuple : PySem.W.kitOne K (.ref (He.ga K "Machine")) (.type "tuple") = some false
  nf_Machine_dict : PySem.W.subIn K (.type "dict") (.ref (He.ga K "Machine")) = some false
  kit_Machine_dict : PySem.W.kitOne K (.type "dict") (.ref (He.ga K "Machine")) = some false
  tik_Machine_dict : PySem.W.kitOne K (.ref (He.ga K "Machine")) (.type "dict") = some false
  obj_Going : PySem.W.mroIn K (He.ga K "Going") (.type "object") = some true
  ne_Going : PySem.W.findIn K (.ref (He.ga K "Going")) "__ne__" = some (some (.builtin "object.__ne__"))
  ia_Going : PySem.W.findIn K (.ref (He.ga K "Going")) "__class__" = some (some (.builtin "object.__class__"))
  ig_Going : PySem.W.specialIn K (.builtin "object.__class__") "__get__" = some (some (.builtin "getset_descriptor.__get__"))
  it_Going : PySem.W.takesIn K (.builtin "object.__class__") = some true
  nf_Going_NoneType : PySem.W.subIn K (.type "NoneType") (.ref (He.ga K "Going")) = some false
  kit_Going_NoneType : PySem.W.kitOne K (.type "NoneType") (.ref (He.ga K "Going")) = some false
  tik_Going_NoneType : PySem.W.kitOne K (.ref (He.ga K "Going")) (.type "NoneType") = some false
  nf_Going_bool : PySem.W.subIn K (.type "bool") (.ref (He.ga K "Going")) = some false
  kit_Going_bool : PySem.W.kitOne K (.type "bool") (.ref (He.ga K "Going")) = some false
  tik_Going_bool : PySem.W.kitOne K (.ref (He.ga K "Going")) (.type "bool") = some false
  nf_Going_int : PySem.W.subIn K (.type "int") (.ref (He.ga K "Going")) = some false
  kit_Going_int : PySem.W.kitOne K (.type "int") (.ref (He.ga K "Going")) = some false
  tik_Going_int : PySem.W.kitOne K (.ref (He.ga K "Going")) (.type "int") = some false
  nf_Going_str : PySem.W.subIn K (.type "str") (.ref (He.ga K "Going")) = some false
  kit_Going_str : PySem.W.kitOne K (.type "str") (.ref (He.ga K "Going")) = some false
  tik_Going_str : PySem.W.kitOne K (.ref (He.ga K "Going")) (.type "str") = some false
  nf_Going_list : PySem.W.subIn K (.type "list") (.ref (He.ga K "Going")) = some false
  kit_Going_list : PySem.W.kitOne K (.type "list") (.ref (He.ga K "Going")) = some false
  tik_Going_list : PySem.W.kitOne K (.ref (He.ga K "Going")) (.type "list") = some false
  nf_Going_tuple : PySem.W.subIn K (.type "tuple") (.ref (He.ga K "Going")) = some false
  kit_Going_tuple : PySem.W.kitOne K (.type "tuple") (.ref (He.ga K "Going")) = some false
  tik_Going_tuple : PySem.W.kitOne K (.ref (He.ga K "Going")) (.type "tuple") = some false
  nf_Going_dict : PySem.W.subIn K (.type "dict") (.ref (He.ga K "Going")) = some false
  kit_Going_dict : PySem.W.kitOne K (.type "dict") (.ref (He.ga K "Going")) = some false
  tik_Going_dict : PySem.W.kitOne K (.ref (He.ga K "Going")) (.type "dict") = some false
  x0_NoShare : PySem.W.excIn K (He.ga K "NoShare") He.veBase "ValueError.__new__" = true
  x1_NoShare : PySem.W.keepIn K (.ref (He.ga K "NoShare")) = true
  x2_NoShare : PySem.W.subIn K (.ref (He.ga K "NoShare")) (.type "BaseException") = some true
  x3_NoShare : PySem.W.typeIn K (.ref (He.ga K "NoShare")) = some (.type "type")
theorem txt_of {K : PySem.W.Frag} {h : Heap} {mg : Str → Option Value} (KX : K.In h) (G : h.Ns mainGlobals mg) (c : SaysF fa fn exs K) : Txt K mg :=
  { F_is_whole := (fdOf_ok (c.def_ 0 (d := d_is_whole) rfl)),
    g_is_whole := (He.glo_ok KX G (c.fact 0 rfl)),
    F_is_between := (fdOf_ok (c.def_ 1 (d := d_is_between) rfl)),
    g_is_between := (He.glo_ok KX G (c.fact 1 rfl)),
    F_is_name := (fdOf_ok (c.def_ 2 (d := d_is_name) rfl)),
    g_is_name := (He.glo_ok KX G (c.fact 2 rfl)),
    F_common := (fdOf_ok (c.def_ 3 (d := d_common) rfl)),
    g_common := (He.glo_ok KX G (c.fact 3 rfl)),
    F_Share___init__ := (fdOf_ok (c.def_ 4 (d := d_Share___init__) rfl)),
    F_Share___eq__ := (fdOf_ok (c.def_ 5 (d := d_Share___eq__) rfl)),
    F_Share___str__ := (fdOf_ok (c.def_ 6 (d := d_Share___str__) rfl)),
    F_minus := (fdOf_ok (c.def_ 7 (d := d_minus) rfl)),
    g_minus := (He.glo_ok KX G (c.fact 4 rfl)),
    F_times := (fdOf_ok (c.def_ 8 (d := d_times) rfl)),
    g_times := (He.glo_ok KX G (c.fact 5 rfl)),
    F_less := (fdOf_ok (c.def_ 9 (d := d_less) rfl)),
    g_less := (He.glo_ok KX G (c.fact 6 rfl)),
    F_are_weights := (fdOf_ok (c.def_ 10 (d := d_are_weights) rfl)),
    g_are_weights := (He.glo_ok KX G (c.fact 7 rfl)),
    F_is_step := (fdOf_ok (c.def_ 11 (d := d_is_step) rfl)),
    g_is_step := (He.glo_ok KX G (c.fact 8 rfl)),
    F_are_steps := (fdOf_ok (c.def_ 12 (d := d_are_steps) rfl)),
    g_are_steps := (He.glo_ok KX G (c.fact 9 rfl)),
    F_lowest := (fdOf_ok (c.def_ 13 (d := d_lowest) rfl)),
    g_lowest := (He.glo_ok KX G (c.fact 10 rfl)),
    F_Machine___init__ := (fdOf_ok (c.def_ 14 (d := d_Machine___init__) rfl)),
    F_check_fade := (fdOf_ok (c.def_ 15 (d := d_check_fade) rfl)),
    g_check_fade := (He.glo_ok KX G (c.fact 11 rfl)),
    F_check_depth := (fdOf_ok (c.def_ 16 (d := d_check_depth) rfl)),
    g_check_depth := (He.glo_ok KX G (c.fact 12 rfl)),
    F_signs_of := (fdOf_ok (c.def_ 17 (d := d_signs_of) rfl)),
    g_signs_of := (He.glo_ok KX G (c.fact 13 rfl)),
    F_Going___init__ := (fdOf_ok (c.def_ 18 (d := d_Going___init__) rfl)),
    F_Going_begun := (fdOf_ok (c.def_ 19 (d := d_Going_begun) rfl)),
    F_Going_gone := (fdOf_ok (c.def_ 20 (d := d_Going_gone) rfl)),
    F_share_of := (fdOf_ok (c.def_ 21 (d := d_share_of) rfl)),
    g_share_of := (He.glo_ok KX G (c.fact 14 rfl)),
    F_check_words := (fdOf_ok (c.def_ 22 (d := d_check_words) rfl)),
    g_check_words := (He.glo_ok KX G (c.fact 15 rfl)),
    F_farthest_wordN := (fdOf_ok (c.def_ 23 (d := d_farthest_wordN) rfl)),
    g_farthest_wordN := (He.glo_ok KX G (c.fact 16 rfl)),
    F_Lwell := (fdOf_ok (c.def_ 24 (d := d_Lwell) rfl)),
    g_Lwell := (He.glo_ok KX G (c.fact 17 rfl)),
    F_Ldraw := (fdOf_ok (c.def_ 25 (d := d_Ldraw) rfl)),
    g_Ldraw := (He.glo_ok KX G (c.fact 18 rfl)),
    F_Lone := (fdOf_ok (c.def_ 26 (d := d_Lone) rfl)),
    g_Lone := (He.glo_ok KX G (c.fact 19 rfl)),
    F_Llow := (fdOf_ok (c.def_ 27 (d := d_Llow) rfl)),
    g_Llow := (He.glo_ok KX G (c.fact 20 rfl)),
    F_Lpair := (fdOf_ok (c.def_ 28 (d := d_Lpair) rfl)),
    g_Lpair := (He.glo_ok KX G (c.fact 21 rfl)),
    F_Lnames := (fdOf_ok (c.def_ 29 (d := d_Lnames) rfl)),
    g_Lnames := (He.glo_ok KX G (c.fact 22 rfl)),
    F_Lweights := (fdOf_ok (c.def_ 30 (d := d_Lweights) rfl)),
    g_Lweights := (He.glo_ok KX G (c.fact 23 rfl)),
    F_Lmachine := (fdOf_ok (c.def_ 31 (d := d_Lmachine) rfl)),
    g_Lmachine := (He.glo_ok KX G (c.fact 24 rfl)),
    F_Lspread62 := (fdOf_ok (c.def_ 32 (d := d_Lspread62) rfl)),
    g_Lspread62 := (He.glo_ok KX G (c.fact 25 rfl)),
    F_Ltotal62 := (fdOf_ok (c.def_ 33 (d := d_Ltotal62) rfl)),
    g_Ltotal62 := (He.glo_ok KX G (c.fact 26 rfl)),
    F_Lnumber62 := (fdOf_ok (c.def_ 34 (d := d_Lnumber62) rfl)),
    g_Lnumber62 := (He.glo_ok KX G (c.fact 27 rfl)),
    F_Lfarthest62 := (fdOf_ok (c.def_ 35 (d := d_Lfarthest62) rfl)),
    g_Lfarthest62 := (He.glo_ok KX G (c.fact 28 rfl)),
    F_Lother62 := (fdOf_ok (c.def_ 36 (d := d_Lother62) rfl)),
    g_Lother62 := (He.glo_ok KX G (c.fact 29 rfl)),
    F_law := (fdOf_ok (c.def_ 37 (d := d_law) rfl)),
    g_law := (He.glo_ok KX G (c.fact 30 rfl)),
    g_FarError := (He.glo_ok KX G (c.fact 31 rfl)),
    g_NoShare := (He.glo_ok KX G (c.fact 32 rfl)),
    g_NoMachine := (He.glo_ok KX G (c.fact 33 rfl)),
    g_NoFade := (He.glo_ok KX G (c.fact 34 rfl)),
    g_NoDepth := (He.glo_ok KX G (c.fact 35 rfl)),
    g_TooMany := (He.glo_ok KX G (c.fact 36 rfl)),
    g_Share := (He.glo_ok KX G (c.fact 37 rfl)),
    cl_Share := (He.cls_ok (c.fact 38 rfl)),
    mk_Share := (He.mkr_ok (c.fact 39 rfl)),
    na_Share_top := (He.noat_ok (c.fact 40 rfl)),
    na_Share_bottom := (He.noat_ok (c.fact 41 rfl)),
    m_Share__eq__ := (He.meth_ok (c.fact 42 rfl)),
    m_Share__str__ := (He.meth_ok (c.fact 43 rfl)),
    g_Machine := (He.glo_ok KX G (c.fact 44 rfl)),
    cl_Machine := (He.cls_ok (c.fact 45 rfl)),
    mk_Machine := (He.mkr_ok (c.fact 46 rfl)),
    na_Machine_many := (He.noat_ok (c.fact 47 rfl)),
    na_Machine_steps := (He.noat_ok (c.fact 48 rfl)),
    na_Machine_onward := (He.noat_ok (c.fact 49 rfl)),
    g_Going := (He.glo_ok KX G (c.fact 50 rfl)),
    cl_Going := (He.cls_ok (c.fact 51 rfl)),
    mk_Going := (He.mkr_ok (c.fact 52 rfl)),
    na_Going_many := (He.noat_ok (c.fact 53 rfl)),
    na_Going_by := (He.noat_ok (c.fact 54 rfl)),
    na_Going_rows := (He.noat_ok (c.fact 55 rfl)),
    m_Goingbegun := (He.meth_ok (c.fact 56 rfl)),
    m_Goinggone := (He.meth_ok (c.fact 57 rfl)),
    f_abs := (He.free_ok KX G (c.fact 58 rfl)),
    f_all := (He.free_ok KX G (c.fact 59 rfl)),
    f_bool := (He.free_ok KX G (c.fact 60 rfl)),
    f_dict := (He.free_ok KX G (c.fact 61 rfl)),
    f_enumerate := (He.free_ok KX G (c.fact 62 rfl)),
    f_int := (He.free_ok KX G (c.fact 63 rfl)),
    f_isinstance := (He.free_ok KX G (c.fact 64 rfl)),
    f_len := (He.free_ok KX G (c.fact 65 rfl)),
    f_list := (He.free_ok KX G (c.fact 66 rfl)),
    f_max := (He.free_ok KX G (c.fact 67 rfl)),
    f_range := (He.free_ok KX G (c.fact 68 rfl)),
    f_set := (He.free_ok KX G (c.fact 69 rfl)),
    f_sorted := (He.free_ok KX G (c.fact 70 rfl)),
    f_str := (He.free_ok KX G (c.fact 71 rfl)),
    f_sum := (He.free_ok KX G (c.fact 72 rfl)),
    f_tuple := (He.free_ok KX G (c.fact 73 rfl)),
    f_zip := (He.free_ok KX G (c.fact 74 rfl)),
    k_LETTERS := (He.str_ok KX G (c.fact 75 rfl)),
    k_MOST_LETTERS := (He.int_ok KX G (c.fact 76 rfl)),
    k_MOST_ROOMS := (He.int_ok KX G (c.fact 77 rfl)),
    k_MOST_LONG := (He.int_ok KX G (c.fact 78 rfl)),
    k_MOST_SIGNS := (He.int_ok KX G (c.fact 79 rfl)),
    obj_Share := (of_decide_eq_true (c.ex_ 0 rfl)),
    ne_Share := (He.eqO_ok (c.ex_ 1 rfl)),
    ia_Share := (He.eqO_ok (c.ex_ 2 rfl)),
    ig_Share := (He.eqO_ok (c.ex_ 3 rfl)),
    it_Share := (of_decide_eq_true (c.ex_ 4 rfl)),
    nf_Share_NoneType := (of_decide_eq_true (c.ex_ 5 rfl)),
    kit_Share_NoneType := (of_decide_eq_true (c.ex_ 6 rfl)),
    tik_Share_NoneType := (of_decide_eq_true (c.ex_ 7 rfl)),
    nf_Share_bool := (of_decide_eq_true (c.ex_ 8 rfl)),
    kit_Share_bool := (of_decide_eq_true (c.ex_ 9 rfl)),
    tik_Share_bool := (of_decide_eq_true (c.ex_ 10 rfl)),
    nf_Share_int := (of_decide_eq_true (c.ex_ 11 rfl)),
    kit_Share_int := (of_decide_eq_true (c.ex_ 12 rfl)),
    tik_Share_int := (of_decide_eq_true (c.ex_ 13 rfl)),
    nf_Share_str := (of_decide_eq_true (c.ex_ 14 rfl)),
    kit_Share_str := (of_decide_eq_true (c.ex_ 15 rfl)),
    tik_Share_str := (of_decide_eq_true (c.ex_ 16 rfl)),
    nf_Share_list := (of_decide_eq_true (c.ex_ 17 rfl)),
    kit_Share_list := (of_decide_eq_true (c.ex_ 18 rfl)),
    tik_Share_list := (of_decide_eq_true (c.ex_ 19 rfl)),
    nf_Share_tuple := (of_decide_eq_true (c.ex_ 20 rfl)),
    kit_Share_tuple := (of_decide_eq_true (c.ex_ 21 rfl)),
    tik_Share_tuple := (of_decide_eq_true (c.ex_ 22 rfl)),
    nf_Share_dict := (of_decide_eq_true (c.ex_ 23 rfl)),
    kit_Share_dict := (of_decide_eq_true (c.ex_ 24 rfl)),
    tik_Share_dict := (of_decide_eq_true (c.ex_ 25 rfl)),
    obj_Machine := (of_decide_eq_true (c.ex_ 26 rfl)),
    ne_Machine := (He.eqO_ok (c.ex_ 27 rfl)),
    ia_Machine := (He.eqO_ok (c.ex_ 28 rfl)),
    ig_Machine := (He.eqO_ok (c.ex_ 29 rfl)),
    it_Machine := (of_decide_eq_true (c.ex_ 30 rfl)),
    nf_Machine_NoneType := (of_decide_eq_true (c.ex_ 31 rfl)),
    kit_Machine_NoneType := (of_decide_eq_true (c.ex_ 32 rfl)),
    tik_Machine_NoneType := (of_decide_eq_true (c.ex_ 33 rfl)),
    nf_Machine_bool := (of_decide_eq_true (c.ex_ 34 rfl)),
    kit_Machine_bool := (of_decide_eq_true (c.ex_ 35 rfl)),
    tik_Machine_bool := (of_decide_eq_true (c.ex_ 36 rfl)),
    nf_Machine_int := (of_decide_eq_true (c.ex_ 37 rfl)),
    kit_Machine_int := (of_decide_eq_true (c.ex_ 38 rfl)),
    tik_Machine_int := (of_decide_eq_true (c.ex_ 39 rfl)),
    nf_Machine_str := (of_decide_eq_true (c.ex_ 40 rfl)),
    kit_Machine_str := (of_decide_eq_true (c.ex_ 41 rfl)),
    tik_Machine_str := (of_decide_eq_true (c.ex_ 42 rfl)),
    nf_Machine_list := (of_decide_eq_true (c.ex_ 43 rfl)),
    kit_Machine_list := (of_decide_eq_true (c.ex_ 44 rfl)),
    tik_Machine_list := (of_decide_eq_true (c.ex_ 45 rfl)),
    nf_Machine_tuple := (of_decide_eq_true (c.ex_ 46 rfl)),
    kit_Machine_tuple := (of_decide_eq_true (c.ex_ 47 rfl)),
    tik_Machine_tuple := (of_decide_eq_true (c.ex_ 48 rfl)),
    nf_Machine_dict := (of_decide_eq_true (c.ex_ 49 rfl)),
    kit_Machine_dict := (of_decide_eq_true (c.ex_ 50 rfl)),
    tik_Machine_dict := (of_decide_eq_true (c.ex_ 51 rfl)),
    obj_Going := (of_decide_eq_true (c.ex_ 52 rfl)),
    ne_Going := (He.eqO_ok (c.ex_ 53 rfl)),
    ia_Going := (He.eqO_ok (c.ex_ 54 rfl)),
    ig_Going := (He.eqO_ok (c.ex_ 55 rfl)),
    it_Going := (of_decide_eq_true (c.ex_ 56 rfl)),
    nf_Going_NoneType := (of_decide_eq_true (c.ex_ 57 rfl)),
    kit_Going_NoneType := (of_decide_eq_true (c.ex_ 58 rfl)),
    tik_Going_NoneType := (of_decide_eq_true (c.ex_ 59 rfl)),
    nf_Going_bool := (of_decide_eq_true (c.ex_ 60 rfl)),
    kit_Going_bool := (of_decide_eq_true (c.ex_ 61 rfl)),
    tik_Going_bool := (of_decide_eq_true (c.ex_ 62 rfl)),
    nf_Going_int := (of_decide_eq_true (c.ex_ 63 rfl)),
    kit_Going_int := (of_decide_eq_true (c.ex_ 64 rfl)),
    tik_Going_int := (of_decide_eq_true (c.ex_ 65 rfl)),
    nf_Going_str := (of_decide_eq_true (c.ex_ 66 rfl)),
    kit_Going_str := (of_decide_eq_true (c.ex_ 67 rfl)),
    tik_Going_str := (of_decide_eq_true (c.ex_ 68 rfl)),
    nf_Going_list := (of_decide_eq_true (c.ex_ 69 rfl)),
    kit_Going_list := (of_decide_eq_true (c.ex_ 70 rfl)),
    tik_Going_list := (of_decide_eq_true (c.ex_ 71 rfl)),
    nf_Going_tuple := (of_decide_eq_true (c.ex_ 72 rfl)),
    kit_Going_tuple := (of_decide_eq_true (c.ex_ 73 rfl)),
    tik_Going_tuple := (of_decide_eq_true (c.ex_ 74 rfl)),
    nf_Going_dict := (of_decide_eq_true (c.ex_ 75 rfl)),
    kit_Going_dict := (of_decide_eq_true (c.ex_ 76 rfl)),
    tik_Going_dict := (of_decide_eq_true (c.ex_ 77 rfl)),
    x0_NoShare := (id (c.ex_ 78 rfl)),
    x1_NoShare := (id (c.ex_ 79 rfl)),
    x2_NoShare := (of_decide_eq_true (c.ex_ 80 rfl)),
    x3_NoShare := (of_decide_eq_true (c.ex_ 81 rfl)) }
abbrev R : PySem.W.OpenRow := PySem.W.OpenLaw.row PySem.Challenge.rw_farbetween_k62_farthest_words
abbrev hk : PySem.W.Hook := hookF 5 fa fn exs
def ob (s : PySem.W.SharedT) : AlF := obsFG 5 fa fn exs (HandSHeadRun.getT s)
theorem ob_eq (s : PySem.W.SharedT) : ob s = hk.obs s.abs := obsFG_eq (HandSHeadRun.getT_eq s)
def loose : List Str := (["FarError", "NoShare", "NoMachine", "NoFade", "NoDepth", "TooMany", "Share", "Machine", "Going", "is_whole", "is_between", "is_name", "common", "minus", "times", "less", "are_weights", "is_step", "are_steps", "lowest", "check_fade", "check_depth", "signs_of", "share_of", "check_words", "farthest_word", "_law_well", "_law_draw", "_law_one", "_law_low"] : List Str) ++ (["_law_pair", "_law_names", "_law_weights", "_law_machine", "_law_spread", "_law_total", "_law_number", "_law_farthest", "_law_other", "LETTERS", "MOST_LETTERS", "MOST_ROOMS", "MOST_LONG", "MOST_SIGNS"] : List Str)
theorem run (w : World) : HandSHeadRun.RunEq R (PySem.W.view R.prog [51]) hk ob 6000 loose w := by
  intro os
  kernel_rfl
end Lw
--HEAD--
namespace Pw
open PySem PySem.Spec PySem.Calls PyProof.Rows L2
open Evl (Ex ex_l ex_t fresh_back)
section
variable {T : Cfg} {W : WX} {ρ : List (Option D)} {m0 : Mu} {XP : XW} {K : Out → Prop} {te : TE} {P : D → Mu → Prop} {μ : Mu}
theorem RepL.rep {Hb : Hp} {d : D} {v : V} (r : Rep T Hb d v) : ∀ n : Nat, RepL T Hb (List.replicate n d) (List.replicate n v)
  | 0 => .nil
  | n + 1 => .cons r (RepL.rep r n)
end
open PySem PySem.Spec PyProof.Rows L2
section
variable {T : Cfg} {W : WX} {ρ : List (Option D)} {m0 : Mu} {XP : XW} {K : Out → Prop} {te : TE} {ta : TA} {P : D → Mu → Prop} {μ : Mu} {E : XK}
theorem Sim.fr {r : List (Option D)} {m m' : Mu} {σ : L2.St} {Hb H : Hp} (S : Sim T ⟨r, m⟩ σ Hb H) (h : SimMu T m' Hb H) : Sim T ⟨r, m'⟩ σ Hb H := ⟨S.len, S.vars, S.sub, h⟩
end
section
variable {T : Cfg} {W : WX} {ρ : List (Option D)} {m0 : Mu} {P : D → Mu → Prop} {XP : XW} {te : TE} {μ : Mu}
theorem Rep.key_inv {H : Hp} {ks : List Key} {v : V} (h : Rep T H (.key ks) v) : ∃ a, v = .ref a ∧ H a = some (.tup (ks.map kV)) := by
  cases h with
  | key h => exact ⟨_, rfl, h⟩
theorem ev_tupK {ta : TA} (h : EA T ta W ⟨ρ, m0⟩ (fun ds μ1 => ∃ ks : List Key, ds = ks.map kD ∧ ks.length ≤ 100000 ∧ P (.key ks) μ1) XP) : EV T (tTup ta) W ⟨ρ, m0⟩ P XP := fun σ Hb H Q S q x =>
  h σ Hb H _ S (fun ds μ1 vs Hb1 H1 g1 r1 pp => by
    obtain ⟨ks, ed, hl, p1⟩ := pp
    exact ⟨by rw [← r1.1, ed, List.length_map]; exact Evl.sz_of hl, fun p hp => by
    subst ed
    have ev : vs = ks.map kV := by
      clear hl p1 hp
      induction ks generalizing vs with
      | nil => exact r1.nil_inv
      | cons k ks ih =>
        obtain ⟨v, ys, rfl, rv, ry⟩ := RepL.cons_inv (d := kD k) (ds := ks.map kD) r1
        rw [List.map_cons, ← ih ys ry]
        congr 1
        cases k with
        | inl i => cases (show Rep T Hb1 (.int i) v from rv); rfl
        | inr z => cases (show Rep T Hb1 (.str z) v from rv); rfl
    subst ev
    have g := Go.lay g1.sub g1.mu (o := .tup (ks.map kV)) hp
    exact q _ _ _ _ _ (g1.trans g) (.key upd_same) p1⟩) x
end
section
variable {T : Cfg} {W : WX} {ρ : List (Option D)} {m0 : Mu} {XP : XW} {K : Out → Prop} {te te' : TE} {P : D → Mu → Prop} {u : TS} {μ : Mu} {E : XK} {ta : TA} {Hb H : Hp}
def StlL (μ : Mu) (ds es : List D) : Prop := ds.length = es.length ∧ ∀ (i : Nat) (x y : D), ds[i]? = some x → es[i]? = some y → Stl μ x y
theorem StlL.nil : StlL μ [] [] := ⟨rfl, fun i x y h _ => by simp at h⟩
theorem StlL.cons {d e : D} {ds es : List D} (h : Stl μ d e) (t : StlL μ ds es) : StlL μ (d :: ds) (e :: es) := by
  refine ⟨by simp [t.1], fun i x y a b => ?_⟩
  cases i with
  | zero => simp at a b; subst a b; exact h
  | succ i => simp at a b; exact t.2 i x y a b
end
structure Nest (μ : Mu) (p : Addr) (qs : List Addr) (rows : List (List D)) : Prop where
  top : μ p = some (.lst (qs.map D.ptr))
  ln : qs.length = rows.length
  row : ∀ (i : Nat) (q : Addr) (r : List D), qs[i]? = some q → rows[i]? = some r → μ q = some (.lst r)
  ne : p ∉ qs
theorem meets_enum1 {v : Value} {o : Obj} {H : Heap → Prop} (B : Begins v o H) :
    Meets (Builtin.«enumerate.__new__» ⟨[.type "enumerate", v], []⟩) (fun _ R s => H s.heap ∧
      R (.ok (.ret (.ref (s.heap.push o).objs.size))) { s with heap := (s.heap.push o).push { cls := .type "enumerate", data := .fields #[.none, .bool false, .ref s.heap.objs.size, rawInt 0, .none, .none] } }) :=
  .of_wp fun prog w A R s h => by
    obtain ⟨hp, g, d, tk, os⟩ := s; obtain ⟨h1, h⟩ := h
    have hsub := sub_enumerate
    have q1 : ∀ {A' : Around} {E : Value → Shared → Prop} {Q : Value → Shared → Prop}, Q (.ref hp.objs.size) ⟨hp.push o, g, d, tk, os⟩ → wpAny (model prog w) A' (pyIter v) Q E ⟨hp, g, d, tk, os⟩ :=
      fun q => B.iter prog w _ _ ⟨hp, g, d, tk, os⟩ _ h1 q
    wp_walk using q1
    refine wpAny_stack_any fun st => wpAny_pure ?_
    split
    · rename_i c _ _ _ _ _
      cases (c == Value.type "enumerate")
      · wp_walk using q1
        exact ⟨_, rfl, h⟩
      · wp_walk using q1
        exact ⟨_, rfl, h⟩
    · wp_walk using q1
      exact ⟨_, rfl, h⟩
theorem enum_begins1 {prog : Program} {w : World} {A : Around} {E : Value → Shared → Prop} {s : Shared} {v : Value} {o : Obj} {H : Heap → Prop} {Q : Value → Shared → Prop} (B : Begins v o H) (h1 : H s.heap)
    (h : ∀ h', IsEnum h' (s.heap.objs.size + 1) s.heap.objs.size 0 .none → h'.get? s.heap.objs.size = some o → h'.objs.size = s.heap.objs.size + 2 →
      (∀ b o, s.heap.get? b = some o → h'.get? b = some o) → Q (.ref (s.heap.objs.size + 1)) { s with heap := h' }) :
    wpAny (model prog w) A (call (.type "enumerate") [v]) Q E s := by
  refine callType_new F.called_enumerate (by decide) (F.typeCall_enumerate_1 _) (F.newCall_enumerate_1 _) (fun obj => F.args_object_init_2 obj _) F.entry_enumerate_new
    (meets_enum1 B) ⟨h1, ?_⟩
  have hz : (s.heap.push o).objs.size = s.heap.objs.size + 1 := Heap.size_push ..
  show _ ∧ _
  rw [hz]
  have he : IsEnum ((s.heap.push o).push { cls := .type "enumerate", data := .fields #[.none, .bool false, .ref s.heap.objs.size, rawInt 0, .none, .none] }) (s.heap.objs.size + 1) s.heap.objs.size 0 .none := by
    have := Heap.get?_push_size (s.heap.push o) (o := { cls := .type "enumerate", data := .fields #[.none, .bool false, .ref s.heap.objs.size, rawInt 0, .none, .none] }) rfl
    rw [hz] at this; exact this
  refine ⟨⟨_, he, rfl⟩, h _ he (Heap.get?_push_of_some _ (Heap.get?_push_size _ B.free)) (by rw [Heap.size_push, hz]) fun b o x => Heap.get?_push_of_some _ (Heap.get?_push_of_some _ x)⟩
def IteT (K : PySem.W.Frag) (a : Addr) : It where
  go := fun i H => ∃ xs, SqT K H a xs ∧ i < xs.length
  yld := fun i H v H' => ∃ t x, v = .ref t ∧ H t = none ∧ H' = upd H t (.tup [.int (i : Nat), x]) ∧ ∀ xs, SqT K H a xs → xs[i]? = some x
  stop := fun i H => ∃ xs, SqT K H a xs ∧ xs.length ≤ i
theorem turnT {P : Program} {w : World} {K : PySem.W.Frag} {el : List Expr} {kk : Nat} {tp : Pos} (a e it : Addr) (hae : e ≠ a) (hai : a ≠ it) :
    Turn P w K (.Tuple el kk tp) (IteT K a) [e, it] e (fun i h => (∃ old, IsEnum h e it ((i : Nat) : Int) old) ∧ h.IsTupleIter it a i ∧ e ≠ it) where
  mem := by simp
  obj := fun i h st b hb => by
    obtain ⟨⟨old, he⟩, ⟨o, ho, hc, hd⟩, _⟩ := st
    have e' : b = e ∨ b = it := by simpa using hb
    rcases e' with z | z
    · rw [z]; exact ⟨_, he, fun v q => nomatch q⟩
    · rw [z]; exact ⟨o, ho, fun v q => by rw [hd] at q; cases q⟩
  keep := fun i h h' st k => let ⟨⟨old, he⟩, hi, hne⟩ := st; ⟨⟨old, k e (by simp) _ he⟩, hi.at fun o q => k it (by simp) o q, hne⟩
  item := by
    intro X hP hw hK hc i pins s σ H E I hf st hg
    subst hP hw hK
    obtain ⟨⟨old, he⟩, hit, hne⟩ := st
    obtain ⟨xs, hq, hx⟩ := hg
    obtain ⟨its, rv, p, hz⟩ := I.tuple hq
    obtain ⟨u, hu, ru⟩ := rv.get (List.getElem?_eq_getElem hx)
    have hel : e < s.heap.objs.size := Heap.lt_size he
    have hil : it < s.heap.objs.size := by obtain ⟨_, q, _⟩ := hit; exact Heap.lt_size q
    have nl := rv.length
    have hh : X.A.in1.handled = none := I.ok.hd hc
    refine wpAny_pyNext_enum_itemD (Draws.tuple hh it a hai its.toArray) he ⟨hit, p⟩ (by simp; omega) hne (by simp [hne, hae]) fun x h' tk g1 ho st' hT hsz hk => ?_
    obtain rfl : u = x := by simpa [hu] using g1
    refine ⟨_, rfl, wpAny_letOwnedTupleGo_enum (s := { s with heap := h', toks := tk + 1 }) ho fun h'' he' sb => ?_⟩
    have hT2 : h''.get? s.heap.objs.size = some { cls := .type "tuple", data := .seq #[.int i tk, u] } := (sb.2 _ (Nat.ne_of_gt hel)).trans hT
    have new : ObjOk X.prog X.w (upd H s.heap.objs.size (.tup [.int (i : Nat), xs[i]])) h'' s.heap.objs.size (.tup [.int (i : Nat), xs[i]]) :=
      ⟨by show 2 ≤ sizeLine; decide, [.int i tk, u], .cons ⟨_, rfl⟩ (.cons ru .nil), ⟨_, hT2, rfl, _, rfl⟩⟩
    have I1 : Inv X pins σ (upd H s.heap.objs.size (.tup [.int (i : Nat), xs[i]])) { s with heap := h'', toks := tk + 1 } :=
      I.turnedNew (t' := tk + 1) (ch := [e, it]) (fun b ob hb q => (sb.2 b (fun z => hb (by simp [z]))).trans (hk b ob (fun z => hb (by simp [z])) (fun z => hb (by simp [z])) q)) hf (Nat.le_refl _) new
    refine ⟨.ref s.heap.objs.size, _, I1, rfl, ⟨_, xs[i], rfl, I.hok.fresh (Nat.le_refl _), rfl, fun ys hy => by rw [I.tuple_inj hy hq]; exact List.getElem?_eq_getElem hx⟩, ⟨⟨u, ?_⟩, st'.1.at fun o q => (sb.2 it (Ne.symm hne)).trans q, hne⟩, fun b hb => ?_⟩
    · have e1 : ((i + 1 : Nat) : Int) = (i : Int) + 1 := by omega
      rw [e1]; exact he'
    · have hb' : b < s.heap.objs.size := by
        have e' : b = e ∨ b = it := by simpa using hb
        rcases e' with z | z
        · rw [z]; exact hel
        · rw [z]; exact hil
      rw [upd_ne (Nat.ne_of_lt hb')]
      exact (hf b hb).1
  done := by
    intro X hP hw hK hc i pins s σ H E I hf st hg
    subst hP hw hK
    obtain ⟨⟨old, he⟩, hit, hne⟩ := st
    obtain ⟨xs, hq, hx⟩ := hg
    obtain ⟨its, rv, p, hz⟩ := I.tuple hq
    obtain ⟨f0, f1, f2, f3, f4, f5⟩ := hf it (by simp)
    have hl := rv.length
    have hh : X.A.in1.handled = none := I.ok.hd hc
    exact wpAny_pyNext_enum_endD (endT hh it a i its.toArray (by simp; omega) hai) he ⟨rfl, hit, p⟩ fun h' eb => ⟨rfl, I.turned (t' := s.toks) (fun b o hb q => eb b o hb q) f0 f1 f3 f4 f5⟩
  self := fun A i s Q E st h => let ⟨⟨_, he⟩, _⟩ := st; wpAny_pyIter_enum he h
def iEnumT (K : PySem.W.Frag) (ta : TA) : TI := fun σ H R => ta σ H fun vs H1 => ∃ a xs, vs = [.ref a] ∧ SqT K H1 a xs ∧ R (IteT K a) H1
theorem pi_enumT {X : Cx} {e : Expr} {ta : TA} {p pos tpos : Pos} {elts : List Expr} {kk : Nat} (hg : Gl X "enumerate") (hm : X.mg "enumerate" = none) (ha : PA X [e] ta) (hs : starEach [e] X.env = [(false, eval e X.env)] := by rfl) :
    PI X (.Tuple elts kk tpos) (.Call (.Name "enumerate" p) [e] [] pos) (iEnumT X.K ta) := by
  refine ⟨fun pins s σ H R I h => ?_⟩
  refine Call_ (ld_blt I hg hm boot_enumerate (PyProof.Rows.callWith_type1 (thn (ha.run pos pins s σ H _ I h) fun us s1 ⟨vs, H1, I1, r1, q1⟩ => ?_) hs rfl))
  obtain ⟨a, xs, ex, hq, q⟩ := q1
  subst ex
  cases r1 with
  | cons r rr =>
    cases rr
    cases r
    obtain ⟨its, rv, p', hz⟩ := I1.tuple hq
    obtain ⟨oa, hoa, _⟩ := id p'
    have hlt := Heap.lt_size hoa
    refine enum_begins1 (begins_tuple a its.toArray) p' fun h' he hit hsz hk => wpAny_pyIter_enum he ?_
    have I2 : Inv X pins σ H1 { s1 with heap := h' } := I1.kept (t' := s1.toks) hk
    refine ⟨s1.heap.objs.size + 1, [s1.heap.objs.size + 1, s1.heap.objs.size], _, _, H1, rfl, I2, turnT a (s1.heap.objs.size + 1) s1.heap.objs.size (Nat.ne_of_gt (Nat.lt_succ_of_lt hlt)) (Nat.ne_of_lt hlt), ⟨⟨.none, he⟩, ⟨_, hit, rfl, rfl⟩, Nat.succ_ne_self _⟩, fun b hb => ?_, q⟩
    have e' : b = s1.heap.objs.size + 1 ∨ b = s1.heap.objs.size := by simpa using hb
    have hle : s1.heap.objs.size ≤ b := by
      rcases e' with z | z
      · rw [z]; exact Nat.le_add_right _ _
      · rw [z]; exact Nat.le_refl _
    exact I1.fpOk hle (I1.hok.fresh hle)
section
variable {T : Cfg} {W : WX} {ρ : List (Option D)} {m0 : Mu} {XP : XW} {K : Out → Prop} {te te' : TE} {P : D → Mu → Prop} {u : TS} {μ : Mu} {E : XK} {ta : TA} {Hb H : Hp}
theorem iteT_ok {a : Addr} {ds : List D} {xs : List V} {Hb0 : Hp} (hx : SqT T.K Hb0 a xs) (r : RepL T Hb0 ds xs) : ItOk T (IteT T.K a) ds.length (fun i => .tup [.int (i : Nat), nth ds i]) Hb0 := fun Hb H e1 e2 => by
  have hH : SqT T.K H a xs := ex_t e2 (ex_t e1 hx)
  refine ⟨fun i hi => ⟨xs, hH, by rw [← r.1]; exact hi⟩, fun i hi => ⟨xs, hH, by rw [← r.1]; exact hi⟩, ?_⟩
  rintro i x H' hi ⟨Tp, y, rfl, hT, rfl, hy⟩ μ sm
  have g := Go.lay e2 sm (o := .tup [.int (i : Nat), y]) hT
  refine ⟨_, g, ?_⟩
  have rl : RepL T (upd Hb Tp (.tup [.int (i : Nat), y])) [.int (i : Nat), nth ds i] [.int (i : Nat), y] :=
    .cons (.int _) (.cons (((r.2 i _ y (nth_get hi) (hy xs hH)).mono e1).mono g.ex) .nil)
  exact .tup (Evl.st_of upd_same) rl.1 rl.2
theorem iv_enumT {P : Nat → (Nat → D) → Mu → Prop} (h : EA T ta W ⟨ρ, m0⟩ (fun es μ => ∃ ds, es = [.tup ds] ∧ P ds.length (fun i => .tup [.int (i : Nat), nth ds i]) μ) XP) : IV T (iEnumT T.K ta) W ⟨ρ, m0⟩ P XP := fun σ Hb H R S q x =>
  h σ Hb H _ S (fun ds μ vs Hb1 H1 g r p => by
    obtain ⟨ds, rfl, p⟩ := p
    obtain ⟨v, ys, rfl, r1, r⟩ := r.cons_inv
    obtain rfl := r.nil_inv
    obtain ⟨a, xs, rfl, hx, r⟩ := r1.tup_inv
    exact ⟨a, xs, rfl, ex_t g.sub hx, q _ _ _ _ _ _ g (iteT_ok hx r) p⟩) x
theorem Go.lk (s : Ex Hb H) (m : SimMu T μ Hb H) {p : Addr} {o : HO} {y : MO} (hp : μ p = some y) (hno : NoTC o := by exact ⟨fun _ z => (nomatch z), fun _ z => (nomatch z)⟩) : Go T μ Hb H (del μ p) (upd Hb p o) (upd H p o) := by
  obtain ⟨hb, u0, hu0, r0⟩ := m p y hp
  have ex : Ex Hb (upd Hb p o) := Evl.Ex.new hb
  refine ⟨ex, fun a u h n w _ => ?_, fun a x h => ?_, fun a u h => ?_, fun a u h => ?_, m.up (fun a u n q => (upd_ntc (fun u q => by rw [hu0] at q; cases q; exact r0.ntc) hno a u n).2 q) (upd_ntc (fun u q => by rw [hb] at q; cases q) hno) fun a x h => ?_⟩
  · have ne : a ≠ p := fun e => by subst e; rw [hp] at w; cases w
    exact ⟨by rw [upd_ne ne]; exact h, fun _ => by rw [upd_ne ne]; exact n⟩
  · unfold del at h
    split at h
    · cases h
    · exact .inl (by rw [h]; simp)
  · by_cases e : a = p
    · subst e; exact ⟨o, upd_same⟩
    · exact ⟨u, by rw [upd_ne e]; exact h⟩
  · by_cases e : a = p
    · subst e; rw [upd_same] at h ⊢; exact h
    · rw [upd_ne e] at h ⊢; exact s a u h
  · unfold del at h
    split at h
    · cases h
    · rename_i e
      obtain ⟨n, u, hu, q⟩ := m a x h
      exact ⟨by rw [upd_ne e]; exact n, u, by rw [upd_ne e]; exact hu, q.mono ex⟩
theorem ev_get2O {td ty tx : TE} (h : EV T td W ⟨ρ, m0⟩ (fun d μ1 => ∃ a kvs0, d = .ptr a ∧ μ1 a = some (.dK kvs0) ∧ EV T ty W ⟨ρ, μ1⟩ (fun e μ2 => EV T tx W ⟨ρ, μ2⟩ (fun f μ3 => ∃ kvs k, e = kD k ∧ μ3 a = some (.dK kvs) ∧ P ((valD kvs k).getD f) μ3) XP) XP) XP) : EV T (tDGet2 td ty tx) W ⟨ρ, m0⟩ P XP := fun σ Hb H Q S q x =>
  h σ Hb H _ S (fun d μ1 v Hb1 H1 g1 r1 p1 => by
    obtain ⟨a, kvs0, rfl, hm, p1⟩ := p1
    cases r1
    have hd : ∃ es, H1 a = some (.dK es) := by
      obtain ⟨_, o, ho, ro⟩ := g1.mu a _ hm
      cases o with
      | dK es => exact ⟨es, ho⟩
      | _ => exact ro.elim
    obtain ⟨es, hes⟩ := hd
    refine ⟨a, rfl, .inl ⟨es, .inl hes⟩, ?_⟩
    refine p1 σ Hb1 H1 _ (S.go g1) (fun e μ2 w Hb2 H2 g2 r2 p2 => ?_) (fun y μ' cls dd Hb' H' g r p => x y μ' cls dd Hb' H' (g1.trans g) r p)
    refine p2 σ Hb2 H2 _ ((S.go g1).go g2) (fun f μ3 z Hb3 H3 g3 r3 p3 => ?_) (fun y μ' cls dd Hb' H' g r p => x y μ' cls dd Hb' H' ((g1.trans g2).trans g) r p)
    obtain ⟨kvs, k, rfl, hm3, p⟩ := p3
    obtain ⟨_, o, ho, ro⟩ := g3.mu a _ hm3
    cases o with
    | dK fs =>
      have ro : RepP T Hb3 kvs fs := ro
      obtain rfl := rep_kD r2
      obtain ⟨h1, h2⟩ := ro.val (k := k)
      refine ⟨valV fs k, .inl ⟨fs, k, .inl ho, rfl, rfl⟩, ?_⟩
      cases hv : valD kvs k with
      | none =>
        rw [h2 hv]
        rw [hv] at p
        exact q _ _ _ _ _ ((g1.trans g2).trans g3) r3 p
      | some y =>
        obtain ⟨w', e', r'⟩ := h1 y hv
        rw [e']
        rw [hv] at p
        exact q _ _ _ _ _ ((g1.trans g2).trans g3) r' p
    | _ => exact ro.elim) x
end
section
variable {κ β : Type} [DecidableEq κ]
def putD (kvs : List (κ × β)) (k : κ) (d : β) : List (κ × β) := if k ∈ kvs.map Prod.fst then kvs.map (fun z => (z.1, if z.1 = k then d else z.2)) else kvs ++ [(k, d)]
def lookD (kvs : List (κ × β)) (k : κ) : Option β := (kvs.find? fun kv => decide (kv.1 = k)).map (·.2)
theorem lookD_cons {p : κ × β} {r : List (κ × β)} {k : κ} : lookD (p :: r) k = if p.1 = k then some p.2 else lookD r k := by
  unfold lookD
  rw [List.find?_cons]
  by_cases e : p.1 = k
  · rw [decide_eq_true e, if_pos e]; rfl
  · rw [decide_eq_false e, if_neg e]
theorem lookD_some_mem {k : κ} : ∀ {kvs : List (κ × β)} {d : β}, lookD kvs k = some d → (k, d) ∈ kvs
  | [], d, h => by cases h
  | p :: r, d, h => by
    rw [lookD_cons] at h
    by_cases e : p.1 = k
    · rw [if_pos e] at h
      cases h
      rw [← e]
      exact List.mem_cons_self
    · rw [if_neg e] at h
      exact List.mem_cons_of_mem _ (lookD_some_mem h)
theorem lookD_none {k : κ} : ∀ {kvs : List (κ × β)}, k ∉ kvs.map Prod.fst → lookD kvs k = none
  | [], _ => rfl
  | p :: r, h => by
    rw [List.map_cons, List.mem_cons, not_or] at h
    rw [lookD_cons, if_neg (fun e => h.1 e.symm)]
    exact lookD_none h.2
theorem lookD_isSome {k : κ} : ∀ {kvs : List (κ × β)}, (lookD kvs k).isSome = true ↔ k ∈ kvs.map Prod.fst
  | [] => by simp [lookD]
  | p :: r => by
    rw [lookD_cons, List.map_cons, List.mem_cons]
    by_cases e : p.1 = k
    · rw [if_pos e]; simp [e]
    · rw [if_neg e, lookD_isSome]
      constructor
      · exact fun h => .inr h
      · rintro (h | h)
        · exact absurd h.symm e
        · exact h
theorem lookD_map {k j : κ} {d : β} : ∀ {kvs : List (κ × β)}, lookD (kvs.map fun z => (z.1, if z.1 = k then d else z.2)) j = (lookD kvs j).map fun x => if j = k then d else x
  | [] => rfl
  | p :: r => by
    rw [List.map_cons, lookD_cons, lookD_cons, lookD_map (kvs := r)]
    by_cases e : p.1 = j
    · rw [if_pos e, if_pos e, Option.map_some, e]
    · rw [if_neg e, if_neg e]
theorem lookD_app {k j : κ} {d : β} : ∀ {kvs : List (κ × β)}, k ∉ kvs.map Prod.fst → lookD (kvs ++ [(k, d)]) j = if j = k then some d else lookD kvs j
  | [], _ => by
    rw [List.nil_append, lookD_cons]
    by_cases e : k = j
    · rw [if_pos e, if_pos e.symm]
    · rw [if_neg e, if_neg (fun z => e z.symm)]
  | p :: r, h => by
    rw [List.map_cons, List.mem_cons, not_or] at h
    rw [List.cons_append, lookD_cons, lookD_cons, lookD_app h.2]
    by_cases e : p.1 = j
    · rw [if_pos e, if_pos e, if_neg (fun z => h.1 (by rw [e, z]))]
    · rw [if_neg e, if_neg e]
theorem lookD_put {kvs : List (κ × β)} {k j : κ} {d : β} : lookD (putD kvs k d) j = if j = k then some d else lookD kvs j := by
  unfold putD
  by_cases h : k ∈ kvs.map Prod.fst
  · rw [if_pos h, lookD_map]
    by_cases e : j = k
    · rw [if_pos e, e]
      obtain ⟨x, hx⟩ := Option.isSome_iff_exists.1 (lookD_isSome.2 h)
      rw [hx, Option.map_some, if_pos rfl]
    · rw [if_neg e]
      cases lookD kvs j with
      | none => rfl
      | some x => rw [Option.map_some, if_neg e]
  · rw [if_neg h]
    exact lookD_app h
theorem putD_len {kvs : List (κ × β)} {k : κ} {d : β} : (putD kvs k d).length ≤ kvs.length + 1 := by
  unfold putD
  split
  · rw [List.length_map]; omega
  · rw [List.length_append]; simp
theorem RepP.put {T : Cfg} {Hb : Hp} {gs : List (κ × D)} {fs : List (κ × V)} {k : κ} {d : D} {v : V} (h : RepP T Hb gs fs) (r : Rep T Hb d v) : RepP T Hb (putD gs k d) (putK fs k v) := by
  by_cases hk : k ∈ gs.map Prod.fst
  · have hk' : (fs.any fun kv => decide (kv.1 = k)) = true := by
      rw [h.1] at hk
      obtain ⟨z, hz, e⟩ := List.mem_map.1 hk
      exact List.any_eq_true.2 ⟨z, hz, decide_eq_true e⟩
    have e1 : putD gs k d = gs.map (fun z => (z.1, if z.1 = k then d else z.2)) := if_pos hk
    have e2 : putK fs k v = fs.map (fun kv => if kv.1 = k then (kv.1, v) else kv) := if_pos hk'
    rw [e1, e2]
    refine ⟨?_, fun i g f a b => ?_⟩
    · rw [List.map_map, List.map_map]
      have e3 : (Prod.fst ∘ fun kv : κ × V => if kv.1 = k then (kv.1, v) else kv) = Prod.fst := by
        funext z
        show (if z.1 = k then (z.1, v) else z).1 = z.1
        split <;> rfl
      rw [e3]
      exact h.1
    · rw [List.getElem?_map] at a b
      obtain ⟨g0, ga, rfl⟩ := Option.map_eq_some_iff.1 a
      obtain ⟨f0, fa, rfl⟩ := Option.map_eq_some_iff.1 b
      have hkey : g0.1 = f0.1 := by
        have := congrArg (fun l : List κ => l[i]?) h.1
        simp only [List.getElem?_map, ga, fa, Option.map_some] at this
        exact Option.some.inj this
      by_cases e : g0.1 = k
      · have e' : f0.1 = k := by rw [← hkey]; exact e
        simp only [if_pos e, if_pos e']
        exact r
      · have e' : ¬ f0.1 = k := by rw [← hkey]; exact e
        simp only [if_neg e, if_neg e']
        exact h.2 i g0 f0 ga fa
  · have hk' : valV fs k = none := by
      rw [h.1] at hk
      cases q : valV fs k with
      | none => rfl
      | some x =>
        unfold valV at q
        obtain ⟨z, hz, _⟩ := Option.map_eq_some_iff.1 q
        exact absurd (List.mem_map.2 ⟨z, List.mem_of_find?_eq_some hz, of_decide_eq_true (List.find?_some (p := fun kv : κ × V => decide (kv.1 = k)) hz)⟩) hk
    have e1 : putD gs k d = gs ++ [(k, d)] := if_neg hk
    rw [e1, putK_new v hk']
    exact repP_snoc h r
theorem RepP.lookP {T : Cfg} {Hb : Hp} {k : κ} : ∀ {gs : List (κ × D)} {fs : List (κ × V)}, RepP T Hb gs fs → (∀ d, lookD gs k = some d → ∃ v, valV fs k = some v ∧ Rep T Hb d v) ∧ (lookD gs k = none → valV fs k = none)
  | [], fs, h => by
    have : fs = [] := by have := h.1; simp at this; exact this
    subst this
    exact ⟨fun d e => (by cases e), fun _ => rfl⟩
  | g :: gs, [], h => by have := h.1; simp at this
  | g :: gs, f :: fs, h => by
    have hk : g.1 = f.1 := by have := h.1; simp only [List.map_cons, List.cons.injEq] at this; exact this.1
    have ht : RepP T Hb gs fs := ⟨by have := h.1; simp only [List.map_cons, List.cons.injEq] at this; exact this.2, fun i a b c d => h.2 (i + 1) a b (by simpa using c) (by simpa using d)⟩
    rw [lookD_cons]
    by_cases e : g.1 = k
    · rw [if_pos e, valV_pos (hk.symm.trans e)]
      exact ⟨fun d e => (by cases e; exact ⟨f.2, rfl, h.2 0 g f rfl rfl⟩), fun e => (by cases e)⟩
    · rw [if_neg e, valV_neg (fun z => e (hk.trans z))]
      exact ht.lookP
end
section
variable {T : Cfg} {W : WX} {ρ : List (Option D)} {m0 μ : Mu} {P : D → Mu → Prop} {XP : XW} {te : TE} {K : Out → Prop}
theorem sv_dputU {td ty tv : TE} (h : EV T tv W ⟨ρ, m0⟩ (fun e μ1 => EV T td W ⟨ρ, μ1⟩ (fun d μ2 => EV T ty W ⟨ρ, μ2⟩ (fun i μ3 => ∃ a kvs k, d = .ptr a ∧ μ3 a = some (.dK kvs) ∧ i = kD k ∧ kvs.length < 1000 ∧ K (.nx ⟨ρ, put μ3 a (.dK (putD kvs k e))⟩)) (xk ⟨ρ, m0⟩ K)) (xk ⟨ρ, m0⟩ K)) (xk ⟨ρ, m0⟩ K)) : SV T (sDPut td ty tv) W ⟨ρ, m0⟩ K := fun σ Hb H Dn S c =>
  h σ Hb H _ S (fun e μ1 v Hb1 H1 g1 r1 p1 => p1 σ Hb1 H1 _ (S.go g1) (fun d μ2 x Hb2 H2 g2 r2 p2 => p2 σ Hb2 H2 _ ((S.go g1).go g2) (fun i μ3 y Hb3 H3 g3 r3 p3 => by
    obtain ⟨a, kvs, k, rfl, hm, rfl, hl, kk⟩ := p3
    have r2 := r2.mono g3.ex
    cases r2
    obtain rfl := rep_kD r3
    obtain ⟨n, o, ho, ro⟩ := g3.mu a _ hm
    cases o with
    | dK fs =>
      have ro : RepP T Hb3 kvs fs := ro
      have hlen : kvs.length = fs.length := by have := congrArg List.length ro.1; simpa using this
      refine ⟨a, _, rfl, .inl ⟨fs, k, ho, rfl, ?_, rfl⟩, ?_⟩
      · rw [← hlen, sizeLine_eq]; omega
      · have g4 := Go.chg g3.sub g3.mu (o := .dK (putK fs k v)) (z := .dK (putD kvs k e)) hm (ro.put ((r1.mono g2.ex).mono g3.ex))
        have g := ((g1.trans g2).trans g3).trans g4
        exact c.nx _ _ _ _ g (S.go g) kk
    | _ => exact ro.elim)
    (fun y μ' cls dd Hb' H' g r p => c.x S y μ' cls dd Hb' H' ((g1.trans g2).trans g) r p)) (fun y μ' cls dd Hb' H' g r p => c.x S y μ' cls dd Hb' H' (g1.trans g) r p)) (c.x S)
theorem sv_dputT {td ty tv : TE} (h : EV T tv W ⟨ρ, m0⟩ (fun e μ1 => EV T td W ⟨ρ, μ1⟩ (fun d μ2 => EV T ty W ⟨ρ, μ2⟩ (fun i μ3 => ∃ a kvs k, d = .ptr a ∧ μ3 a = some (.dT kvs) ∧ i = .key k ∧ kvs.length < 1000 ∧ K (.nx ⟨ρ, put μ3 a (.dT (putD kvs k e))⟩)) (xk ⟨ρ, m0⟩ K)) (xk ⟨ρ, m0⟩ K)) (xk ⟨ρ, m0⟩ K)) : SV T (sDPut td ty tv) W ⟨ρ, m0⟩ K := fun σ Hb H Dn S c =>
  h σ Hb H _ S (fun e μ1 v Hb1 H1 g1 r1 p1 => p1 σ Hb1 H1 _ (S.go g1) (fun d μ2 x Hb2 H2 g2 r2 p2 => p2 σ Hb2 H2 _ ((S.go g1).go g2) (fun i μ3 y Hb3 H3 g3 r3 p3 => by
    obtain ⟨a, kvs, k, rfl, hm, rfl, hl, kk⟩ := p3
    have r2 := r2.mono g3.ex
    cases r2
    obtain ⟨b, rfl, hb⟩ := r3.key_inv
    obtain ⟨n, o, ho, ro⟩ := g3.mu a _ hm
    cases o with
    | dT fs =>
      have ro : RepP T Hb3 kvs fs := ro
      have hlen : kvs.length = fs.length := by have := congrArg List.length ro.1; simpa using this
      refine ⟨a, _, rfl, .inr ⟨fs, k, b, ho, rfl, g3.sub _ _ hb, ?_, rfl⟩, ?_⟩
      · rw [← hlen, sizeLine_eq]; omega
      · have g4 := Go.chg g3.sub g3.mu (o := .dT (putK fs k v)) (z := .dT (putD kvs k e)) hm (ro.put ((r1.mono g2.ex).mono g3.ex))
        have g := ((g1.trans g2).trans g3).trans g4
        exact c.nx _ _ _ _ g (S.go g) kk
    | _ => exact ro.elim)
    (fun y μ' cls dd Hb' H' g r p => c.x S y μ' cls dd Hb' H' ((g1.trans g2).trans g) r p)) (fun y μ' cls dd Hb' H' g r p => c.x S y μ' cls dd Hb' H' (g1.trans g) r p)) (c.x S)
theorem ev_dnewTM (h : ∀ p, m0 p = none → P (.ptr p) (put m0 p (.dT []))) : EV T tDNewT W ⟨ρ, m0⟩ P XP := fun σ Hb H Q S q x p hp => by
  have g := Go.own S.sub S.mu (o := .dT []) (z := .dT []) hp ⟨rfl, fun i g f a _ => by simp at a⟩
  exact q _ _ _ _ _ g (.ptr p) (h p (mu_fresh S.mu hp))
theorem own_get {a : Addr} {Hb H : Hp} {d : D} {y : V} {kvs : List (Key × D)} {k : Key} (hm : μ a = some (.dK kvs)) (sm : SimMu T μ Hb H) (ex : Ex Hb H) (r : Rep T Hb (kD k) y) : ∃ o, DGet H a y o ∧ (∀ z, lookD kvs k = some z → ∃ w, o = some w ∧ Rep T Hb z w) ∧ (lookD kvs k = none → o = none) := by
  obtain ⟨_, o, ho, ro⟩ := sm a _ hm
  cases o with
  | dK fs =>
    have ro : RepP T Hb kvs fs := ro
    obtain rfl := rep_kD r
    exact ⟨valV fs k, .inl ⟨fs, k, .inl ho, rfl, rfl⟩, ro.lookP⟩
  | _ => exact ro.elim
theorem own_getT {a : Addr} {Hb H : Hp} {y : V} {kvs : List (List Key × D)} {k : List Key} (hm : μ a = some (.dT kvs)) (sm : SimMu T μ Hb H) (ex : Ex Hb H) (r : Rep T Hb (.key k) y) : ∃ o, DGet H a y o ∧ (∀ z, lookD kvs k = some z → ∃ w, o = some w ∧ Rep T Hb z w) ∧ (lookD kvs k = none → o = none) := by
  obtain ⟨_, o, ho, ro⟩ := sm a _ hm
  cases o with
  | dT fs =>
    have ro : RepP T Hb kvs fs := ro
    obtain ⟨b, rfl, hb⟩ := r.key_inv
    exact ⟨valV fs k, .inr ⟨fs, k, b, .inl ho, rfl, ex _ _ hb, rfl⟩, ro.lookP⟩
  | _ => exact ro.elim
theorem ev_dgetO {td ty : TE} (h : EV T td W ⟨ρ, m0⟩ (fun d μ1 => EV T ty W ⟨ρ, μ1⟩ (fun e μ2 => ∃ a kvs k z, d = .ptr a ∧ μ2 a = some (.dK kvs) ∧ e = kD k ∧ lookD kvs k = some z ∧ P z μ2) XP) XP) : EV T (tDGet td ty) W ⟨ρ, m0⟩ P XP := fun σ Hb H Q S q x =>
  h σ Hb H _ S (fun d μ1 v Hb1 H1 g1 r1 p1 => p1 σ Hb1 H1 _ (S.go g1) (fun e μ2 w Hb2 H2 g2 r2 p2 => by
    obtain ⟨a, kvs, k, z, rfl, hm, rfl, hz, p⟩ := p2
    cases r1
    obtain ⟨o, g, h1, _⟩ := own_get (d := .non) hm g2.mu g2.sub r2
    obtain ⟨w, rfl, rw'⟩ := h1 z hz
    exact ⟨a, w, rfl, g, q _ _ _ _ _ (g1.trans g2) rw' p⟩)
    (fun y μ' cls dd Hb' H' g r p => x y μ' cls dd Hb' H' (g1.trans g) r p)) x
end
section
variable {T : Cfg} {W : WX} {ρ : List (Option D)} {m0 μ : Mu} {P : D → Mu → Prop} {XP : XW} {te te' : TE} {ta : TA} {K : Out → Prop} {E : XK}
theorem ev_meth {c : Ct} {k : Nat} {mn : Str} (h : EV T te W ⟨ρ, m0⟩ (fun d μ1 => ∃ a gs, d = .ptr a ∧ μ1 a = some (.ins k gs) ∧ gs.lookup mn = none ∧ EA T ta W ⟨ρ, μ1⟩ (fun ds μ => c (.ptr a :: ds) μ P (fun _ _ => False)) XP) XP) : EV T (tMeth (T.cls k) mn (spOf T c) [] E te ta) W ⟨ρ, m0⟩ P XP := fun σ Hb H Q S q x =>
  h σ Hb H _ S (fun d μ1 v Hb1 H1 g1 r1 p1 => by
    obtain ⟨a, gs, rfl, hm, hl, p1⟩ := p1
    cases r1
    obtain ⟨_, o, ho, ro⟩ := g1.mu a _ hm
    cases o with
    | ins C dx fs =>
      obtain ⟨rfl, ro⟩ := ro
      refine ⟨a, dx, fs, rfl, ho, RepP.lookNone ro.1 hl, ?_⟩
      refine p1 σ Hb1 H1 _ (S.go g1) (fun ds μ vs Hb2 H2 g2 r2 p2 => ?_) (fun y μ' cls dd Hb' H' g r p => x y μ' cls dd Hb' H' (g1.trans g) r p)
      refine ⟨.ptr a :: ds, μ, Hb2, _, _, g2.sub, g2.mu, .cons (.ptr a) (by simpa using r2), p2, fun d μ' v Hb' H' g' r' k => q _ _ _ _ _ ((g1.trans g2).trans g') r' k, fun y μ' cls dd Hb' H' g' r' k => k.elim⟩
    | _ => exact ro.elim) x
theorem ev_calA {c : Ct} (h : EA T ta W ⟨ρ, m0⟩ (fun ds μ => c ds μ P (fun _ _ => False)) XP) : EV T (tCall (spOf T c) [] E ta) W ⟨ρ, m0⟩ P XP := fun σ Hb H Q S q x =>
  h σ Hb H _ S (fun ds μ vs Hb1 H1 g r p => ⟨ds, μ, Hb1, _, _, g.sub, g.mu, by simpa using r, p, fun d μ' v Hb' H' g' r' k => q _ _ _ _ _ (g.trans g') r' k, fun y μ' cls dd Hb' H' g' r' k => k.elim⟩) x
theorem ev_makA {c : Ct} {k : Nat} (h : EA T ta W ⟨ρ, m0⟩ (fun ds μ => ∀ p, μ p = none → c (.ptr p :: ds) (put μ p (.ins k [])) (fun d μ' => d = .non ∧ P (.ptr p) μ') (fun _ _ => False)) XP) : EV T (tMake (T.cls k) (spOf T c) [] E ta) W ⟨ρ, m0⟩ P XP := fun σ Hb H Q S q x =>
  h σ Hb H _ S (fun ds μ vs Hb1 H1 g r p => by
    intro a dx ha hdx hne
    have g1 : Go T μ Hb1 H1 μ (upd Hb1 dx (.own a)) (upd H1 dx (.own a)) := Go.lay g.sub g.mu hdx
    have ha' : (upd H1 dx (.own a)) a = none := by rw [upd_ne (fun e => hne e.symm)]; exact ha
    have g2 := Go.own g1.sub g1.mu (o := .ins (T.cls k) dx []) (z := .ins k []) ha' ⟨rfl, rfl, fun i g f e => by simp at e⟩
    have hm1 : μ a = none := mu_fresh g.mu ha
    refine ⟨.ptr a :: ds, put μ a (.ins k []), _, _, _, g2.sub, g2.mu, .cons (.ptr a) (by simpa using r.mono (g1.trans g2).ex), p a hm1, fun d μ' v Hb' H' g' r' z => ?_, fun y μ' cls dd Hb' H' g' r' z => z.elim⟩
    obtain ⟨rfl, z⟩ := z
    cases r'
    exact ⟨rfl, q _ _ _ _ _ (((g.trans g1).trans g2).trans g') (.ptr a) z⟩) x
theorem ev_get2OT {td ty tx : TE} (h : EV T td W ⟨ρ, m0⟩ (fun d μ1 => ∃ a kvs0, d = .ptr a ∧ μ1 a = some (.dT kvs0) ∧ EV T ty W ⟨ρ, μ1⟩ (fun e μ2 => EV T tx W ⟨ρ, μ2⟩ (fun f μ3 => ∃ kvs k, e = .key k ∧ μ3 a = some (.dT kvs) ∧ P ((lookD kvs k).getD f) μ3) XP) XP) XP) : EV T (tDGet2 td ty tx) W ⟨ρ, m0⟩ P XP := fun σ Hb H Q S q x =>
  h σ Hb H _ S (fun d μ1 v Hb1 H1 g1 r1 p1 => by
    obtain ⟨a, kvs0, rfl, hm, p1⟩ := p1
    cases r1
    have hd : ∃ es, H1 a = some (.dT es) := by
      obtain ⟨_, o, ho, ro⟩ := g1.mu a _ hm
      cases o with
      | dT es => exact ⟨es, ho⟩
      | _ => exact ro.elim
    obtain ⟨es, hes⟩ := hd
    refine ⟨a, rfl, .inr ⟨es, .inl hes⟩, ?_⟩
    refine p1 σ Hb1 H1 _ (S.go g1) (fun e μ2 w Hb2 H2 g2 r2 p2 => ?_) (fun y μ' cls dd Hb' H' g r p => x y μ' cls dd Hb' H' (g1.trans g) r p)
    refine p2 σ Hb2 H2 _ ((S.go g1).go g2) (fun f μ3 z Hb3 H3 g3 r3 p3 => ?_) (fun y μ' cls dd Hb' H' g r p => x y μ' cls dd Hb' H' ((g1.trans g2).trans g) r p)
    obtain ⟨kvs, k, rfl, hm3, p⟩ := p3
    obtain ⟨o, g, h1, h2⟩ := own_getT hm3 g3.mu g3.sub (r2.mono g3.ex)
    refine ⟨o, g, ?_⟩
    cases hv : lookD kvs k with
    | none =>
      rw [h2 hv]
      rw [hv] at p
      exact q _ _ _ _ _ ((g1.trans g2).trans g3) r3 p
    | some y =>
      obtain ⟨w', e', r'⟩ := h1 y hv
      rw [e']
      rw [hv] at p
      exact q _ _ _ _ _ ((g1.trans g2).trans g3) r' p) x
end
open Classical in
def k2 (n : Nat × Nat) : List Key := [.inl (n.1 : Int), .inl (n.2 : Int)]
theorem k2_inj {a b : Nat × Nat} (h : k2 a = k2 b) : a = b := by
  unfold k2 at h
  simp only [List.cons.injEq, Sum.inl.injEq, and_true] at h
  exact Prod.ext (by omega) (by omega)
def p2 (n : Nat × Nat) : PyData := .tuple [.int (n.1 : Int), .int (n.2 : Int)]
def h2 (x y : Nat) : Int := reduceHash (Builtin.Tuple.tupleHashOf [hashInt (x : Int), hashInt (y : Int)])
section
variable {T : Cfg} {W : WX} {ρ : List (Option D)} {m0 μ : Mu} {P : D → Mu → Prop} {XP : XW} {te te' : TE} {ta : TA} {K : Out → Prop} {E : XK} {u : TS}
def lkK (d : Addr) (kvs : List (Key × D)) (o : HO) (K : Out → Prop) : Out → Prop
  | .nx s => s.m d = some (.lkK kvs o) ∧ K (.nx ⟨s.r, put s.m d (.dK kvs)⟩)
  | _ => False
end
section
variable {κ α : Type} [DecidableEq κ] [DecidableEq α]
def tab (ks : List α) (e : α → κ) (f : α → D) : List (κ × D) := ks.map fun k => (e k, f k)
end
def kI (n : Nat) : Key := .inl (n : Int)
theorem k2_inj' (a b : Nat × Nat) (h : k2 a = k2 b) : a = b := k2_inj h
end Pw
namespace Cg
open Pw (lookD putD lookD_put lookD_isSome)
abbrev N := Nat × Nat
structure G where
  c : Nat → Nat → Int
  X : List Nat
  Y : List Nat
  f : Nat → Nat → Int
def ways (g : G) (u : N) : List (N × Int) :=
  if u.1 = 0 then g.Y.map fun y => ((1, y), g.c u.2 y)
  else (g.X.filter fun x => decide (0 < g.f x u.2)).map fun x => ((0, x), 0 - g.c x u.2)
def V (g : G) (v : N) : Prop := (v.1 = 0 ∧ v.2 ∈ g.X) ∨ (v.1 = 1 ∧ v.2 ∈ g.Y)
def Vl (g : G) : List N := g.X.map (fun x => (0, x)) ++ g.Y.map (fun y => (1, y))
theorem mem_Vl {g : G} {v : N} : v ∈ Vl g ↔ V g v := by
  obtain ⟨i, j⟩ := v
  unfold Vl V
  rw [List.mem_append, List.mem_map, List.mem_map]
  constructor
  · rintro (⟨x, hx, e⟩ | ⟨x, hx, e⟩)
    · cases e; exact .inl ⟨rfl, hx⟩
    · cases e; exact .inr ⟨rfl, hx⟩
  · rintro (⟨e, hx⟩ | ⟨e, hx⟩)
    · have e : i = 0 := e
      subst e
      exact .inl ⟨j, hx, rfl⟩
    · have e : i = 1 := e
      subst e
      exact .inr ⟨j, hx, rfl⟩
theorem way_fwd {g : G} {x y : Nat} (h : y ∈ g.Y) : (((1, y), g.c x y) : N × Int) ∈ ways g (0, x) := by
  unfold ways
  rw [if_pos rfl]
  exact List.mem_map.2 ⟨y, h, rfl⟩
theorem way_back {g : G} {x y : Nat} (h : x ∈ g.X) (hf : 0 < g.f x y) : (((0, x), 0 - g.c x y) : N × Int) ∈ ways g (1, y) := by
  unfold ways
  rw [if_neg (show ¬ (1 : Nat) = 0 by decide)]
  exact List.mem_map.2 ⟨x, List.mem_filter.2 ⟨h, decide_eq_true hf⟩, rfl⟩
structure L where
  fo : List (N × Int)
  ah : List (N × N)
  wa : List N
def lab (s : L) (v : N) : Int := (lookD s.fo v).getD 0
abbrev In (s : L) (v : N) : Prop := (lookD s.fo v).isSome = true
def turn (u : N) (s : L) (e : N × Int) : Prop := ¬ In s e.1 ∨ lab s u + e.2 < lab s e.1
instance (u : N) (s : L) (e : N × Int) : Decidable (turn u s e) := by unfold turn; infer_instance
inductive Ch (ah : List (N × N)) : N → List N → Prop
  | root {v : N} (h : lookD ah v = none) : Ch ah v [v]
  | step {v u : N} {l : List N} (h : lookD ah v = some u) (r : Ch ah u l) : Ch ah v (v :: l)
theorem Ch.uniq {ah : List (N × N)} {v : N} {l l' : List N} (h : Ch ah v l) : Ch ah v l' → l = l' := by
  induction h generalizing l' with
  | root h =>
    intro k
    cases k with
    | root _ => rfl
    | step q _ => rw [h] at q; cases q
  | step h r ih =>
    intro k
    cases k with
    | root q => rw [h] at q; cases q
    | step q r' =>
      rw [h] at q
      cases q
      rw [ih r']
theorem Ch.sub {ah : List (N × N)} {v w : N} {l : List N} (h : Ch ah v l) (hw : w ∈ l) : ∃ l', Ch ah w l' ∧ l'.length ≤ l.length := by
  induction h with
  | root h =>
    rw [List.mem_singleton] at hw
    subst hw
    exact ⟨_, .root h, Nat.le_refl _⟩
  | step h r ih =>
    rcases List.mem_cons.1 hw with e | hw
    · subst e
      exact ⟨_, .step h r, Nat.le_refl _⟩
    · obtain ⟨l', h1, h2⟩ := ih hw
      exact ⟨l', h1, by rw [List.length_cons]; omega⟩
theorem Ch.ne {ah : List (N × N)} {v : N} {l : List N} (h : Ch ah v l) : ∃ t, l = v :: t := by
  cases h with
  | root h => exact ⟨[], rfl⟩
  | step h r => exact ⟨_, rfl⟩
def Pot (g : G) (p : N → Int) : Prop := ∀ u v k, V g u → (v, k) ∈ ways g u → p v ≤ p u + k
structure LI (g : G) (p : N → Int) (P : Int) (B : List N) (cu : N) (es : List (N × Int)) (s : L) : Prop where
  dom : ∀ v, In s v → V g v
  beg : ∀ b ∈ B, In s b ∧ lab s b ≤ 0
  src : ∀ v, In s v → (lookD s.ah v).isSome = true ∨ (v ∈ B ∧ lab s v = 0)
  pre : ∀ v u, lookD s.ah v = some u → In s u ∧ In s v ∧ ∃ k, (v, k) ∈ ways g u ∧ lab s u + k ≤ lab s v
  rel : ∀ u e, In s u → u ∉ s.wa → e ∈ ways g u → (u = cu → e ∉ es) → In s e.1 ∧ lab s e.1 ≤ lab s u + e.2
  wad : ∀ u ∈ s.wa, In s u
  low : ∀ v, In s v → p v - P ≤ lab s v
  chn : ∀ v, In s v → ∃ l, Ch s.ah v l
section
variable {g : G} {p : N → Int} {P : Int} {B : List N} {cu : N} {es : List (N × Int)} {s : L} {e : N × Int}
def unf (g : G) (s : L) : Nat := (Vl g).countP fun v => !(lookD s.fo v).isSome
def sm (g : G) (p : N → Int) (P : Int) (s : L) : Nat := ((Vl g).map fun v => if (lookD s.fo v).isSome = true then (lab s v - (p v - P)).toNat else 0).sum
def Less (g : G) (p : N → Int) (P : Int) (s s' : L) : Prop := unf g s' < unf g s ∨ (unf g s' = unf g s ∧ sm g p P s' < sm g p P s)
theorem Less.trans {s s' s'' : L} (h : Less g p P s s') (k : Less g p P s' s'') : Less g p P s s'' := by
  unfold Less at *
  omega
theorem LI.any {cu' : N} (h : LI g p P B cu [] s) : LI g p P B cu' [] s := ⟨h.dom, h.beg, h.src, h.pre, fun u e hu hw he _ => h.rel u e hu hw he fun _ => by simp, h.wad, h.low, h.chn⟩
end
open Pw (lookD putD lookD_put lookD_isSome lookD_cons lookD_none lookD_some_mem)
def L0 (B : List N) : L := ⟨B.map (fun b => (b, 0)), [], B⟩
structure Fin (g : G) (B : List N) (s : L) : Prop where
  dom : ∀ v, In s v → V g v
  beg : ∀ b ∈ B, In s b ∧ lab s b ≤ 0
  src : ∀ v, In s v → (lookD s.ah v).isSome = true ∨ (v ∈ B ∧ lab s v = 0)
  pre : ∀ v u, lookD s.ah v = some u → In s u ∧ In s v ∧ ∃ k, (v, k) ∈ ways g u ∧ lab s v = lab s u + k
  rel : ∀ u e, In s u → e ∈ ways g u → In s e.1 ∧ lab s e.1 ≤ lab s u + e.2
  chn : ∀ v, In s v → ∃ l, Ch s.ah v l
theorem nodup_len {α : Type} [DecidableEq α] : ∀ {l ks : List α}, l.Nodup → (∀ k ∈ l, k ∈ ks) → l.length ≤ ks.length := by
  intro l
  induction l with
  | nil => intro ks _ _; exact Nat.zero_le _
  | cons a l ih =>
    intro ks hn hs
    have ha : a ∈ ks := hs a (by simp)
    rw [List.nodup_cons] at hn
    have h1 : l.length ≤ (ks.erase a).length := ih hn.2 fun k hk => (List.mem_erase_of_ne (fun e => hn.1 (by rw [← e]; exact hk))).2 (hs k (by simp [hk]))
    rw [List.length_erase_of_mem ha] at h1
    have := List.length_pos_of_mem ha
    rw [List.length_cons]
    omega
def rowS (Y : List Nat) (f : Nat → Nat → Int) (x : Nat) : Int := (Y.map fun y => f x y).sum
def colS (X : List Nat) (f : Nat → Nat → Int) (y : Nat) : Int := (X.map fun x => f x y).sum
structure CI (g : G) (h w H W : Nat → Int) : Prop where
  xn : g.X.Nodup
  yn : g.Y.Nodup
  f0 : ∀ x y, x ∈ g.X → y ∈ g.Y → 0 ≤ g.f x y
  h0 : ∀ x ∈ g.X, 0 ≤ h x
  w0 : ∀ y ∈ g.Y, 0 ≤ w y
  row : ∀ x ∈ g.X, h x + rowS g.Y g.f x = H x
  pos : ∀ x ∈ g.X, 0 < H x
  col : ∀ y ∈ g.Y, w y + colS g.X g.f y = W y
  tot : (g.X.map h).sum = (g.Y.map w).sum
  pot : ∃ p, Pot g p
theorem sum_nn {f : Nat → Int} : ∀ {l : List Nat}, (∀ x ∈ l, 0 ≤ f x) → 0 ≤ (l.map f).sum := by
  intro l
  induction l with
  | nil => intro _; simp
  | cons a l ih =>
    intro h
    rw [List.map_cons, List.sum_cons]
    have := h a (by simp)
    have := ih fun x hx => h x (by simp [hx])
    omega
theorem sum_gt {f : Nat → Int} : ∀ {l : List Nat} {x : Nat}, (∀ x ∈ l, 0 ≤ f x) → x ∈ l → f x ≤ (l.map f).sum := by
  intro l
  induction l with
  | nil => intro x _ h; cases h
  | cons a l ih =>
    intro x h hx
    rw [List.map_cons, List.sum_cons]
    have h1 := h a (by simp)
    have h2 := sum_nn fun x hx => h x (List.mem_cons_of_mem a hx)
    rcases List.mem_cons.1 hx with q | q
    · rw [q]; omega
    · have := ih (fun x hx => h x (List.mem_cons_of_mem a hx)) q
      omega
section
variable {g : G} {h w H W : Nat → Int} {s : L}
theorem price_ok (hf : Fin g (Vl g) s) {x y : Nat} (hx : x ∈ g.X) (hy : y ∈ g.Y) : (0 - lab s (0, x)) - (0 - lab s (1, y)) ≤ g.c x y ∧ (0 < g.f x y → (0 - lab s (0, x)) - (0 - lab s (1, y)) = g.c x y) := by
  have i1 := (hf.beg (0, x) (mem_Vl.2 (.inl ⟨rfl, hx⟩))).1
  have i2 := (hf.beg (1, y) (mem_Vl.2 (.inr ⟨rfl, hy⟩))).1
  have h1 := (hf.rel (0, x) _ i1 (way_fwd hy)).2
  have h1 : lab s (1, y) ≤ lab s (0, x) + g.c x y := h1
  refine ⟨by omega, fun hp => ?_⟩
  have h2 := (hf.rel (1, y) _ i2 (way_back hx hp)).2
  have h2 : lab s (0, x) ≤ lab s (1, y) + (0 - g.c x y) := h2
  omega
end
end Cg
namespace Far
open PySem PySem.Spec PyProof.Rows L2 Pw
open FM (Bq)
open FM
theorem bN {p : Prop} {i : Decidable p} {A B : Prop} (e : p) (h : B) : ((!decide p) = true → A) ∧ ((!decide p) = false → B) := bF (by rw [decide_eq_true e]; rfl) h
theorem bN' {p : Prop} {i : Decidable p} {A B : Prop} (e : p) (h : A) : ((!decide p) = false → A) ∧ ((!decide p) = true → B) := bF' (by rw [decide_eq_true e]; rfl) h
theorem bq_mul {n m : Nat} {p q : Rat} (h : Bq n p) (k : Bq m q) : Bq (n + m + 1) (p * q) := (Bq.mul (h.mono (Nat.le_add_right n 1)) k (by omega)).mono (by omega)
theorem bq_div {n m : Nat} {p q : Rat} (h : Bq n p) (k : Bq m q) : Bq (n + m + 1) (p / q) := (Bq.div (h.mono (Nat.le_add_right n 1)) k (by omega)).mono (by omega)
theorem plus_i {T : Cfg} {p q : Rat} {n m : Nat} {P : D → Prop} {X : XD → Prop} (h1 : Bq n p) (h2 : Bq m q) (h : n + m ≤ 9000) (k : P (shD (p + q))) : c_plus T [shD p, shD q] P X := ⟨p, q, n, m, rfl, h1, h2, h, k⟩
theorem minus_i {T : Cfg} {p q : Rat} {n m : Nat} {P : D → Prop} {X : XD → Prop} (h1 : Bq n p) (h2 : Bq m q) (h : n + m ≤ 9000) (k : P (shD (p - q))) : c_minus T [shD p, shD q] P X := ⟨p, q, n, m, rfl, h1, h2, h, k⟩
theorem times_i {T : Cfg} {p q : Rat} {n m : Nat} {P : D → Prop} {X : XD → Prop} (h1 : Bq n p) (h2 : Bq m q) (h : n + m ≤ 9000) (k : P (shD (p * q))) : c_times T [shD p, shD q] P X := ⟨p, q, n, m, rfl, h1, h2, h, k⟩
theorem less_i {T : Cfg} {p q : Rat} {n m : Nat} {P : D → Prop} {X : XD → Prop} (h1 : Bq n p) (h2 : Bq m q) (h : n + m ≤ 9000) (k : P (.bl (decide (p < q)))) : c_less T [shD p, shD q] P X := ⟨p, q, n, m, rfl, h1, h2, h, k⟩
class Sz (q : Rat) (n : outParam Nat) : Prop where
  ok : Bq n q
instance sz_add {p q : Rat} {n m : Nat} [h : Sz p n] [k : Sz q m] : Sz (p + q) (n + m + 1) := ⟨h.ok.add k.ok⟩
instance sz_sub {p q : Rat} {n m : Nat} [h : Sz p n] [k : Sz q m] : Sz (p - q) (n + m + 1) := ⟨h.ok.sub k.ok⟩
instance sz_mul {p q : Rat} {n m : Nat} [h : Sz p n] [k : Sz q m] : Sz (p * q) (n + m + 1) := ⟨bq_mul h.ok k.ok⟩
instance sz_div {p q : Rat} {n m : Nat} [h : Sz p n] [k : Sz q m] : Sz (p / q) (n + m + 1) := ⟨bq_div h.ok k.ok⟩
instance sz_0 : Sz ((0 : Int) : Rat) 1 := ⟨⟨by decide, by decide⟩⟩
instance sz_1 : Sz ((1 : Int) : Rat) 2 := ⟨⟨by decide, by decide⟩⟩
theorem plus_s {T : Cfg} {p q : Rat} {n m : Nat} {P : D → Prop} {X : XD → Prop} [h1 : Sz p n] [h2 : Sz q m] (h : n + m ≤ 9000) (k : P (shD (p + q))) : c_plus T [shD p, shD q] P X := plus_i h1.ok h2.ok h k
theorem minus_s {T : Cfg} {p q : Rat} {n m : Nat} {P : D → Prop} {X : XD → Prop} [h1 : Sz p n] [h2 : Sz q m] (h : n + m ≤ 9000) (k : P (shD (p - q))) : c_minus T [shD p, shD q] P X := minus_i h1.ok h2.ok h k
theorem times_s {T : Cfg} {p q : Rat} {n m : Nat} {P : D → Prop} {X : XD → Prop} [h1 : Sz p n] [h2 : Sz q m] (h : n + m ≤ 9000) (k : P (shD (p * q))) : c_times T [shD p, shD q] P X := times_i h1.ok h2.ok h k
theorem less_s {T : Cfg} {p q : Rat} {n m : Nat} {P : D → Prop} {X : XD → Prop} [h1 : Sz p n] [h2 : Sz q m] (h : n + m ≤ 9000) (k : P (.bl (decide (p < q)))) : c_less T [shD p, shD q] P X := less_i h1.ok h2.ok h k
theorem put_swap {m : Mu} {a p : Addr} {x y w : MO} (h : p ≠ a) : put (put (put m p x) a w) p y = put (put m p y) a w := by
  funext b
  unfold put
  by_cases e1 : b = p
  · subst e1
    simp [h]
  · simp [e1]
theorem put_look {m : Mu} {a p : Addr} {x w : MO} (h : p ≠ a) : put (put m p x) a w p = some x := by
  unfold put
  simp [h]
theorem d_add {a b c d : Int} (hb : b ≠ 0) (hd : d ≠ 0) : Rat.divInt (a * d + c * b) (b * d) = Rat.divInt a b + Rat.divInt c d := (Rat.divInt_add_divInt a c hb hd).symm
theorem d_sub {a b c d : Int} (hb : b ≠ 0) (hd : d ≠ 0) : Rat.divInt (a * d - c * b) (b * d) = Rat.divInt a b - Rat.divInt c d := (Rat.divInt_sub_divInt a c hb hd).symm
theorem d_mul {a b c d : Int} : Rat.divInt (a * c) (b * d) = Rat.divInt a b * Rat.divInt c d := (Rat.divInt_mul_divInt a c).symm
theorem d_less {a b c d : Int} (hb : b ≠ 0) (hd : d ≠ 0) : decide (Rat.divInt a b < Rat.divInt c d) = decide ((a * d - c * b) * b * d < 0) := by
  rw [decide_eq_decide, Rat.divInt_eq_div, Rat.divInt_eq_div]
  have hb' : (b : Rat) ≠ 0 := by simpa using hb
  have hd' : (d : Rat) ≠ 0 := by simpa using hd
  have e : (((a * d - c * b) * b * d : Int) : Rat) = ((a : Rat) / b - (c : Rat) / d) * (((b : Rat) * d) * ((b : Rat) * d)) := by
    simp only [Rat.intCast_mul, Rat.intCast_sub]
    grind
  have hp : 0 < ((b : Rat) * d) * ((b : Rat) * d) := by
    have h0 : (b : Rat) * d ≠ 0 := by grind
    generalize (b : Rat) * d = z at h0
    by_cases h : 0 < z
    · exact Rat.mul_pos h h
    · have := Rat.mul_pos (a := -z) (b := -z) (by grind) (by grind)
      grind
  have hi : ((a * d - c * b) * b * d < 0) ↔ (((a * d - c * b) * b * d : Int) : Rat) < 0 := by
    rw [show (0 : Rat) = ((0 : Int) : Rat) from rfl, Rat.intCast_lt_intCast]
  rw [hi, e]
  generalize (a : Rat) / b = x
  generalize (c : Rat) / d = y
  generalize ((b : Rat) * d) * ((b : Rat) * d) = z at hp ⊢
  constructor
  · intro h
    have := Rat.mul_pos (a := y - x) (b := z) (by grind) hp
    grind
  · intro h
    by_cases w : x < y
    · exact w
    · by_cases w2 : x = y
      · subst w2; grind
      · have := Rat.mul_pos (a := x - y) (b := z) (by grind) hp
        grind
end Far
local macro_rules | `(tactic| walk_at "pw") => `(tactic| first
  | (with_reducible refine Pw.ev_op ?_)
  | ((with_reducible refine Pw.ev_var (d := ?d) ?h ?_); (case h => rfl))
  | (with_reducible refine Pw.ev_int ?_)
  | (with_reducible refine Pw.ev_bl ?_)
  | (with_reducible refine Pw.ev_str ?_)
  | (with_reducible refine Pw.ev_non ?_)
  | (with_reducible refine Pw.ev_ty ?_)
  | (with_reducible refine Pw.ev_ref ?_)
  | (with_reducible refine Pw.ev_cb ?_)
  | (with_reducible refine Pw.ev_un ?_)
  | (with_reducible refine Pw.ea_cons ?_)
  | (with_reducible refine Pw.ea_nil ?_)
  | (with_reducible refine Pw.ev_cal0 ?_)
  | (with_reducible refine Pw.ev_calN ?_)
  | (with_reducible refine Pw.ev_mak0 ?_)
  | (with_reducible refine Pw.ev_mak1 ?_)
  | (with_reducible refine Pw.ev_if ?_)
  | (with_reducible refine Pw.ev_and ?_)
  | (with_reducible refine Pw.ev_or ?_)
  | (with_reducible refine Pw.ev_not ?_)
  | (with_reducible refine Pw.tv_test ?_)
  | (with_reducible refine Pw.tv_B ?_)
  | (with_reducible refine Pw.tv_and ?_)
  | (with_reducible refine Pw.tv_or ?_)
  | (with_reducible refine Pw.tv_not ?_)
  | (with_reducible refine Pw.tv_yes ?_)
  | (with_reducible refine Pw.po_no ?_)
  | (with_reducible refine Pw.po_so ?_)
  | (with_reducible refine Pw.sv_seq ?_)
  | (with_reducible refine Pw.sv_asg ?_)
  | (with_reducible refine Pw.sv_ret ?_)
  | (with_reducible refine Pw.sv_if ?_)
  | (with_reducible refine Pw.sv_par ?_)
  | (with_reducible refine Pw.sv_next ?_)
  | (with_reducible refine Pw.sv_app ?_)
  | (with_reducible refine Pw.sv_drop ?_)
  | (with_reducible refine Pw.sv_fld ?_)
  | (with_reducible refine Pw.ov_add ?_)
  | (with_reducible refine Pw.ov_sub ?_)
  | (with_reducible refine Pw.ov_lt ?_)
  | (with_reducible refine Pw.ov_le ?_)
  | (with_reducible refine Pw.ov_gt ?_)
  | (with_reducible refine Pw.ov_ge ?_)
  | (with_reducible refine Pw.ov_eqI ?_)
  | (with_reducible refine Pw.ov_neI ?_)
  | (with_reducible refine Pw.ov_eqS ?_)
  | (with_reducible refine Pw.ov_neS ?_)
  | (with_reducible refine Pw.ov_eqB ?_)
  | (with_reducible refine Pw.ov_neB ?_)
  | (with_reducible refine Pw.cv_abs ?_)
  | ((with_reducible refine Pw.ov_ixT (e := ?e) ?h ?_); (case h => rfl))
  | ((with_reducible refine Pw.ov_ixM (ds := ?ds) (e := ?e) ?hm ?h ?_); (case hm => exact Pw.put_same); (case h => rfl))
  | ((with_reducible refine Pw.ov_pow ?h ?_); (case h => exact ⟨by decide, by decide, by decide⟩))
  | ((with_reducible refine Pw.ov_mod ?h ?_); (case h => decide))
  | (with_reducible refine Pw.ev_tup ?_)
  | ((with_reducible refine And.intro (show _ ≤ 100000 from ?hl) ?_); (case hl => (simp; done)))
  | (with_reducible refine Pw.cv_intB ?_)
  | (with_reducible refine Pw.uv_neg ?_)
  | (with_reducible refine Pw.seqK_nx ?_)
  | (with_reducible refine Pw.seqK_rt ?_)
  | (with_reducible refine Pw.seqK_xr ?_)
  | (with_reducible refine Pw.seqK_ct ?_)
  | (with_reducible refine Pw.seqK_bk ?_)
  | (with_reducible refine Pw.whK_rt ?_)
  | (with_reducible refine Pw.whK_xr ?_)
  | (with_reducible refine Pw.whK_bk ?_)
  | (with_reducible refine Pw.forK_nx ?_)
  | (with_reducible refine Pw.forK_ct ?_)
  | (with_reducible refine Pw.forK_rt ?_)
  | (with_reducible refine Pw.forK_xr ?_)
  | (with_reducible refine Pw.forK_bk ?_)
  | (with_reducible refine Pw.fnK_rt ?_)
  | (with_reducible refine Pw.fnK_nx ?_)
  | (with_reducible refine Pw.fnK_xr ?_))
local macro_rules | `(tactic| walk_at "pl") => `(tactic| first
  | walk_at "pw"
  | (with_reducible refine Pw.ev_lst ?_))
local macro_rules | `(tactic| walk_at "pls") => `(tactic| repeat (walk_at "pl"))
local macro_rules | `(tactic| walk_at "pws") => `(tactic| repeat (walk_at "pw"))
local macro_rules | `(tactic| walk_at "pk") => `(tactic| first
  | ((with_reducible refine Far.ev_mkS0 ?hT ?_); (case hT => assumption))
  | ((with_reducible refine Far.ev_mkS1 ?hT ?_); (case hT => assumption))
  | walk_at "pl"
  | (with_reducible refine Pw.ex_bl ?_)
  | (with_reducible refine Pw.b_tt ?_)
  | (with_reducible refine Pw.b_ff ?_)
  | (with_reducible refine Pw.b_tt' ?_)
  | (with_reducible refine Pw.b_ff' ?_)
  | (with_reducible refine Pw.b_nt ?_)
  | (with_reducible refine Pw.b_nf ?_)
  | (with_reducible refine Pw.b_nt' ?_)
  | (with_reducible refine Pw.b_nf' ?_)
  | (with_reducible refine Pw.b_d ?_)
  | (with_reducible refine Pw.b_d' ?_)
  | (with_reducible refine Pw.b_dn ?_)
  | (with_reducible refine Pw.b_dn' ?_)
  | (with_reducible refine Pw.ex_2 ?_)
  | ((with_reducible refine Far.ev_top ?hT ?_); (case hT => assumption))
  | ((with_reducible refine Far.ev_bot ?hT ?_); (case hT => assumption))
  | (with_reducible refine Far.ex_sh ?_)
  | ((with_reducible refine Far.isi_sh ?hT ?_); (case hT => assumption))
  | (with_reducible refine Far.isi_ib ?_)
  | (with_reducible refine Far.isi_ii ?_)
  | (with_reducible refine Pw.ov_eq2 ?_)
  | (with_reducible refine Pw.ov_ne2 ?_)
  | (with_reducible refine Far.ov_eqP ?_)
  | (with_reducible refine Far.ov_neP ?_)
  | (with_reducible refine Far.ex_ii ?_)
  | (with_reducible refine Far.ex_i ?_)
  | (with_reducible refine Far.ev_wellN ?_)
  | ((with_reducible refine Far.ov_shEq ?hT ?_); (case hT => assumption))
  | ((with_reducible refine Far.ov_shNe ?hT ?_); (case hT => assumption))
  | (with_reducible refine Pw.sv_asg2 ?_)
  | (with_reducible refine Pw.sv_asg3 ?_)
  | (with_reducible refine Pw.tryK_nx ?_)
  | (with_reducible refine Pw.tryK_rt ?_)
  | (with_reducible refine Pw.unK_rt ?_)
  | (with_reducible refine Pw.unK_nx ?_)
  | (with_reducible refine Pw.ex_t2 ?_)
  | (with_reducible refine Pw.ex_t3 ?_))
local macro_rules | `(tactic| walk_at "pks") => `(tactic| repeat (walk_at "pk"))
local macro_rules | `(tactic| walk_at "le") => `(tactic| (repeat (first | exact trivial | refine And.intro rfl ?_)))
local macro_rules | `(tactic| walk_at "po") => `(tactic| first
  | walk_at "pk"
  | ((with_reducible refine Far.plus_s ?h ?_); (case h => decide))
  | ((with_reducible refine Far.minus_s ?h ?_); (case h => decide))
  | ((with_reducible refine Far.times_s ?h ?_); (case h => decide))
  | ((with_reducible refine Far.less_s ?h ?_); (case h => decide)))
local macro_rules | `(tactic| walk_at "pos") => `(tactic| repeat (walk_at "po"))
local macro_rules | `(tactic| walk_at "gn") => `(tactic| first
  | ((refine Far.bN' ?h ?_); (case h => grind))
  | ((refine Far.bN ?h ?_); (case h => grind)))
namespace Far
open PySem PySem.Spec PyProof.Rows L2 Pw
open FM (Bq)
abbrev shL (qs : List Rat) : D := .lst (qs.map shD)
inductive Od where
  | pr (q : Rat) | zero | none | txt | tru
def Od.bq (n : Nat) : Od → Prop
  | .pr q => Bq n q
  | _ => True
def Rows (n m : Nat) (k : Nat) (rows : List (List Rat)) : Prop := rows.length = n ∧ ∀ r ∈ rows, r.length = m ∧ ∀ q ∈ r, Bq k q
theorem ixn {n j : Nat} (h : j < n) : ixN n (j : Int) = some j := by
  unfold ixN
  rw [if_pos (by omega), if_pos (by omega)]
  rfl
theorem sum_setH {ws : List Nat} {j v : Nat} (h : j < ws.length) : (ws.set j v).sum + ws[j] = ws.sum + v := by
  induction ws generalizing j with
  | nil => cases h
  | cons w ws ih =>
    cases j with
    | zero => simp; omega
    | succ j =>
      have := ih (j := j) (by simpa using h)
      simp only [List.set_cons_succ, List.sum_cons, List.getElem_cons_succ]
      omega
theorem sum_castH (ws : List Nat) : (ws.map fun (w : Nat) => (w : Int)).sum = (ws.sum : Int) := by
  induction ws with
  | nil => rfl
  | cons w ws ih => rw [List.map_cons, List.sum_cons, List.sum_cons, ih]; omega
theorem le_sumH : ∀ (ws : List Nat) (w : Nat), w ∈ ws → w ≤ ws.sum
  | v :: ws, w, h => by
    rw [List.sum_cons]
    rcases List.mem_cons.1 h with rfl | h
    · omega
    · have := le_sumH ws w h
      omega
theorem sum_rep0 (n : Nat) : (List.replicate n 0).sum = 0 := by
  induction n with
  | zero => rfl
  | succ n ih => rw [List.replicate_succ, List.sum_cons, ih]
open PySem PySem.Spec PyProof.Rows L2 Pw Cg
def cmD (cm : List (List Int)) : D := .lst (cm.map fun r => .lst (r.map D.int))
def carF (cm : List (List Int)) (h w c : Addr) : List (Str × D) := [("costs", cmD cm), ("have", .ptr h), ("want", .ptr w), ("carried", .ptr c)]
def tabI (X : List Nat) (f : Nat → Int) : List (Key × D) := tab X kI fun x => .int (f x)
def prs (g : G) : List (Nat × Nat) := g.X.flatMap fun x => g.Y.map fun y => (x, y)
def tab2 (g : G) : List (List Key × D) := tab (prs g) k2 fun p => .int (g.f p.1 p.2)
structure CS (cm : List (List Int)) (g : G) : Prop where
  xn : g.X.Nodup
  yn : g.Y.Nodup
  x12 : ∀ x ∈ g.X, x < 12
  y12 : ∀ y ∈ g.Y, y < 12
  at_ : ∀ x y, x ∈ g.X → y ∈ g.Y → ∃ row, cm[x]? = some row ∧ row[y]? = some (g.c x y)
theorem CS.lx {cm : List (List Int)} {g : G} (h : CS cm g) : g.X.length ≤ 12 := by
  have := nodup_len (ks := List.range 12) h.xn fun x hx => List.mem_range.2 (h.x12 x hx)
  simpa using this
theorem CS.ly {cm : List (List Int)} {g : G} (h : CS cm g) : g.Y.length ≤ 12 := by
  have := nodup_len (ks := List.range 12) h.yn fun x hx => List.mem_range.2 (h.y12 x hx)
  simpa using this
theorem prs_len (g : G) : (prs g).length = g.X.length * g.Y.length := by
  unfold prs
  rw [List.length_flatMap]
  induction g.X with
  | nil => simp
  | cons x X ih => rw [List.map_cons, List.sum_cons, ih, List.length_map, List.length_cons, Nat.succ_mul]; omega
theorem CS.lp {cm : List (List Int)} {g : G} (h : CS cm g) : (prs g).length ≤ 144 := by
  rw [prs_len]
  exact Nat.mul_le_mul h.lx h.ly
structure CM (μ : Mu) (s h w c : Addr) (cm : List (List Int)) (g : G) (hv wv : Nat → Int) : Prop where
  self : μ s = some (.ins 2 (carF cm h w c))
  hav : μ h = some (.dK (tabI g.X hv))
  wan : μ w = some (.dK (tabI g.Y wv))
  car : μ c = some (.dT (tab2 g))
  hw : h ≠ w
theorem CM.sh {μ : Mu} {s h w c : Addr} {cm : List (List Int)} {g : G} {hv wv : Nat → Int} (m : CM μ s h w c cm g hv wv) : s ≠ h := fun e => by
  have := m.self; rw [e, m.hav] at this; cases this
theorem CM.sw {μ : Mu} {s h w c : Addr} {cm : List (List Int)} {g : G} {hv wv : Nat → Int} (m : CM μ s h w c cm g hv wv) : s ≠ w := fun e => by
  have := m.self; rw [e, m.wan] at this; cases this
theorem CM.ch {μ : Mu} {s h w c : Addr} {cm : List (List Int)} {g : G} {hv wv : Nat → Int} (m : CM μ s h w c cm g hv wv) : c ≠ h := fun e => by
  have := m.car; rw [e, m.hav] at this; cases this
theorem CM.cs {μ : Mu} {s h w c : Addr} {cm : List (List Int)} {g : G} {hv wv : Nat → Int} (m : CM μ s h w c cm g hv wv) : c ≠ s := fun e => by
  have := m.car; rw [e, m.self] at this; cases this
theorem at_n {ds : List D} {k : Nat} {a : D} (h : ds[k]? = some a) : atI ds (k : Int) = some a := by
  have hk : k < ds.length := (List.getElem?_eq_some_iff.mp h).1
  unfold atI
  rw [ixn hk]
  exact h
theorem fm_one {β : Type} (n : Nat) (g : Nat → Option β) : [n].filterMap g = (g n).toList := by
  rw [List.filterMap_cons]
  cases g n <;> rfl
theorem range_fm {α β : Type} (l : List α) (f : α → Option β) (g : Nat → Option β) (h : ∀ (k : Nat) (hk : k < l.length), g k = f l[k]) : (List.range l.length).filterMap g = l.filterMap f := by
  have key : ∀ n, n ≤ l.length → (List.range n).filterMap g = (l.take n).filterMap f := by
    intro n
    induction n with
    | zero => intro _; simp
    | succ n ih =>
      intro hn
      rw [List.range_succ, List.filterMap_append, ih (by omega), List.take_succ, List.getElem?_eq_getElem (by omega), List.filterMap_append, fm_one, h n (by omega), Option.toList_some, List.filterMap_cons]
      cases f l[n] <;> rfl
  rw [key _ (Nat.le_refl _), List.take_length]
section
variable {α β κ : Type} [DecidableEq α] [DecidableEq κ]
def encL (e : α → κ) (f : β → D) (l : List (α × β)) : List (κ × D) := l.map fun z => (e z.1, f z.2)
theorem enc_look {e : α → κ} (he : ∀ a b, e a = e b → a = b) (f : β → D) (k : α) : ∀ l : List (α × β), lookD (encL e f l) (e k) = (lookD l k).map f := by
  intro l
  induction l with
  | nil => rfl
  | cons z l ih =>
    show lookD ((e z.1, f z.2) :: encL e f l) (e k) = _
    rw [lookD_cons, lookD_cons, ih]
    by_cases h : z.1 = k
    · rw [if_pos h, if_pos (by rw [h])]; rfl
    · rw [if_neg h, if_neg (fun q => h (he _ _ q))]
end
abbrev foD (l : List (N × Int)) : List (List Key × D) := encL k2 D.int l
abbrev ahD (l : List (N × N)) : List (List Key × D) := encL k2 (fun n => D.key (k2 n)) l
abbrev nsD (l : List N) : List D := l.map fun n => D.key (k2 n)
theorem CM.put {μ : Mu} {s h w c a : Addr} {cm : List (List Int)} {g : G} {hv wv : Nat → Int} {z : MO} (m : CM μ s h w c cm g hv wv) (h1 : s ≠ a) (h2 : h ≠ a) (h3 : w ≠ a) (h4 : c ≠ a) : CM (put μ a z) s h w c cm g hv wv :=
  ⟨by rw [put_ne h1]; exact m.self, by rw [put_ne h2]; exact m.hav, by rw [put_ne h3]; exact m.wan, by rw [put_ne h4]; exact m.car, m.hw⟩
theorem CM.fresh {μ : Mu} {s h w c a : Addr} {cm : List (List Int)} {g : G} {hv wv : Nat → Int} (m : CM μ s h w c cm g hv wv) (ha : μ a = none) : s ≠ a ∧ h ≠ a ∧ w ≠ a ∧ c ≠ a :=
  ⟨fun e => (by have := m.self; rw [e, ha] at this; cases this), fun e => (by have := m.hav; rw [e, ha] at this; cases this), fun e => (by have := m.wan; rw [e, ha] at this; cases this), fun e => (by have := m.car; rw [e, ha] at this; cases this)⟩
structure LM (μ : Mu) (c fo ah wa : Addr) (st : L) : Prop where
  gf : μ fo = some (.dT (foD st.fo))
  ga : μ ah = some (.dT (ahD st.ah))
  gw : μ wa = some (.lst (nsD st.wa))
  n1 : fo ≠ ah
  n2 : fo ≠ c
  n3 : ah ≠ c
  d1 : (st.fo.map Prod.fst).Nodup
  d2 : (st.ah.map Prod.fst).Nodup
  d3 : st.wa.Nodup
section
variable {μ : Mu} {s h w c fo ah wa : Addr} {cm : List (List Int)} {g : G} {hv wv : Nat → Int} {st : L}
theorem LM.apart (l : LM μ c fo ah wa st) (m : CM μ s h w c cm g hv wv) : (s ≠ fo ∧ h ≠ fo ∧ w ≠ fo ∧ c ≠ fo) ∧ (s ≠ ah ∧ h ≠ ah ∧ w ≠ ah ∧ c ≠ ah) ∧ (s ≠ wa ∧ h ≠ wa ∧ w ≠ wa ∧ c ≠ wa) ∧ wa ≠ fo ∧ wa ≠ ah := by
  refine ⟨⟨fun e => ?_, fun e => ?_, fun e => ?_, fun e => l.n2 e.symm⟩, ⟨fun e => ?_, fun e => ?_, fun e => ?_, fun e => l.n3 e.symm⟩, ⟨fun e => ?_, fun e => ?_, fun e => ?_, fun e => ?_⟩, fun e => ?_, fun e => ?_⟩
  · have := m.self; rw [e, l.gf] at this; cases this
  · have := m.hav; rw [e, l.gf] at this; cases this
  · have := m.wan; rw [e, l.gf] at this; cases this
  · have := m.self; rw [e, l.ga] at this; cases this
  · have := m.hav; rw [e, l.ga] at this; cases this
  · have := m.wan; rw [e, l.ga] at this; cases this
  · have := m.self; rw [e, l.gw] at this; cases this
  · have := m.hav; rw [e, l.gw] at this; cases this
  · have := m.wan; rw [e, l.gw] at this; cases this
  · have := m.car; rw [e, l.gw] at this; cases this
  · have := l.gw; rw [e, l.gf] at this; cases this
  · have := l.gw; rw [e, l.ga] at this; cases this
theorem In.look {v : N} (h : In st v) : lookD (foD st.fo) (k2 v) = some (.int (lab st v)) := by
  rw [enc_look k2_inj']
  obtain ⟨x, hx⟩ := Option.isSome_iff_exists.1 h
  unfold lab
  rw [hx]
  rfl
end
end Far
namespace Pw
open PySem PySem.Spec PyProof.Rows L2
open Evl (Ex ex_l ex_t fresh_back)
end Pw
namespace Far
open PySem PySem.Spec PyProof.Rows L2 Pw Cg
open FM (Bq)
theorem CM.del {μ : Mu} {s h w c a : Addr} {cm : List (List Int)} {g : G} {hv wv : Nat → Int} (m : CM μ s h w c cm g hv wv) (h1 : s ≠ a) (h2 : h ≠ a) (h3 : w ≠ a) (h4 : c ≠ a) : CM (Pw.del μ a) s h w c cm g hv wv :=
  ⟨by unfold Pw.del; rw [if_neg h1]; exact m.self, by unfold Pw.del; rw [if_neg h2]; exact m.hav, by unfold Pw.del; rw [if_neg h3]; exact m.wan, by unfold Pw.del; rw [if_neg h4]; exact m.car, m.hw⟩
end Far
namespace Pw
open PySem PySem.Spec PyProof.Rows L2
open Evl (Ex ex_l ex_t fresh_back)
end Pw
namespace Far
open PySem PySem.Spec PyProof.Rows L2 Pw Cg
open FM (Bq)
structure Pr (c : Nat → Nat → Int) (n m : Nat) (X Y : List Nat) (hf tf pf qf : Nat → Int) : Prop where
  px : ∀ x ∈ X, pf x = hf x
  qy : ∀ y ∈ Y, qf y = tf y
  qn : ∀ y, y < m → y ∉ Y → (∀ x ∈ X, hf x - c x y ≤ qf y) ∧ ∃ x ∈ X, qf y = hf x - c x y
  pn : ∀ x, x < n → x ∉ X → (∀ y, y < m → pf x ≤ c x y + qf y) ∧ ∃ y, y < m ∧ pf x = c x y + qf y
def more (Y : List Nat) (k : Nat) : List Nat := Y ++ (List.range k).filter fun y => decide (y ∉ Y)
open PySem PySem.Spec PyProof.Rows L2 Pw
structure FS where
  hr : List Nat
  wr : List Nat
  rows : List (List Nat)
  sp : List (Nat × Nat)
def FS.amt (s : FS) (x y : Nat) : Nat := min (s.hr.getD x 0) (s.wr.getD y 0)
def FS.step (s : FS) (k x y : Nat) : FS := ⟨s.hr.set x (s.hr.getD x 0 - s.amt x y), s.wr.set y (s.wr.getD y 0 - s.amt x y), s.rows.set x ((s.rows.getD x []).set y (s.amt x y)), s.sp.eraseIdx k⟩
inductive FS.To (s : FS) : FS → Prop
  | refl : FS.To s s
  | step {t : FS} {k x y : Nat} (h : FS.To s t) (hk : t.sp[k]? = some (x, y)) : FS.To s (t.step k x y)
def grid (n m : Nat) : List (Nat × Nat) := (List.range n).flatMap fun x => (List.range m).map fun y => (x, y)
def FS.start (hs ws : List Nat) : FS := ⟨hs, ws, List.replicate hs.length (List.replicate ws.length 0), grid hs.length ws.length⟩
structure FS.Wk (n m N : Nat) (s : FS) : Prop where
  lh : s.hr.length = n
  lw : s.wr.length = m
  bh : ∀ h ∈ s.hr, h ≤ N
  bw : ∀ h ∈ s.wr, h ≤ N
  lr : s.rows.length = n
  br : ∀ r ∈ s.rows, r.length = m ∧ ∀ h ∈ r, h ≤ N
  bs : ∀ z ∈ s.sp, z.1 < n ∧ z.2 < m
theorem mem_setD {α : Type} {l : List α} {i : Nat} {v x : α} (h : x ∈ l.set i v) : x = v ∨ x ∈ l := by
  rcases List.mem_or_eq_of_mem_set h with h | h
  · exact .inr h
  · exact .inl h
theorem getD_memH {l : List Nat} {i : Nat} (h : i < l.length) : l.getD i 0 ∈ l := by
  rw [List.getD_eq_getElem?_getD, List.getElem?_eq_getElem h]
  exact List.getElem_mem h
theorem FS.Wk.step {n m N : Nat} {s : FS} (h : s.Wk n m N) {k x y : Nat} (hk : s.sp[k]? = some (x, y)) : (s.step k x y).Wk n m N := by
  have hxy := h.bs _ (List.mem_of_getElem? hk)
  have hx : x < n := hxy.1
  have hy : y < m := hxy.2
  have h1 : s.hr.getD x 0 ≤ N := h.bh _ (getD_memH (by rw [h.lh]; exact hx))
  have h2 : s.wr.getD y 0 ≤ N := h.bw _ (getD_memH (by rw [h.lw]; exact hy))
  have ha : s.amt x y ≤ N := by unfold FS.amt; omega
  refine ⟨by simp [FS.step, h.lh], by simp [FS.step, h.lw], fun z hz => ?_, fun z hz => ?_, by simp [FS.step, h.lr], fun r hr => ?_, fun z hz => ?_⟩
  · rcases mem_setD hz with e | e
    · omega
    · exact h.bh z e
  · rcases mem_setD hz with e | e
    · omega
    · exact h.bw z e
  · rcases mem_setD hr with e | e
    · have hr0 : s.rows.getD x [] ∈ s.rows := by
        rw [List.getD_eq_getElem?_getD, List.getElem?_eq_getElem (by rw [h.lr]; exact hx)]
        exact List.getElem_mem _
      have := h.br _ hr0
      subst e
      refine ⟨by rw [List.length_set]; exact this.1, fun z hz => ?_⟩
      rcases mem_setD hz with e | e
      · omega
      · exact this.2 z e
    · exact h.br r e
  · exact h.bs z (List.mem_of_mem_eraseIdx hz)
theorem FS.To.wk {n m N : Nat} {s t : FS} (h : s.Wk n m N) (k : s.To t) : t.Wk n m N := by
  induction k with
  | refl => exact h
  | step _ hk ih => exact ih.step hk
theorem FS.To.len {s t : FS} (k : s.To t) : t.sp.length ≤ s.sp.length := by
  induction k with
  | refl => exact Nat.le_refl _
  | @step t k x y _ hk ih =>
    have : (t.sp.eraseIdx k).length ≤ t.sp.length := List.length_eraseIdx_le _ _
    exact Nat.le_trans this ih
theorem grid_mem {n m : Nat} {z : Nat × Nat} (h : z ∈ grid n m) : z.1 < n ∧ z.2 < m := by
  unfold grid at h
  rw [List.mem_flatMap] at h
  obtain ⟨x, hx, h⟩ := h
  rw [List.mem_map] at h
  obtain ⟨y, hy, rfl⟩ := h
  exact ⟨List.mem_range.mp hx, List.mem_range.mp hy⟩
theorem grid_succ (n m : Nat) : grid (n + 1) m = grid n m ++ (List.range m).map fun y => (n, y) := by
  unfold grid
  rw [List.range_succ, List.flatMap_append]
  simp
theorem getD_set {l : List Nat} {i j v : Nat} (h : i < l.length) : (l.set i v).getD j 0 = if j = i then v else l.getD j 0 := by
  rw [List.getD_eq_getElem?_getD, List.getElem?_set]
  by_cases e : i = j
  · subst e
    simp [h]
  · rw [if_neg e, if_neg (fun z => e z.symm), ← List.getD_eq_getElem?_getD]
theorem getD_setR {l : List (List Nat)} {i j : Nat} {v : List Nat} (h : i < l.length) : (l.set i v).getD j [] = if j = i then v else l.getD j [] := by
  rw [List.getD_eq_getElem?_getD, List.getElem?_set]
  by_cases e : i = j
  · subst e
    simp [h]
  · rw [if_neg e, if_neg (fun z => e z.symm), ← List.getD_eq_getElem?_getD]
theorem sum_setD {l : List Nat} {i v : Nat} (h : i < l.length) : (l.set i v).sum + l.getD i 0 = l.sum + v := by
  have := sum_setH (v := v) h
  rw [List.getD_eq_getElem?_getD, List.getElem?_eq_getElem h]
  exact this
def colN (rows : List (List Nat)) (j : Nat) : Nat := (rows.map fun r => r.getD j 0).sum
theorem col_set {rows : List (List Nat)} {i j : Nat} {v : List Nat} (h : i < rows.length) : colN (rows.set i v) j + (rows.getD i []).getD j 0 = colN rows j + v.getD j 0 := by
  unfold colN
  rw [List.map_set]
  have := sum_setD (l := rows.map fun r => r.getD j 0) (v := v.getD j 0) (by rw [List.length_map]; exact h)
  have e : (rows.map fun r => r.getD j 0).getD i 0 = (rows.getD i []).getD j 0 := by
    rw [List.getD_eq_getElem?_getD (l := rows.map _), List.getElem?_map, List.getD_eq_getElem?_getD (l := rows), List.getElem?_eq_getElem h]
    rfl
  rw [e] at this
  exact this
structure FS.Iv (hs ws : List Nat) (s : FS) : Prop where
  nd : s.sp.Nodup
  ri : ∀ i, i < hs.length → (s.rows.getD i []).sum + s.hr.getD i 0 = hs.getD i 0
  ci : ∀ j, j < ws.length → colN s.rows j + s.wr.getD j 0 = ws.getD j 0
  ze : ∀ x y, (x, y) ∈ s.sp → (s.rows.getD x []).getD y 0 = 0
  vi : ∀ x y, x < hs.length → y < ws.length → (x, y) ∉ s.sp → s.hr.getD x 0 = 0 ∨ s.wr.getD y 0 = 0
  eq : s.hr.sum = s.wr.sum
theorem FS.Iv.step {hs ws : List Nat} {N : Nat} {s : FS} (h : s.Iv hs ws) (wk : s.Wk hs.length ws.length N) {k x y : Nat} (hk : s.sp[k]? = some (x, y)) : (s.step k x y).Iv hs ws := by
  have hxy := wk.bs _ (List.mem_of_getElem? hk)
  have hx : x < hs.length := hxy.1
  have hy : y < ws.length := hxy.2
  have lx : x < s.hr.length := by rw [wk.lh]; exact hx
  have ly : y < s.wr.length := by rw [wk.lw]; exact hy
  have lr : x < s.rows.length := by rw [wk.lr]; exact hx
  have lry : y < (s.rows.getD x []).length := by
    have : s.rows.getD x [] ∈ s.rows := by
      rw [List.getD_eq_getElem?_getD, List.getElem?_eq_getElem lr]
      exact List.getElem_mem _
    rw [(wk.br _ this).1]
    exact hy
  have hz := h.ze x y (List.mem_of_getElem? hk)
  have a1 : s.amt x y ≤ s.hr.getD x 0 := Nat.min_le_left _ _
  have a2 : s.amt x y ≤ s.wr.getD y 0 := Nat.min_le_right _ _
  have a3 : s.amt x y = s.hr.getD x 0 ∨ s.amt x y = s.wr.getD y 0 := by unfold FS.amt; omega
  have mem : ∀ z, z ∈ s.sp.eraseIdx k → z ∈ s.sp ∧ z ≠ (x, y) := fun z hz => by
    rw [List.mem_eraseIdx_iff_getElem?] at hz
    obtain ⟨i, hi, e⟩ := hz
    refine ⟨List.mem_of_getElem? e, fun ez => hi ?_⟩
    subst ez
    exact (List.getElem?_inj (List.getElem?_eq_some_iff.mp e).1 h.nd).mp (e.trans hk.symm)
  have nmem : ∀ z, z ∉ s.sp.eraseIdx k → z ≠ (x, y) → z ∉ s.sp := fun z hz hne hm => by
    obtain ⟨i, hi⟩ := List.getElem?_of_mem hm
    refine hz (List.mem_eraseIdx_iff_getElem?.mpr ⟨i, fun e => ?_, hi⟩)
    subst e
    rw [hk] at hi
    exact hne (Option.some.inj hi).symm
  refine ⟨h.nd.sublist (List.eraseIdx_sublist _ _), fun i hi => ?_, fun j hj => ?_, fun x' y' hm => ?_, fun x' y' hx' hy' hm => ?_, ?_⟩
  · show ((s.rows.set x _).getD i []).sum + (s.hr.set x _).getD i 0 = _
    rw [getD_setR lr, getD_set lx]
    have := h.ri i hi
    by_cases e : i = x
    · subst e
      rw [if_pos rfl, if_pos rfl]
      have hs' := sum_setD (v := s.amt i y) lry
      omega
    · rw [if_neg e, if_neg e]
      exact this
  · show colN (s.rows.set x _) j + (s.wr.set y _).getD j 0 = _
    have := h.ci j hj
    have hc := col_set (j := j) (v := (s.rows.getD x []).set y (s.amt x y)) lr
    rw [getD_set lry] at hc
    rw [getD_set ly]
    by_cases e : j = y
    · subst e
      rw [if_pos rfl] at hc ⊢
      omega
    · rw [if_neg e] at hc ⊢
      omega
  · obtain ⟨hm', hne⟩ := mem _ hm
    show ((s.rows.set x _).getD x' []).getD y' 0 = 0
    rw [getD_setR lr]
    by_cases e : x' = x
    · subst e
      rw [if_pos rfl, getD_set lry, if_neg (fun z => hne (by rw [z]))]
      exact h.ze x' y' hm'
    · rw [if_neg e]
      exact h.ze x' y' hm'
  · show (s.hr.set x _).getD x' 0 = 0 ∨ (s.wr.set y _).getD y' 0 = 0
    rw [getD_set lx, getD_set ly]
    by_cases e : (x', y') = (x, y)
    · cases e
      rw [if_pos rfl, if_pos rfl]
      omega
    · have := h.vi x' y' hx' hy' (nmem _ hm e)
      rcases this with q | q
      · left
        split
        · rename_i e; subst e; omega
        · exact q
      · right
        split
        · rename_i e; subst e; omega
        · exact q
  · show (s.hr.set x _).sum = (s.wr.set y _).sum
    have e1 := sum_setD (v := s.hr.getD x 0 - s.amt x y) lx
    have e2 := sum_setD (v := s.wr.getD y 0 - s.amt x y) ly
    have := h.eq
    omega
theorem grid_nodup (n m : Nat) : (grid n m).Nodup := by
  induction n with
  | zero => simp [grid]
  | succ n ih =>
    rw [grid_succ, List.nodup_append]
    refine ⟨ih, ?_, fun a ha b hb => ?_⟩
    · rw [List.Nodup, List.pairwise_map]
      exact List.Pairwise.imp (fun h e => h (by injection e)) List.nodup_range
    · obtain ⟨y, _, rfl⟩ := List.mem_map.1 hb
      have := (grid_mem ha).1
      intro e
      rw [e] at this
      simp at this
theorem col_rep (n m j : Nat) : colN (List.replicate n (List.replicate m 0)) j = 0 := by
  unfold colN
  rw [List.map_replicate]
  have : (List.replicate m 0).getD j 0 = 0 := by
    rw [List.getD_eq_getElem?_getD, List.getElem?_replicate]
    split <;> rfl
  rw [this]
  exact sum_rep0 n
theorem grid_has {n m x y : Nat} (hx : x < n) (hy : y < m) : (x, y) ∈ grid n m := by
  unfold grid
  rw [List.mem_flatMap]
  exact ⟨x, List.mem_range.mpr hx, List.mem_map.mpr ⟨y, List.mem_range.mpr hy, rfl⟩⟩
theorem start_iv {hs ws : List Nat} (he : hs.sum = ws.sum) : (FS.start hs ws).Iv hs ws := by
  refine ⟨grid_nodup _ _, fun i hi => ?_, fun j hj => ?_, fun x y hm => ?_, fun x y hx hy hm => absurd (grid_has hx hy) hm, he⟩
  · show ((List.replicate hs.length (List.replicate ws.length 0)).getD i []).sum + hs.getD i 0 = _
    rw [List.getD_eq_getElem?_getD, List.getElem?_replicate, if_pos hi]
    show (List.replicate ws.length 0).sum + _ = _
    rw [sum_rep0]
    omega
  · show colN (List.replicate _ _) j + ws.getD j 0 = _
    rw [col_rep]
    omega
  · show ((List.replicate hs.length (List.replicate ws.length 0)).getD x []).getD y 0 = 0
    rw [List.getD_eq_getElem?_getD (l := List.replicate hs.length _), List.getElem?_replicate]
    split
    · show (List.replicate ws.length 0).getD y 0 = 0
      rw [List.getD_eq_getElem?_getD, List.getElem?_replicate]
      split <;> rfl
    · rfl
theorem FS.To.iv {hs ws : List Nat} {N : Nat} {t : FS} (w0 : (FS.start hs ws).Wk hs.length ws.length N) (he : hs.sum = ws.sum) (k : (FS.start hs ws).To t) : t.Iv hs ws := by
  induction k with
  | refl => exact start_iv he
  | step h hk ih => exact ih.step (h.wk w0) hk
def Od.val : Od → Rat
  | .pr q => q
  | _ => 0
def wh (q : Rat) (k : Nat) : Int := q.num * ((k / q.den : Nat) : Int)
structure HandB (costs : List (List Rat)) (fs ss : List Rat) (b hb mb N M : Nat) : Prop where
  b80 : b ≤ 1500
  h60 : hb ≤ 600
  h1 : 1 ≤ hb
  m15 : mb ≤ 1500
  f1 : 1 ≤ fs.length
  f2 : fs.length ≤ 12
  s1 : 1 ≤ ss.length
  s2 : ss.length ≤ 12
  fq : ∀ q ∈ fs, 0 ≤ q ∧ Bq hb q ∧ q.den ∣ N
  sq : ∀ q ∈ ss, 0 ≤ q ∧ Bq hb q ∧ q.den ∣ N
  fsum : fs.sum = 1
  ssum : ss.sum = 1
  cl : costs.length = fs.length
  cr : ∀ r ∈ costs, r.length = ss.length ∧ ∀ q ∈ r, 0 ≤ q ∧ Bq b q ∧ q.den ∣ M
  n0 : 0 < N
  n1 : N < 2 ^ hb
  m0 : 0 < M
  m1 : M < 2 ^ mb
def amt (fs : List Rat) (k : Nat) (x : Nat) : Int := wh (fs.getD x 0) k
def plc (fs : List Rat) (k : Nat) : List Nat := (List.range fs.length).filter fun x => decide (0 < amt fs k x)
def cst (costs : List (List Rat)) (j : Nat) (x y : Nat) : Int := wh ((costs.getD x []).getD y 0) j
theorem plc_mem {fs : List Rat} {k x : Nat} : x ∈ plc fs k ↔ x < fs.length ∧ 0 < amt fs k x := by
  unfold plc
  rw [List.mem_filter, List.mem_range, decide_eq_true_iff]
theorem wh_nn {q : Rat} {k : Nat} (h : 0 ≤ q) : 0 ≤ wh q k := Int.mul_nonneg (Rat.num_nonneg.2 h) (Int.natCast_nonneg _)
theorem wh_rat {q : Rat} {k : Nat} (h : q.den ∣ k) : ((wh q k : Int) : Rat) = q * (k : Rat) := by
  obtain ⟨m, rfl⟩ := h
  unfold wh
  rw [Nat.mul_div_cancel_left _ q.den_pos]
  have hd : (q.den : Rat) ≠ 0 := by
    intro h
    have : q.den = 0 := by exact_mod_cast h
    exact q.den_nz this
  have e : (q.num : Rat) = q * (q.den : Rat) := by
    have h1 : (q.num : Rat) / (q.den : Rat) = q := by
      have := Rat.divInt_eq_div q.num (q.den : Int)
      rw [Rat.num_divInt_den, Rat.intCast_natCast] at this
      exact this.symm
    have h2 : (q.num : Rat) / (q.den : Rat) * (q.den : Rat) = (q.num : Rat) := Rat.div_mul_cancel hd
    rw [h1] at h2
    exact h2.symm
  rw [Rat.intCast_mul, Rat.intCast_natCast, e, Rat.natCast_mul, Rat.mul_assoc]
theorem amt_nn {fs : List Rat} (h : ∀ q ∈ fs, 0 ≤ q) (k x : Nat) : 0 ≤ amt fs k x := by
  unfold amt
  refine wh_nn ?_
  rw [List.getD_eq_getElem?_getD]
  by_cases hx : x < fs.length
  · rw [List.getElem?_eq_getElem hx]
    exact h _ (List.getElem_mem hx)
  · rw [List.getElem?_eq_none (by omega)]
    exact Rat.le_refl
structure Done (costs : List (List Rat)) (fs ss : List Rat) (N M k j : Nat) (f : Nat → Nat → Int) (hv wv : Nat → Int) (st : L) (pf qf : Nat → Int) : Prop where
  k0 : 0 < k
  kN : k ∣ N
  kf : ∀ q ∈ fs, q.den ∣ k
  ks : ∀ q ∈ ss, q.den ∣ k
  j0 : 0 < j
  jM : j ∣ M
  jc : ∀ r ∈ costs, ∀ q ∈ r, q.den ∣ j
  ci : CI ⟨cst costs j, plc fs k, plc ss k, f⟩ hv wv (amt fs k) (amt ss k)
  hz : ∀ x ∈ plc fs k, hv x = 0
  fin : Fin ⟨cst costs j, plc fs k, plc ss k, f⟩ (Vl ⟨cst costs j, plc fs k, plc ss k, f⟩) st
  pr : Pr (cst costs j) fs.length ss.length (plc fs k) (plc ss k) (fun x => 0 - lab st (0, x)) (fun y => 0 - lab st (1, y)) pf qf
def sm (n : Nat) (f : Nat → Rat) : Rat := ((List.range n).map f).sum
theorem sum_app (l m : List Rat) : (l ++ m).sum = l.sum + m.sum := by
  induction l with
  | nil => rw [List.nil_append, List.sum_nil, Rat.zero_add]
  | cons a l ih => rw [List.cons_append, List.sum_cons, List.sum_cons, ih, Rat.add_assoc]
theorem sm_zero (f : Nat → Rat) : sm 0 f = 0 := rfl
theorem sm_succ (n : Nat) (f : Nat → Rat) : sm (n + 1) f = sm n f + f n := by
  unfold sm
  rw [List.range_succ, List.map_append, sum_app]
  show _ + (f n + 0) = _
  rw [Rat.add_zero]
theorem sm_congr {n : Nat} {f g : Nat → Rat} (h : ∀ x, x < n → f x = g x) : sm n f = sm n g := by
  induction n with
  | zero => rfl
  | succ n ih => rw [sm_succ, sm_succ, ih fun x hx => h x (by omega), h n (by omega)]
theorem sm_add (n : Nat) (f g : Nat → Rat) : sm n (fun x => f x + g x) = sm n f + sm n g := by
  induction n with
  | zero => rw [sm_zero, sm_zero, sm_zero, Rat.add_zero]
  | succ n ih => rw [sm_succ, sm_succ, sm_succ, ih]; grind
theorem sm_sub (n : Nat) (f g : Nat → Rat) : sm n (fun x => f x - g x) = sm n f - sm n g := by
  induction n with
  | zero => rw [sm_zero, sm_zero, sm_zero]; grind
  | succ n ih => rw [sm_succ, sm_succ, sm_succ, ih]; grind
theorem sm_mul (n : Nat) (a : Rat) (f : Nat → Rat) : sm n (fun x => a * f x) = a * sm n f := by
  induction n with
  | zero => rw [sm_zero, sm_zero, Rat.mul_zero]
  | succ n ih => rw [sm_succ, sm_succ, ih, Rat.mul_add]
theorem sm_0 (n : Nat) : sm n (fun _ => 0) = 0 := by
  induction n with
  | zero => rfl
  | succ n ih => rw [sm_succ, ih, Rat.add_zero]
theorem sm_swap (n m : Nat) (f : Nat → Nat → Rat) : sm n (fun x => sm m fun y => f x y) = sm m fun y => sm n fun x => f x y := by
  induction n with
  | zero => rw [sm_zero]; exact (sm_0 m).symm
  | succ n ih =>
    rw [sm_succ, ih, ← sm_add]
    exact sm_congr fun y _ => (sm_succ n fun x => f x y).symm
theorem sm_le {n : Nat} {f g : Nat → Rat} (h : ∀ x, x < n → f x ≤ g x) : sm n f ≤ sm n g := by
  induction n with
  | zero => exact Rat.le_refl
  | succ n ih =>
    rw [sm_succ, sm_succ]
    have h1 := ih fun x hx => h x (by omega)
    have h2 := h n (by omega)
    grind
structure Opt (n m : Nat) (c : Nat → Nat → Rat) (f s : Nat → Rat) (π : Nat → Nat → Rat) (p q : Nat → Rat) : Prop where
  nn : ∀ x y, x < n → y < m → 0 ≤ π x y
  row : ∀ x, x < n → sm m (π x) = f x
  col : ∀ y, y < m → sm n (fun x => π x y) = s y
  le : ∀ x y, x < n → y < m → p x - q y ≤ c x y
  tight : ∀ x y, x < n → y < m → π x y ≠ 0 → p x - q y = c x y
theorem Opt.eq {n m : Nat} {c : Nat → Nat → Rat} {f s : Nat → Rat} {π : Nat → Nat → Rat} {p q : Nat → Rat} (h : Opt n m c f s π p q) : sm n (fun x => sm m fun y => c x y * π x y) = sm n (fun x => p x * f x) - sm m fun y => q y * s y := by
  have e1 : sm n (fun x => sm m fun y => c x y * π x y) = sm n fun x => sm m fun y => p x * π x y - q y * π x y := by
    refine sm_congr fun x hx => sm_congr fun y hy => ?_
    by_cases z : π x y = 0
    · rw [z]; grind
    · rw [← h.tight x y hx hy z]; grind
  have e2 : sm n (fun x => sm m fun y => p x * π x y - q y * π x y) = sm n (fun x => p x * f x - sm m fun y => q y * π x y) := by
    refine sm_congr fun x hx => ?_
    rw [sm_sub, sm_mul, h.row x hx]
  rw [e1, e2, sm_sub, sm_swap]
  congr 1
  refine sm_congr fun y hy => ?_
  rw [sm_mul, h.col y hy]
section
variable {costs : List (List Rat)} {fs ss : List Rat} {b hb mb N M k j : Nat} {f : Nat → Nat → Int} {hv wv : Nat → Int} {st : L} {pf qf : Nat → Int}
def Fi (fs ss : List Rat) (k : Nat) (f : Nat → Nat → Int) (x y : Nat) : Int := if x ∈ plc fs k ∧ y ∈ plc ss k then f x y else 0
theorem sum_flt2 (p : Nat → Bool) (g : Nat → Int) : ∀ l : List Nat, ((l.filter p).map g).sum = (l.map fun a => if p a = true then g a else 0).sum := by
  intro l
  induction l with
  | nil => rfl
  | cons a l ih =>
    rw [List.filter_cons, List.map_cons, List.sum_cons, ← ih]
    split
    · rw [List.map_cons, List.sum_cons]
    · omega
theorem sum_z {g : Nat → Int} : ∀ {l : List Nat}, (∀ x ∈ l, g x = 0) → (l.map g).sum = 0 := by
  intro l
  induction l with
  | nil => intro _; rfl
  | cons a l ih => intro h; rw [List.map_cons, List.sum_cons, ih fun x hx => h x (by simp [hx]), h a (by simp)]; rfl
theorem plc_if (fs : List Rat) (k : Nat) (g : Nat → Int) : ((plc fs k).map g).sum = ((List.range fs.length).map fun x => if x ∈ plc fs k then g x else 0).sum := by
  unfold plc
  rw [sum_flt2]
  congr 1
  refine List.map_congr_left fun x hx => ?_
  have : (x ∈ (List.range fs.length).filter fun x => decide (0 < amt fs k x)) ↔ decide (0 < amt fs k x) = true := by
    rw [List.mem_filter]
    exact ⟨fun h => h.2, fun h => ⟨hx, h⟩⟩
  simp only [this]
theorem Done.wz (d : Done costs fs ss N M k j f hv wv st pf qf) : ∀ y ∈ plc ss k, wv y = 0 := fun y hy => by
  have h1 := d.ci.tot
  have h2 : ((plc fs k).map hv).sum = 0 := sum_z d.hz
  have h1 : ((plc fs k).map hv).sum = ((plc ss k).map wv).sum := h1
  have h3 := sum_gt d.ci.w0 hy
  have h3 : wv y ≤ ((plc ss k).map wv).sum := h3
  have h4 := d.ci.w0 y hy
  omega
theorem amt_z (hd : ∀ q ∈ fs, 0 ≤ q) {x : Nat} (hx : x < fs.length) (h : x ∉ plc fs k) : amt fs k x = 0 := by
  have h1 := amt_nn hd k x
  have h2 : ¬ 0 < amt fs k x := fun q => h (plc_mem.2 ⟨hx, q⟩)
  omega
theorem Done.row (hd : HandB costs fs ss b hb mb N M) (d : Done costs fs ss N M k j f hv wv st pf qf) {x : Nat} (hx : x < fs.length) : ((List.range ss.length).map (Fi fs ss k f x)).sum = amt fs k x := by
  by_cases h : x ∈ plc fs k
  · have h1 := d.ci.row x h
    have h1 : hv x + ((plc ss k).map fun y => f x y).sum = amt fs k x := h1
    rw [d.hz x h, plc_if] at h1
    rw [← h1, Int.zero_add]
    congr 1
    refine List.map_congr_left fun y _ => ?_
    unfold Fi
    simp only [h, true_and]
  · rw [amt_z (fun q h => (hd.fq q h).1) hx h]
    refine sum_z fun y _ => ?_
    unfold Fi
    rw [if_neg fun q => h q.1]
theorem Done.col (hd : HandB costs fs ss b hb mb N M) (d : Done costs fs ss N M k j f hv wv st pf qf) {y : Nat} (hy : y < ss.length) : ((List.range fs.length).map fun x => Fi fs ss k f x y).sum = amt ss k y := by
  by_cases h : y ∈ plc ss k
  · have h1 := d.ci.col y h
    have h1 : wv y + ((plc fs k).map fun x => f x y).sum = amt ss k y := h1
    rw [d.wz y h, plc_if] at h1
    rw [← h1, Int.zero_add]
    congr 1
    refine List.map_congr_left fun x _ => ?_
    unfold Fi
    simp only [h, and_true]
  · rw [amt_z (fun q h => (hd.sq q h).1) hy h]
    refine sum_z fun x _ => ?_
    unfold Fi
    rw [if_neg fun q => h q.2]
theorem Done.fi0 (d : Done costs fs ss N M k j f hv wv st pf qf) (x y : Nat) : 0 ≤ Fi fs ss k f x y := by
  unfold Fi
  split
  · rename_i h; exact d.ci.f0 x y h.1 h.2
  · exact Int.le_refl _
theorem Done.le (d : Done costs fs ss N M k j f hv wv st pf qf) {x y : Nat} (hx : x < fs.length) (hy : y < ss.length) : pf x - qf y ≤ cst costs j x y := by
  by_cases h1 : x ∈ plc fs k
  · rw [d.pr.px x h1]
    by_cases h2 : y ∈ plc ss k
    · rw [d.pr.qy y h2]
      exact (price_ok d.fin h1 h2).1
    · have := (d.pr.qn y hy h2).1 x h1
      omega
  · have := (d.pr.pn x hx h1).1 y hy
    omega
theorem Done.tight (d : Done costs fs ss N M k j f hv wv st pf qf) {x y : Nat} (h : Fi fs ss k f x y ≠ 0) : pf x - qf y = cst costs j x y := by
  have h0 := d.fi0 x y
  unfold Fi at h h0
  split at h
  · rename_i q
    rw [if_pos q] at h0
    rw [d.pr.px x q.1, d.pr.qy y q.2]
    exact (price_ok d.fin q.1 q.2).2 (show 0 < f x y by omega)
  · exact absurd rfl h
end
theorem natR_ne {j : Nat} (h : 0 < j) : (j : Rat) ≠ 0 := by
  intro e
  have : j = 0 := by exact_mod_cast e
  omega
theorem di {a : Int} {j : Nat} : Rat.divInt a (j : Int) = (j : Rat)⁻¹ * (a : Rat) := by
  rw [Rat.divInt_eq_div, Rat.intCast_natCast, Rat.div_def, Rat.mul_comm]
theorem inv_mul {j : Nat} (h : 0 < j) (q : Rat) : (j : Rat)⁻¹ * (q * (j : Rat)) = q := by
  rw [Rat.mul_comm q, ← Rat.mul_assoc, Rat.inv_mul_cancel _ (natR_ne h), Rat.one_mul]
def Bd (D : Nat) (B : Nat) (q : Rat) : Prop := ∃ z : Int, q = Rat.divInt z (D : Int) ∧ z.natAbs ≤ B
theorem Bd.bq {D B n : Nat} {q : Rat} (h : Bd D B q) (hB : B < 2 ^ n) (hD : D < 2 ^ n) (h0 : 0 < n) : Bq n q := by
  obtain ⟨z, rfl, hz⟩ := h
  exact FM.bq_divInt (Nat.lt_of_le_of_lt hz hB) (by rw [Int.natAbs_natCast]; exact hD) h0
theorem Bd.add {D B C : Nat} {p q : Rat} (h : Bd D B p) (k : Bd D C q) : Bd D (B + C) (p + q) := by
  obtain ⟨z, rfl, hz⟩ := h
  obtain ⟨w, rfl, hw⟩ := k
  refine ⟨z + w, ?_, by omega⟩
  rw [di, di, di, Rat.intCast_add, Rat.mul_add]
theorem Bd.zero (D : Nat) : Bd D 0 0 := ⟨0, by rw [di]; simp, by simp⟩
theorem Bd.mono {D B C : Nat} {q : Rat} (h : Bd D B q) (k : B ≤ C) : Bd D C q := by
  obtain ⟨z, e, hz⟩ := h
  exact ⟨z, e, Nat.le_trans hz k⟩
theorem Bd.sum {D B : Nat} : ∀ {qs : List Rat}, (∀ q ∈ qs, Bd D B q) → Bd D (qs.length * B) qs.sum := by
  intro qs
  induction qs with
  | nil => intro _; simpa using Bd.zero D
  | cons q qs ih =>
    intro h
    rw [List.sum_cons, List.length_cons, Nat.succ_mul, Nat.add_comm]
    exact (h q (by simp)).add (ih fun q hq => h q (by simp [hq]))
theorem Bd.mul {D E B C : Nat} {p q : Rat} (h : Bd D B p) (k : Bd E C q) : Bd (D * E) (B * C) (p * q) := by
  obtain ⟨z, rfl, hz⟩ := h
  obtain ⟨w, rfl, hw⟩ := k
  refine ⟨z * w, ?_, by rw [Int.natAbs_mul]; exact Nat.mul_le_mul hz hw⟩
  rw [Int.natCast_mul, Rat.divInt_mul_divInt]
theorem Bd.of {D b : Nat} {q : Rat} (h : Bq b q) (hd : q.den ∣ D) (h0 : 0 < D) : Bd D (2 ^ b * D) q := by
  refine ⟨wh q D, ?_, ?_⟩
  · rw [di, wh_rat hd, inv_mul h0]
  · unfold wh
    rw [Int.natAbs_mul, Int.natAbs_natCast]
    exact Nat.mul_le_mul (Nat.le_of_lt h.1) (Nat.div_le_self _ _)
theorem HandB.rows {costs : List (List Rat)} {fs ss : List Rat} {b hb mb N M : Nat} (hd : HandB costs fs ss b hb mb N M) : Rows fs.length ss.length b costs := ⟨hd.cl, fun r hr => ⟨(hd.cr r hr).1, fun q hq => ((hd.cr r hr).2 q hq).2.1⟩⟩
structure Plan (n m : Nat) (f s : Nat → Rat) (π : Nat → Nat → Rat) : Prop where
  nn : ∀ x y, x < n → y < m → 0 ≤ π x y
  row : ∀ x, x < n → sm m (π x) = f x
  col : ∀ y, y < m → sm n (fun x => π x y) = s y
def Pric (n m : Nat) (c : Nat → Nat → Rat) (p q : Nat → Rat) : Prop := ∀ x y, x < n → y < m → p x - q y ≤ c x y
def cost (n m : Nat) (c π : Nat → Nat → Rat) : Rat := sm n fun x => sm m fun y => c x y * π x y
def brou (n m : Nat) (f s p q : Nat → Rat) : Rat := sm n (fun x => p x * f x) - sm m fun y => q y * s y
theorem wd {n m : Nat} {c : Nat → Nat → Rat} {f s : Nat → Rat} {π : Nat → Nat → Rat} {p q : Nat → Rat} (hp : Plan n m f s π) (hq : Pric n m c p q) : brou n m f s p q ≤ cost n m c π := by
  have e : brou n m f s p q = sm n fun x => sm m fun y => (p x - q y) * π x y := by
    have e1 : (sm n fun x => sm m fun y => (p x - q y) * π x y) = sm n fun x => p x * f x - sm m fun y => q y * π x y := by
      refine sm_congr fun x hx => ?_
      rw [← hp.row x hx, ← sm_mul, ← sm_sub]
      exact sm_congr fun y _ => by grind
    rw [e1, sm_sub, sm_swap]
    unfold brou
    congr 1
    refine sm_congr fun y hy => ?_
    rw [sm_mul, hp.col y hy]
  rw [e]
  exact sm_le fun x hx => sm_le fun y hy => Rat.mul_le_mul_of_nonneg_right (hq x y hx hy) (hp.nn x y hx hy)
section
variable {n m : Nat} {c : Nat → Nat → Rat} {f s : Nat → Rat} {π : Nat → Nat → Rat} {p q : Nat → Rat}
theorem Opt.plan (h : Opt n m c f s π p q) : Plan n m f s π := ⟨h.nn, h.row, h.col⟩
theorem Opt.ceq (h : Opt n m c f s π p q) : cost n m c π = brou n m f s p q := h.eq
theorem Opt.least (h : Opt n m c f s π p q) {π' : Nat → Nat → Rat} (h' : Plan n m f s π') : cost n m c π ≤ cost n m c π' := by
  rw [h.ceq]
  exact wd h' h.le
theorem Opt.most (h : Opt n m c f s π p q) {p' q' : Nat → Rat} (h' : Pric n m c p' q') : brou n m f s p' q' ≤ cost n m c π := wd h.plan h'
theorem sm_nn {f : Nat → Rat} (h : ∀ x, x < n → 0 ≤ f x) : 0 ≤ sm n f := by
  rw [← sm_0 n]
  exact sm_le h
theorem Opt.nonneg (h : Opt n m c f s π p q) (hc : ∀ x y, x < n → y < m → 0 ≤ c x y) : 0 ≤ cost n m c π := sm_nn fun x hx => sm_nn fun y hy => Rat.mul_nonneg (hc x y hx hy) (h.nn x y hx hy)
theorem max_ex : ∀ (n : Nat) (g : Nat → Rat), 0 < n → ∃ r, (∀ x, x < n → g x ≤ r) ∧ ∃ x, x < n ∧ r = g x := by
  intro n g
  induction n with
  | zero => intro h; omega
  | succ n ih =>
    intro _
    by_cases h0 : n = 0
    · subst h0
      exact ⟨g 0, fun x hx => by have : x = 0 := by omega
                                 rw [this]; exact Rat.le_refl, 0, by omega, rfl⟩
    · obtain ⟨r, h1, x, hx, e⟩ := ih (by omega)
      by_cases hc : g n ≤ r
      · refine ⟨r, fun y hy => ?_, x, by omega, e⟩
        by_cases q : y = n
        · rw [q]; exact hc
        · exact h1 y (by omega)
      · refine ⟨g n, fun y hy => ?_, n, by omega, rfl⟩
        by_cases q : y = n
        · rw [q]; exact Rat.le_refl
        · have := h1 y (by omega)
          grind
theorem turned {c' : Nat → Nat → Rat} {π' : Nat → Nat → Rat} {p' q' : Nat → Rat} (h : Opt n m c f s π p q) (h' : Opt m n c' s f π' p' q') (hc : ∀ x y, x < n → y < m → c' y x = c x y) : cost m n c' π' = cost n m c π := by
  have e : ∀ ρ : Nat → Nat → Rat, cost m n c' (fun y x => ρ x y) = cost n m c ρ := fun ρ => by
    unfold cost
    rw [sm_swap]
    exact sm_congr fun x hx => sm_congr fun y hy => by rw [hc x y hx hy]
  have h1 := h'.least (π' := fun y x => π x y) ⟨fun y x hy hx => h.nn x y hx hy, h.col, h.row⟩
  have h1 : cost m n c' π' ≤ cost n m c π := by
    have z := e π
    rw [← z]
    exact h1
  have h2 := h.least (π' := fun x y => π' y x) ⟨fun x y hx hy => h'.nn y x hy hx, h'.col, h'.row⟩
  have e2 := e fun x y => π' y x
  have e2 : cost m n c' π' = cost n m c fun x y => π' y x := e2
  rw [← e2] at h2
  exact Rat.le_antisymm h1 h2
end
abbrev abc : Str := "abcdefghijklmnopqrstuvwxyz"
def nmB (x : Str) : Bool := decide (1 ≤ x.length) && (decide (x.length ≤ 8) && x.cps.toList.all fun c => decide (c ∈ abc.cps.toList))
def nameB : D → Bool
  | .str x => nmB x
  | _ => false
def betw (d : D) (lo hi : Int) : Bool := match d with
  | .int i => decide (lo ≤ i) && decide (i ≤ hi)
  | _ => false
def c_is_between (T : Cfg) : PC := fun ds P _ => ∃ d t lo hi, ds = [d, .int lo, .int hi] ∧ Thing T d t ∧ P (.bl (betw d lo hi))
def c_is_name (T : Cfg) : PC := fun ds P _ => ∃ d t, ds = [d] ∧ Thing T d t ∧ (∀ x, d = .str x → x.length ≤ 100000) ∧ P (.bl (nameB d))
abbrev tenS : List Str := ["a", "ab", "b", "stop", "toss", "abc", "part", "zzzzzzzz", "ba", "aa"]
abbrev lastS : Str := "kqxzjvwmbt"
def NmL (x : Str) : Prop := x ∈ tenS ∨ ∃ c ∈ lastS.cps.toList, x.cps.toList.getLast? = some c
def noNm (y : Str) : Bool := !tenS.contains y && lastS.cps.toList.all fun c => decide (some c ≠ y.cps.toList.getLast?)
theorem NmL.ne {x y : Str} (h : NmL x) (hy : noNm y = true) : x ≠ y := by
  intro e
  subst e
  unfold noNm at hy
  rw [Bool.and_eq_true] at hy
  rcases h with h | ⟨c, hc, h⟩
  · have := hy.1
    rw [List.contains_iff_mem.2 h] at this
    cases this
  · exact of_decide_eq_true (List.all_eq_true.1 hy.2 c hc) h.symm
def c_Lnames (T : Cfg) : Nat → List D → (D → Nat → Prop) → Prop := fun b rest P => ∃ n : Nat, rest = [.int n] ∧ 1 ≤ n ∧ n ≤ 10 ∧ 100 ≤ b ∧ ∀ (xs : List Str) (b' : Nat), xs.length = n → xs.Nodup → (∀ x ∈ xs, nmB x = true) → (∀ x ∈ xs, NmL x) → b ≤ b' + 100 → P (.lst (xs.map D.str)) b'
theorem len_is_between {T : Cfg} : ∀ ds μ P XP, pu (c_is_between T) ds μ P XP → ds.length = 3 := by
  rintro ds μ P XP ⟨rfl, Pf, Xf, ⟨d, t, lo, hi, rfl, _⟩, _⟩; rfl
theorem len_is_name {T : Cfg} : ∀ ds μ P XP, pu (c_is_name T) ds μ P XP → ds.length = 1 := by
  rintro ds μ P XP ⟨rfl, Pf, Xf, ⟨d, t, rfl, _⟩, _⟩; rfl
theorem len_Lnames {T : Cfg} : ∀ ds μ P XP, wl (c_Lnames T) ds μ P XP → ds.length = 2 := by
  rintro ds μ P XP ⟨a, b, rest, rfl, rfl, Pf, ⟨n, rfl, _⟩, _⟩; rfl
def t_is_between (T : Cfg) (E : XK) : TS := (tRet (tAndV (tCall (spOf T (pu (c_is_whole T))) [] E0 (tCons (tVar 0) tNil)) (tChain (rI0 fun i j => .bl (decide (i ≤ j))) (rI0 fun i j => .bl (decide (i ≤ j))) (tVar 1) (tVar 0) (tVar 2))))
def t_is_name (T : Cfg) (E : XK) : TS := (tSeq (tIfS (tOr (tNot (tB (tCB (rIsi T.K) (tCons (tVar 0) (tCons (tC (.ty "str")) tNil))))) (tNot (tTest (tChain (rI0 fun i j => .bl (decide (i ≤ j))) (rI0 fun i j => .bl (decide (i ≤ j))) (tC (.int 1)) (tCB (Pw.rLen T.K) (tCons (tVar 0) tNil)) (tC (.int 8)))))) (tRet (tC (.bl false))) tNext)
    (tRet (tCB (rAll T.K) (tCons (tLc (iStr (tVar 0)) (gName 1) tYes (tOp rInC (tVar 1) (tC (.str "abcdefghijklmnopqrstuvwxyz"))) [1]) tNil))))
def t_Lnames (T : Cfg) (E : XK) : TS := (tSeq (tIfS (tTest (tOp rEq (tCall (spOf T (wl (c_Ldraw T))) [] E0 (tCons (tVar 0) (tCons (tC (.int 3)) tNil))) (tC (.int 0)))) (tSeq (tAsg (tLst (tCons (tC (.str "a")) (tCons (tC (.str "ab")) (tCons (tC (.str "b")) (tCons (tC (.str "stop")) (tCons (tC (.str "toss")) (tCons (tC (.str "abc")) (tCons (tC (.str "part")) (tCons (tC (.str "zzzzzzzz")) (tCons (tC (.str "ba")) (tCons (tC (.str "aa")) tNil))))))))))) (gName 4))
    (tSeq (tAsg (tCall (spOf T (wl (c_Ldraw T))) [] E0 (tCons (tVar 0) (tCons (tC (.int 10)) tNil))) (gName 5))
    (tRet (tSl (rSlL T.K) (tOp rCat (tSl (rSlL T.K) (tVar 4) (tPart (tVar 5)) tNoPart) (tSl (rSlL T.K) (tVar 4) tNoPart (tPart (tVar 5)))) tNoPart (tPart (tVar 1)))))) tNext)
    (tSeq (tAsg (tLst tNil) (gName 2))
    (tSeq (tFor (iStr (tSl rSlS (tC (.str "kqxzjvwmbt")) tNoPart (tPart (tVar 1)))) (gName 3) (tSeq (tAsg (tC (.str "")) (gName 6))
    (tSeq (tFor (iRng1 (tCons (tCall (spOf T (wl (c_Lone T))) [] E0 (tCons (tVar 0) (tCons (tLst (tCons (tC (.int 0)) (tCons (tC (.int 0)) (tCons (tC (.int 1)) (tCons (tCall (spOf T (wl (c_Ldraw T))) [] E0 (tCons (tVar 0) (tCons (tC (.int 8)) tNil))) tNil))))) tNil))) tNil)) (gName 7) (tAsg (tOp rAddS (tVar 6) (tOp rIxS (tC (.str "abcdefghijklmnopqrstuvwxyz")) (tCall (spOf T (wl (c_Ldraw T))) [] E0 (tCons (tVar 0) (tCons (tC (.int 26)) tNil))))) (gName 6)))
    (tDrop (tBM T.K "list" rAppend (tVar 2) (tCons (tOp rAddS (tVar 6) (tVar 3)) tNil))))))
    (tRet (tVar 2)))))
theorem whole_i {T : Cfg} {d : D} {t : Value} {P : D → Prop} {X : XD → Prop} (h : Thing T d t) (k : P (.bl (isInt d))) : c_is_whole T [d] P X := ⟨d, t, rfl, h, k⟩
theorem betw_non {d : D} {lo hi : Int} (h : isInt d = false) : betw d lo hi = false := by
  cases d <;> first | rfl | cases h
theorem int_of {d : D} (h : isInt d = true) : ∃ i, d = .int i := by
  cases d <;> first | exact ⟨_, rfl⟩ | cases h
theorem pure_is_between {T : Cfg} (hT : ShOk T) : ∀ E ds μ P XP, pu (c_is_between T) ds μ P XP → SV T (t_is_between T E) (fun cls dd _ H => E cls dd H) ⟨slots 3 ds, μ⟩ (fnK P XP) := Hd.o (by
 simp (disch :=
 with_unfolding_all
 exact by
  rintro E ds μ P XP ⟨rfl, Pf, Xf, ⟨d, t, lo, hi, rfl, hd, p⟩, hP, hX⟩
  unfold t_is_between
  walk_at "pks"
  refine whole_i hd ?_
  walk_at "pks"
  refine ⟨fun h => ?_, fun h => ?_⟩
  · obtain ⟨i, rfl⟩ := int_of h
    refine ev_chain ?_
    walk_at "pks"
    refine ⟨fun h1 => ?_, fun h1 => ?_⟩
    · walk_at "pks"
      have e : betw (.int i) lo hi = decide (i ≤ hi) := by show (decide (lo ≤ i) && decide (i ≤ hi)) = _; rw [h1]; rfl
      rw [e] at p
      exact hP _ p
    · have e : betw (.int i) lo hi = false := by show (decide (lo ≤ i) && decide (i ≤ hi)) = _; rw [h1]; rfl
      rw [e] at p
      exact hP _ p
  · rw [betw_non h] at p
    exact hP _ p
 ) only [↓hE])
theorem name_non {d : D} (h : kindOf d "str" = false) : nameB d = false := by
  cases d <;> first | rfl | (simp [kindOf, tagOf, kk] at h)
theorem str_of {d : D} (h : kindOf d "str" = true) : ∃ x, d = .str x := by
  cases d <;> first | exact ⟨_, rfl⟩ | (simp [kindOf, tagOf, kk] at h)
theorem pure_is_name {T : Cfg} (hT : ShOk T) : ∀ E ds μ P XP, pu (c_is_name T) ds μ P XP → SV T (t_is_name T E) (fun cls dd _ H => E cls dd H) ⟨slots 2 ds, μ⟩ (fnK P XP) := Hd.o (by
 simp (disch :=
 with_unfolding_all
 exact by
  rintro E ds μ P XP ⟨rfl, Pf, Xf, ⟨d, t, rfl, hd, hlen, p⟩, hP, hX⟩
  unfold t_is_name
  walk_at "pks"
  refine cv_isiT hd.ty (hd.kd "str" (by decide)) ?_
  walk_at "pks"
  refine ⟨fun h => ?_, fun h => ?_⟩
  · have hk : kindOf d "str" = true := by simpa using h
    obtain ⟨x, rfl⟩ := str_of hk
    have hl := hlen x rfl
    walk_at "pks"
    refine ev_chain ?_
    walk_at "pks"
    refine cv_lenS hl ?_
    walk_at "pks"
    refine ⟨fun h1 => ?_, fun h1 => ?_⟩
    · have h1' : 1 ≤ x.length := by have := of_decide_eq_true h1; omega
      walk_at "pks"
      refine ⟨fun h2 => ?_, fun h2 => ?_⟩
      · have h2' : ¬ x.length ≤ 8 := by
          have : ¬ (x.length : Int) ≤ 8 := by simpa using h2
          omega
        have e : nameB (.str x) = false := by
          show (_ && (decide (x.length ≤ 8) && _)) = false
          rw [decide_eq_false h2']
          simp
        rw [e] at p
        walk_at "pks"
        exact hP _ p
      · have h2' : x.length ≤ 8 := by
          have : (x.length : Int) ≤ 8 := by simpa using h2
          omega
        walk_at "pks"
        refine ev_lcSB (f := fun c => decide (c ∈ abc.cps.toList)) ?_
        walk_at "pks"
        refine ⟨x, rfl, hl, fun c hc => ?_, ?_⟩
        · walk_at "pks"
          exact ov_inC ⟨rfl, rfl⟩
        · walk_at "pks"
          refine cv_all (bs := x.cps.toList.map fun c => decide (c ∈ abc.cps.toList)) (.inl rfl) ?_
          walk_at "pks"
          have e : nameB (.str x) = (x.cps.toList.map fun c => decide (c ∈ abc.cps.toList)).all id := by
            show (decide (1 ≤ x.length) && (decide (x.length ≤ 8) && _)) = _
            rw [decide_eq_true h1', decide_eq_true h2', List.all_map]
            rfl
          rw [e] at p
          exact hP _ p
    · have h1' : ¬ 1 ≤ x.length := by
        have : ¬ (1 : Int) ≤ x.length := by simpa using h1
        omega
      have e : nameB (.str x) = false := by
        show (decide (1 ≤ x.length) && _) = false
        rw [decide_eq_false h1']
        rfl
      rw [e] at p
      walk_at "pks"
      exact hP _ p
  · have hk : kindOf d "str" = false := by simpa using h
    rw [name_non hk] at p
    walk_at "pks"
    exact hP _ p
 ) only [↓hE])
theorem ten_ok : (tenS.all nmB) = true := by decide +kernel
theorem ten_rot : ((List.range 11).all fun k => decide (tenS.drop k ++ tenS.take k).Nodup) = true := by decide +kernel
theorem cut_take {ds : List D} {n : Nat} : cutD ds none (some (n : Int)) = ds.take n := by
  unfold Pw.cutD
  rw [HT.sIx_none, HT.sIx_nat, Nat.sub_zero, List.drop_zero]
  rcases Nat.le_total n ds.length with h | h
  · rw [Nat.min_eq_left h]
  · rw [Nat.min_eq_right h, List.take_length, List.take_of_length_le h]
theorem cut_drop {ds : List D} {k : Nat} : cutD ds (some (k : Int)) none = ds.drop k := by
  unfold Pw.cutD
  rw [HT.sIx_none, HT.sIx_nat]
  rcases Nat.le_total k ds.length with h | h
  · rw [Nat.min_eq_left h, ← List.length_drop, List.take_length]
  · rw [Nat.min_eq_right h, List.drop_length, List.drop_of_length_le h, List.take_nil]
theorem del_put2 {m : Mu} {a p : Addr} {x w : MO} (h : p ≠ a) (hm : m p = none) : Pw.del (put (put m p x) a w) p = put m a w := by
  funext c
  unfold Pw.del put
  by_cases e : c = p
  · subst e
    simp [h, hm]
  · simp [e]
theorem nat_at {l : List Nat} {x : Int} (h0 : 0 ≤ x) (h1 : x < l.length) : ∃ c, atI l x = some c ∧ c ∈ l := by
  obtain ⟨n, rfl⟩ := Int.eq_ofNat_of_zero_le h0
  have hn : n < l.length := by omega
  refine ⟨l[n], ?_, List.getElem_mem hn⟩
  have e : ixN l.length (n : Int) = some n := by
    unfold ixN
    rw [if_pos (by omega), if_pos (by omega)]
    rfl
  unfold atI
  rw [e]
  exact List.getElem?_eq_getElem hn
def Ltr (x : Str) : Prop := ∀ c ∈ x.cps.toList, c ∈ abc.cps.toList
theorem ltr_nil : Ltr "" := fun c h => by
  have e : (("" : Str).cps.toList) = [] := rfl
  rw [e] at h
  cases h
theorem app_cps {x : Str} {c : Nat} : (x ++ (⟨#[c]⟩ : Str)).cps.toList = x.cps.toList ++ [c] := by
  obtain ⟨v⟩ := x
  show (v ++ #[c]).toList = _
  simp
theorem app_len {x : Str} {c : Nat} : (x ++ (⟨#[c]⟩ : Str)).length = x.length + 1 := by
  rw [strLen_append]
  rfl
theorem Ltr.app {x : Str} {c : Nat} (h : Ltr x) (hc : c ∈ abc.cps.toList) : Ltr (x ++ (⟨#[c]⟩ : Str)) := by
  intro y hy
  rw [app_cps] at hy
  rcases List.mem_append.1 hy with w | w
  · exact h y w
  · simp at w; subst w; exact hc
theorem nm_of {x : Str} (h1 : 1 ≤ x.length) (h2 : x.length ≤ 8) (h : Ltr x) : nmB x = true := by
  unfold nmB
  rw [decide_eq_true h1, decide_eq_true h2, Bool.true_and, Bool.true_and, List.all_eq_true]
  exact fun c hc => decide_eq_true (h c hc)
theorem last_abc : (lastS.cps.toList.all fun c => decide (c ∈ abc.cps.toList)) = true := by decide +kernel
theorem last_inj : ((List.range 10).all fun i => (List.range 10).all fun j => decide (lastS.cps.toList[i]? = lastS.cps.toList[j]? → i = j)) = true := by decide +kernel
theorem last_nodup {xs : List Str} (hl : xs.length ≤ 10) (h : ∀ (j : Nat) (x : Str), xs[j]? = some x → x.cps.toList.getLast? = lastS.cps.toList[j]?) : xs.Nodup := by
  show List.Pairwise _ xs
  rw [List.pairwise_iff_getElem]
  intro i j hi hj hij e
  have e1 : xs[i]? = some xs[i] := List.getElem?_eq_getElem hi
  have e2 : xs[j]? = some xs[i] := by rw [List.getElem?_eq_getElem hj, e]
  have h1 := h i _ e1
  have h2 := h j _ e2
  have := List.all_eq_true.1 (List.all_eq_true.1 last_inj i (List.mem_range.2 (by omega))) j (List.mem_range.2 (by omega))
  have := of_decide_eq_true this (h1.symm.trans h2)
  omega
theorem last_cut {n : Nat} (h : n ≤ 10) : (cutS lastS none (some (n : Int))).cps.toList = lastS.cps.toList.take n := by
  unfold cutS
  rw [HT.sIx_none, HT.sIx_nat]
  have e : min n lastS.length = n := Nat.min_eq_left (by show n ≤ 10; exact h)
  rw [e]
  simp
theorem pure_Lnames {T : Cfg} (hT : ShOk T) : ∀ E ds μ P XP, wl (c_Lnames T) ds μ P XP → SV T (t_Lnames T E) (fun cls dd _ H => E cls dd H) ⟨slots 8 ds, μ⟩ (fnK P XP) := Hd.o (by
 simp (disch :=
 with_unfolding_all
 exact by
  rintro E ds μ P XP ⟨a, b, rest, rfl, rfl, Pf, ⟨n, rfl, n1, n10, hb, k⟩, hP⟩
  have b9 : ∀ i : Int, i.natAbs < 1000 → Bt 9000 i := fun i h => Bt.mono (n := 10) (by unfold Bt; omega) (by decide)
  unfold t_Lnames
  walk_at "pws"
  refine ⟨a, b, _, _, rfl, rfl, draw_i (by omega) (by decide) (b9 _ (by decide)) fun v v0 v1 => ?_⟩
  walk_at "pws"
  refine ⟨_, rfl, fun h => ?_, fun h => ?_⟩
  · walk_at "pks"
    refine ⟨a, _, _, _, rfl, rfl, draw_i (by omega) (by decide) (b9 _ (by decide)) fun w w0 w1 => ?_⟩
    obtain ⟨j, rfl⟩ := Int.eq_ofNat_of_zero_le w0
    walk_at "pks"
    refine ev_slL ?_
    walk_at "pks"
    refine ev_slL ?_
    walk_at "pks"
    refine ⟨_, rfl, ?_⟩
    walk_at "pks"
    refine ⟨_, .inl rfl, ?_⟩
    rw [cut_drop]
    walk_at "pks"
    refine ev_slL ?_
    walk_at "pks"
    refine ⟨_, rfl, _, .inl rfl, ?_⟩
    rw [cut_take]
    walk_at "pks"
    refine ov_cat (by simp; omega) ?_
    walk_at "pks"
    refine ⟨_, rfl, _, .inl rfl, ?_⟩
    rw [cut_take]
    walk_at "pks"
    have hj : j < 11 := by omega
    have e : ((([D.str "a", D.str "ab", D.str "b", D.str "stop", D.str "toss", D.str "abc", D.str "part", D.str "zzzzzzzz", D.str "ba", D.str "aa"] : List D).drop j ++ ([D.str "a", D.str "ab", D.str "b", D.str "stop", D.str "toss", D.str "abc", D.str "part", D.str "zzzzzzzz", D.str "ba", D.str "aa"] : List D).take j).take n) = ((tenS.drop j ++ tenS.take j).take n).map D.str := by
      rw [List.map_take, List.map_append, List.map_drop, List.map_take]
      rfl
    have hnd : (tenS.drop j ++ tenS.take j).Nodup := by
      have := List.all_eq_true.1 ten_rot j (List.mem_range.2 hj)
      exact of_decide_eq_true this
    show P (.lst _) _
    rw [e]
    have ten : ∀ x ∈ (tenS.drop j ++ tenS.take j).take n, x ∈ tenS := by
      intro x hx
      have hx := List.mem_of_mem_take hx
      rcases List.mem_append.1 hx with h | h
      · exact List.mem_of_mem_drop h
      · exact List.mem_of_mem_take h
    refine hP _ _ (k _ _ ?_ (List.Nodup.sublist (List.take_sublist _ _) hnd) ?_ ?_ (by omega))
    · rw [List.length_take, List.length_append, List.length_drop, List.length_take]
      show min n (10 - j + min j 10) = n
      omega
    · exact fun x hx => List.all_eq_true.1 ten_ok x (ten x hx)
    · exact fun x hx => .inl (ten x hx)
  · walk_at "pws"
    refine ev_lstM ?_
    walk_at "pws"
    intro p hpf
    have hpa : p ≠ a := by
      intro e
      subst e
      rw [put_same] at hpf
      cases hpf
    walk_at "pws"
    refine sv_forS (ev_slS ?_)
    walk_at "pws"
    refine ⟨(n : Int), rfl, lastS, rfl, by decide, cutS lastS none (some (n : Int)), fun _ => [some (.ptr a), some (.int n), some (.ptr p), none, none, none, none, none], fun k μ => ∃ b' xs, μ = put (put mu0 p (.lst (xs.map D.str))) a (.well b') ∧ xs.length = k ∧ (∀ (j : Nat) (x : Str), xs[j]? = some x → nmB x = true ∧ x.cps.toList.getLast? = lastS.cps.toList[j]?) ∧ b ≤ b' + 1 + 9 * k, rfl, ?_, ⟨b - 1, [], ?_, rfl, by simp, by omega⟩, ?_, ?_⟩
    · walk_at "le"
    · funext c
      unfold put
      by_cases e : c = p
      · subst e; simp [hpa]
      · simp [e]
    · rintro m c μ hc ⟨b', xs, rfl, hxl, hx, hbb⟩
      rw [last_cut n10] at hc
      rw [List.getElem?_take] at hc
      have hm : m < n := by
        rcases Nat.lt_or_ge m n with w | w
        · exact w
        · rw [if_neg (by omega)] at hc; cases hc
      rw [if_pos hm] at hc
      have hca : c ∈ abc.cps.toList := of_decide_eq_true (List.all_eq_true.1 last_abc c (List.mem_of_getElem? hc))
      walk_at "pks"
      refine sv_forRgE (X := Str) (fun w => [some (.ptr a), some (.int n), some (.ptr p), some (.str ⟨#[c]⟩), none, none, some (.str w), none]) (fun k w μ => w.length = k ∧ Ltr w ∧ ∃ b2, μ = put (put mu0 p (.lst (xs.map D.str))) a (.well b2) ∧ b' ≤ b2 + 2 + k) ?_
      walk_at "pks"
      refine ⟨a, _, _, _, rfl, rfl, draw_i (by omega) (by decide) (b9 _ (by decide)) fun y y0 y1 => ?_⟩
      walk_at "pks"
      refine ⟨a, _, _, _, rfl, rfl, one_i (by omega) (by simp) (by simp) fun e he => ?_⟩
      have hm2 : ∃ q : Nat, e = .int q ∧ q ≤ 7 := by
        simp only [List.mem_cons, List.not_mem_nil, or_false] at he
        rcases he with rfl | rfl | rfl | rfl
        · exact ⟨0, rfl, by decide⟩
        · exact ⟨0, rfl, by decide⟩
        · exact ⟨1, rfl, by decide⟩
        · exact ⟨y.toNat, by congr 1; omega, by omega⟩
      obtain ⟨q, rfl, q7⟩ := hm2
      walk_at "pks"
      refine ⟨(q : Int), "", rfl, by omega, by omega, ?_, ⟨rfl, ltr_nil, _, rfl, by omega⟩, ?_, ?_⟩
      · walk_at "le"
      · rintro k2 w μ hk2 ⟨hw, hlt, b2, rfl, hb2⟩
        have hk7 : k2 < 7 := by omega
        walk_at "pks"
        refine ⟨a, _, _, _, rfl, rfl, draw_i (by omega) (by decide) (b9 _ (by decide)) fun z z0 z1 => ?_⟩
        obtain ⟨d, hd, hda⟩ := nat_at (l := abc.cps.toList) z0 (by show z < 26; exact z1)
        refine ov_ixS (by decide) hd ?_
        refine ov_addS (by show w.length + 1 ≤ 100000; omega) ?_
        walk_at "pks"
        refine ⟨w ++ (⟨#[d]⟩ : Str), ?_, by rw [app_len]; omega, hlt.app hda, _, rfl, by omega⟩
        walk_at "le"
      · rintro s' w hs ⟨hw, hlt, b2, hsm, hb2⟩
        refine seqK_wk hs ?_
        rw [hsm]
        have hwq : w.length = q := by simpa using hw
        walk_at "pks"
        refine ⟨p, _, rfl, put_look hpa, ?_⟩
        walk_at "pks"
        refine ov_addS (by show w.length + 1 ≤ 100000; omega) ?_
        refine ⟨_, put_look hpa, by simp; omega, ?_⟩
        rw [put_swap hpa]
        walk_at "pks"
        refine ⟨?_, b2, xs ++ [w ++ (⟨#[c]⟩ : Str)], by rw [List.map_append]; rfl, by simp [hxl], ?_, by omega⟩
        · walk_at "le"
        · intro j x hj
          by_cases hjl : j < xs.length
          · rw [List.getElem?_append_left hjl] at hj
            exact hx j x hj
          · rw [List.getElem?_append_right (by omega)] at hj
            have hj0 : j = xs.length := by
              rcases Nat.lt_or_ge (j - xs.length) 1 with w | w
              · omega
              · rw [List.getElem?_eq_none (by simpa using w)] at hj; cases hj
            subst hj0
            rw [Nat.sub_self] at hj
            cases hj
            refine ⟨nm_of (by rw [app_len]; omega) (by rw [app_len]; omega) (hlt.app hca), ?_⟩
            rw [app_cps, hxl, hc]
            simp
    · rintro s' hs ⟨b', xs, hsm, hxl, hx, hbb⟩
      have hsz : (cutS lastS none (some (n : Int))).cps.size = n := by
        rw [← Array.length_toList, last_cut n10, List.length_take]
        show min n 10 = n
        omega
      rw [hsz] at hxl hbb
      refine seqK_wk hs ?_
      rw [hsm]
      refine sv_ret (ev_fz (i := 2) rfl (put_look hpa) ?_)
      walk_at "pks"
      rw [del_put2 hpa rfl]
      refine hP _ _ (k xs b' hxl (last_nodup (by omega) fun j x h => (hx j x h).2) ?_ ?_ (by omega))
      · intro x hm
        obtain ⟨j, hj⟩ := List.getElem?_of_mem hm
        exact (hx j x hj).1
      · intro x hm
        obtain ⟨j, hj⟩ := List.getElem?_of_mem hm
        have h1 := (hx j x hj).2
        have : j < xs.length := (List.getElem?_eq_some_iff.mp hj).1
        have hl : j < lastS.cps.toList.length := by
          show j < 10
          omega
        rw [List.getElem?_eq_getElem hl] at h1
        exact .inr ⟨_, List.getElem_mem hl, h1⟩
 ) only [↓hE])
def Th0 (T : Cfg) (d : D) : Prop := (∃ t, Thing T d t) ∧ ∀ x, d = .str x → x.length ≤ 100000
def Th1 (T : Cfg) (d : D) : Prop := Th0 T d ∧ ∀ es, d = .tup es → es.length ≤ 100000 ∧ ∀ e ∈ es, Th0 T e
def Th2 (T : Cfg) (d : D) : Prop := Th0 T d ∧ ∀ es, d = .tup es → ∀ e ∈ es, Th1 T e
def natB : D → Bool
  | .int i => decide (0 ≤ i)
  | _ => false
def intOf : D → Int
  | .int i => i
  | _ => 0
def wtsB (m : Int) : D → Bool
  | .tup ds => decide ((ds.length : Int) = m) && (ds.all natB && decide (0 < (ds.map intOf).sum))
  | _ => false
def stpB (m : Int) : D → Bool
  | .tup [a, b, c] => betw a 0 (m - 1) && (nameB b && wtsB m c)
  | _ => false
def keyOf : D → List Key
  | .tup [.int r, .str x, _] => [.inl r, .inr x]
  | _ => []
def stepsB (m : Int) : D → Bool
  | .lst es => es.all (stpB m) && decide (es.map keyOf).Nodup
  | _ => false
def c_are_weights (T : Cfg) : PC := fun ds P _ => ∃ (d : D) (m : Int), ds = [d, .int m] ∧ Th1 T d ∧ P (.bl (wtsB m d))
def c_is_step (T : Cfg) : PC := fun ds P _ => ∃ (d : D) (m : Int), ds = [d, .int m] ∧ Th2 T d ∧ P (.bl (stpB m d))
def c_are_steps (T : Cfg) : PC := fun ds P _ => ∃ (d : D) (m : Int), ds = [d, .int m] ∧ Th0 T d ∧ (∀ es, d = .lst es → es.length ≤ 63 ∧ ∀ e ∈ es, Th2 T e) ∧ P (.bl (stepsB m d))
abbrev Stp := Nat × Str × List Nat
def wtsD (ws : List Nat) : D := .tup (ws.map fun w : Nat => D.int (w : Int))
def stpD (s : Stp) : D := .tup [.int (s.1 : Int), .str s.2.1, wtsD s.2.2]
def gcdL (ws : List Nat) : Nat := ws.foldl (fun g w => Nat.gcd w g) 0
def low (ws : List Nat) : List Nat := ws.map (· / gcdL ws)
def stpP (s : Stp) : PyData := .tuple [.int (s.1 : Int), .str s.2.1, .tuple ((s.2.2.map fun w : Nat => (w : Int)).map .int)]
def lowS (s : Stp) : Stp := (s.1, s.2.1, low s.2.2)
def srtS (ss : List Stp) : List Stp := ss.mergeSort (PySem.W.dataLe false stpP)
def mkS (ss : List Stp) : List Stp := srtS (ss.map lowS)
def mrow (ss : List Stp) (r : Nat) : List (Key × D) := (ss.filter fun s => decide (s.1 = r)).map fun s => (.inr s.2.1, wtsD s.2.2)
def maF (m : Nat) (ss : List Stp) : List (Str × D) := [("many", .int (m : Int)), ("steps", .lst (ss.map stpD)), ("onward", .lst ((List.range m).map fun r => .dic (mrow ss r)))]
def maD (m : Nat) (ss : List Stp) : D := .ins 1 (maF m ss)
structure Sok (m : Nat) (s : Stp) : Prop where
  rm : s.1 < m
  nm : nmB s.2.1 = true
  ln : s.2.2.length = m
  ps : 0 < s.2.2.sum
  bd : ∀ w ∈ s.2.2, w < 2 ^ 8000
def keyS (s : Stp) : Nat × Str := (s.1, s.2.1)
structure Good (m : Nat) (ss : List Stp) : Prop where
  m1 : 1 ≤ m
  m12 : m ≤ 12
  ln : ss.length ≤ 63
  nd : (ss.map keyS).Nodup
  ok : ∀ s ∈ ss, Sok m s
def c_lowest (T : Cfg) : PC := fun ds P _ => ∃ ws : List Nat, ds = [wtsD ws] ∧ 0 < ws.sum ∧ ws.length ≤ 100000 ∧ (∀ w ∈ ws, w < 2 ^ 8000) ∧ P (wtsD (low ws))
def c_Machine___init__ (T : Cfg) : List D → (List (Str × D) → Prop) → (XD → Prop) → Prop := fun ds P _ => ∃ (m : Nat) (ss : List Stp), ds = [.int (m : Int), .lst (ss.map stpD)] ∧ Good m ss ∧ P (maF m (mkS ss))
theorem len_are_weights {T : Cfg} : ∀ ds μ P XP, pu (c_are_weights T) ds μ P XP → ds.length = 2 := by
  rintro ds μ P XP ⟨rfl, Pf, Xf, ⟨d, m, rfl, _⟩, _⟩; rfl
theorem len_is_step {T : Cfg} : ∀ ds μ P XP, pu (c_is_step T) ds μ P XP → ds.length = 2 := by
  rintro ds μ P XP ⟨rfl, Pf, Xf, ⟨d, m, rfl, _⟩, _⟩; rfl
theorem len_are_steps {T : Cfg} : ∀ ds μ P XP, pu (c_are_steps T) ds μ P XP → ds.length = 2 := by
  rintro ds μ P XP ⟨rfl, Pf, Xf, ⟨d, m, rfl, _⟩, _⟩; rfl
theorem len_lowest {T : Cfg} : ∀ ds μ P XP, pu (c_lowest T) ds μ P XP → ds.length = 1 := by
  rintro ds μ P XP ⟨rfl, Pf, Xf, ⟨d, rfl, _⟩, _⟩; rfl
theorem len_Machine___init__ {T : Cfg} : ∀ ds μ P XP, ini 1 (c_Machine___init__ T) ds μ P XP → ds.length = 3 := by
  rintro ds μ P XP ⟨a, rest, rfl, rfl, Pf, Xf, ⟨m, ss, rfl, _⟩, _⟩; rfl
def t_are_weights (T : Cfg) (E : XK) : TS := (tSeq (tIfS (tOr (tNot (tB (tCB (rIsi T.K) (tCons (tVar 0) (tCons (tC (.ty "tuple")) tNil))))) (tTest (tOp rNe (tCB (Pw.rLen T.K) (tCons (tVar 0) tNil)) (tVar 1)))) (tRet (tC (.bl false))) tNext)
    (tRet (tAndV (tCB (rAll T.K) (tCons (tLc (iTup T.K (tVar 0)) (gName 2) tYes (tAndV (tCall (spOf T (pu (c_is_whole T))) [] E0 (tCons (tVar 2) tNil)) (tOp (rI0 fun i j => .bl (decide (j ≤ i))) (tVar 2) (tC (.int 0)))) [2]) tNil)) (tOp (rI0 fun i j => .bl (decide (j < i))) (tCB (rSumT T.K) (tCons (tVar 0) tNil)) (tC (.int 0))))))
def t_is_step (T : Cfg) (E : XK) : TS := (tSeq (tIfS (tOr (tNot (tB (tCB (rIsi T.K) (tCons (tVar 0) (tCons (tC (.ty "tuple")) tNil))))) (tTest (tOp rNe (tCB (Pw.rLen T.K) (tCons (tVar 0) tNil)) (tC (.int 3))))) (tRet (tC (.bl false))) tNext)
    (tRet (tAndV (tCall (spOf T (pu (c_is_between T))) [] E0 (tCons (tOp (rIxT T.K) (tVar 0) (tC (.int 0))) (tCons (tC (.int 0)) (tCons (tOp (rI0 fun i j => .int (i - j)) (tVar 1) (tC (.int 1))) tNil)))) (tAndV (tCall (spOf T (pu (c_is_name T))) [] E0 (tCons (tOp (rIxT T.K) (tVar 0) (tC (.int 1))) tNil)) (tCall (spOf T (pu (c_are_weights T))) [] E0 (tCons (tOp (rIxT T.K) (tVar 0) (tC (.int 2))) (tCons (tVar 1) tNil)))))))
def t_are_steps (T : Cfg) (E : XK) : TS := (tSeq (tIfS (tOr (tNot (tB (tCB (rIsi T.K) (tCons (tVar 0) (tCons (tC (.ty "list")) tNil))))) (tNot (tB (tCB (rAll T.K) (tCons (tLc (iList T.K (tVar 0)) (gName 2) tYes (tCall (spOf T (pu (c_is_step T))) [] E0 (tCons (tVar 2) (tCons (tVar 1) tNil))) [2]) tNil))))) (tRet (tC (.bl false))) tNext)
    (tRet (tOp rEq (tLenSetM T.K (tLc (iList T.K (tVar 0)) (gName 2) tYes (tSl (rSlA T.K) (tVar 2) tNoPart (tPart (tC (.int 2)))) [2])) (tCB (Pw.rLen T.K) (tCons (tVar 0) tNil)))))
def t_lowest (T : Cfg) (E : XK) : TS := (tSeq (tAsg (tC (.int 0)) (gName 1))
    (tSeq (tFor (iTup T.K (tVar 0)) (gName 2) (tAsg (tCall (spOf T (pu (c_common T))) [] E0 (tCons (tVar 2) (tCons (tVar 1) tNil))) (gName 1)))
    (tRet (tCB (rTupOf T.K) (tCons (tLc (iTup T.K (tVar 0)) (gName 2) tYes (tOp (rI CFd fun i j => .int (i.fdiv j)) (tVar 2) (tVar 1)) [2]) tNil)))))
def t_Machine___init__ (T : Cfg) (E : XK) : TS := (tSeq (tIfS (tNot (tB (tCall (spOf T (pu (c_is_between T))) [] E0 (tCons (tVar 1) (tCons (tC (.int 1)) (tCons (tC (.int 12)) tNil)))))) tNevS tNext)
    (tSeq (tIfS (tNot (tB (tCall (spOf T (pu (c_are_steps T))) [] E0 (tCons (tVar 2) (tCons (tVar 1) tNil))))) tNevS tNext)
    (tSeq (sFld T.K (tVar 0) (tVar 1) "many")
    (tSeq (sFld T.K (tVar 0) (tCB (rSortD T.K) (tCons (tLc (iList T.K (tVar 2)) (gTup T.K 3 (gCons (gName 3) (gCons (gName 4) (gCons (gName 5) gNil)))) tYes (tTup (tCons (tVar 3) (tCons (tVar 4) (tCons (tCall (spOf T (pu (c_lowest T))) [] E0 (tCons (tVar 5) tNil)) tNil)))) [3, 4, 5]) tNil)) "steps")
    (tSeq (sFld T.K (tVar 0) (tLc (iRng1 (tCons (tVar 1) tNil)) (gName 3) tYes tDNewK [3]) "onward")
    (tFor (iList T.K (tFld T.K (tVar 0) "steps")) (gTup T.K 3 (gCons (gName 3) (gCons (gName 4) (gCons (gName 5) gNil)))) (sDPut (tOp (rIxL T.K) (tFld T.K (tVar 0) "onward") (tVar 3)) (tVar 4) (tVar 5))))))))
theorem tup_of {d : D} (h : kindOf d "tuple" = true) : ∃ es, d = .tup es := by
  cases d <;> first | exact ⟨_, rfl⟩ | (simp [kindOf, tagOf, kk] at h)
theorem lst_of {d : D} (h : kindOf d "list" = true) : ∃ es, d = .lst es := by
  cases d <;> first | exact ⟨_, rfl⟩ | (simp [kindOf, tagOf, kk] at h)
theorem wts_non {m : Int} {d : D} (h : kindOf d "tuple" = false) : wtsB m d = false := by
  cases d <;> first | rfl | (simp [kindOf, tagOf, kk] at h)
theorem stp_non {m : Int} {d : D} (h : kindOf d "tuple" = false) : stpB m d = false := by
  cases d <;> first | rfl | (simp [kindOf, tagOf, kk] at h)
theorem steps_non {m : Int} {d : D} (h : kindOf d "list" = false) : stepsB m d = false := by
  cases d <;> first | rfl | (simp [kindOf, tagOf, kk] at h)
theorem nat_ints : ∀ {ds : List D}, ds.all natB = true → ds = (ds.map intOf).map D.int := by
  intro ds
  induction ds with
  | nil => intro _; rfl
  | cons d ds ih =>
    intro h
    rw [List.all_cons, Bool.and_eq_true] at h
    cases d <;> first | (cases h.1; done) | skip
    rw [List.map_cons, List.map_cons, ← ih h.2]
    rfl
theorem pure_are_weights {T : Cfg} (hT : ShOk T) : ∀ E ds μ P XP, pu (c_are_weights T) ds μ P XP → SV T (t_are_weights T E) (fun cls dd _ H => E cls dd H) ⟨slots 3 ds, μ⟩ (fnK P XP) := Hd.o (by
 simp (disch :=
 with_unfolding_all
 exact by
  rintro E ds μ P XP ⟨rfl, Pf, Xf, ⟨d, m, rfl, hd, p⟩, hP, hX⟩
  obtain ⟨⟨⟨t, ht⟩, _⟩, hes⟩ := hd
  unfold t_are_weights
  walk_at "pks"
  refine cv_isiT ht.ty (ht.kd "tuple" (by decide)) ?_
  walk_at "pks"
  refine ⟨fun h => ?_, fun h => ?_⟩
  · have hk : kindOf d "tuple" = true := by simpa using h
    obtain ⟨es, rfl⟩ := tup_of hk
    obtain ⟨hlen, hes⟩ := hes es rfl
    walk_at "pks"
    refine cv_lenT ?_
    walk_at "pks"
    refine ⟨fun h1 => ?_, fun h1 => ?_⟩
    · have h1 : ¬ (es.length : Int) = m := by simpa using h1
      have e : wtsB m (.tup es) = false := by
        show (decide _ && _) = false
        rw [decide_eq_false h1]
        rfl
      rw [e] at p
      walk_at "pks"
      exact hP _ p
    · have h1 : (es.length : Int) = m := by simpa using h1
      walk_at "pks"
      refine ev_lcU ?_
      walk_at "pks"
      refine ⟨es, fun e => .bl (natB e), rfl, hlen, fun e he => ?_, ?_⟩
      · obtain ⟨⟨u, hu⟩, _⟩ := hes e he
        walk_at "pks"
        refine whole_i hu ?_
        walk_at "pks"
        refine ⟨fun h => ?_, fun h => ?_⟩
        · obtain ⟨i, rfl⟩ := int_of h
          walk_at "pks"
          exact ⟨rfl, rfl⟩
        · refine ⟨?_, rfl⟩
          cases e <;> first | rfl | cases h
      · walk_at "pks"
        refine cv_all (bs := es.map natB) (.inl (by simp)) ?_
        walk_at "pks"
        refine ⟨fun h2 => ?_, fun h2 => ?_⟩
        · have h2 : es.all natB = true := by
            rw [List.all_map] at h2
            exact h2
          walk_at "pks"
          rw [nat_ints h2]
          refine cv_sumT ?_
          walk_at "pks"
          have e : wtsB m (.tup es) = decide (0 < (es.map intOf).sum) := by
            show (decide _ && (es.all natB && _)) = _
            rw [decide_eq_true h1, h2]
            rfl
          rw [e] at p
          exact hP _ p
        · have h2 : es.all natB = false := by
            rw [List.all_map] at h2
            exact h2
          have e : wtsB m (.tup es) = false := by
            show (decide _ && (es.all natB && _)) = _
            rw [h2]
            simp
          rw [e] at p
          exact hP _ p
  · have hk : kindOf d "tuple" = false := by simpa using h
    rw [wts_non hk] at p
    walk_at "pks"
    exact hP _ p
 ) only [↓hE])
theorem betwT {T : Cfg} {d : D} {t : Value} {lo hi : Int} {P : D → Prop} {X : XD → Prop} (h : Thing T d t) (k : P (.bl (betw d lo hi))) : c_is_between T [d, .int lo, .int hi] P X := ⟨d, t, lo, hi, rfl, h, k⟩
theorem nameT {T : Cfg} {d : D} {P : D → Prop} {X : XD → Prop} (h : Th0 T d) (k : P (.bl (nameB d))) : c_is_name T [d] P X := by
  obtain ⟨⟨t, ht⟩, hl⟩ := h
  exact ⟨d, t, rfl, ht, hl, k⟩
theorem pure_is_step {T : Cfg} (hT : ShOk T) : ∀ E ds μ P XP, pu (c_is_step T) ds μ P XP → SV T (t_is_step T E) (fun cls dd _ H => E cls dd H) ⟨slots 2 ds, μ⟩ (fnK P XP) := Hd.o (by
 simp (disch :=
 with_unfolding_all
 exact by
  rintro E ds μ P XP ⟨rfl, Pf, Xf, ⟨d, m, rfl, hd, p⟩, hP, hX⟩
  obtain ⟨⟨⟨t, ht⟩, _⟩, hes⟩ := hd
  unfold t_is_step
  walk_at "pks"
  refine cv_isiT ht.ty (ht.kd "tuple" (by decide)) ?_
  walk_at "pks"
  refine ⟨fun h => ?_, fun h => ?_⟩
  · have hk : kindOf d "tuple" = true := by simpa using h
    obtain ⟨es, rfl⟩ := tup_of hk
    have hes := hes es rfl
    walk_at "pks"
    refine cv_lenT ?_
    walk_at "pks"
    refine ⟨fun h1 => ?_, fun h1 => ?_⟩
    · have h1 : ¬ (es.length : Int) = 3 := by simpa using h1
      have e : stpB m (.tup es) = false := by
        match es, h1 with
        | [], _ => rfl
        | [_], _ => rfl
        | [_, _], _ => rfl
        | [_, _, _], h => exact absurd rfl h
        | _ :: _ :: _ :: _ :: _, _ => rfl
      rw [e] at p
      walk_at "pks"
      exact hP _ p
    · have h1 : (es.length : Int) = 3 := by simpa using h1
      obtain ⟨a, b, c, rfl⟩ : ∃ a b c, es = [a, b, c] := by
        match es, h1 with
        | [a, b, c], _ => exact ⟨a, b, c, rfl⟩
        | [], h => simp at h
        | [_], h => simp at h
        | [_, _], h => simp at h
        | _ :: _ :: _ :: _ :: _, h => simp at h; omega
      have ha := hes a (by simp)
      have hb := hes b (by simp)
      have hc := hes c (by simp)
      obtain ⟨⟨ta, hta⟩, _⟩ := ha.1
      walk_at "pks"
      refine betwT hta ?_
      walk_at "pks"
      refine ⟨fun h2 => ?_, fun h2 => ?_⟩
      · walk_at "pks"
        refine nameT hb.1 ?_
        walk_at "pks"
        refine ⟨fun h3 => ?_, fun h3 => ?_⟩
        · walk_at "pks"
          refine ⟨c, m, rfl, hc, ?_⟩
          have e : stpB m (.tup [a, b, c]) = wtsB m c := by
            show (betw a 0 (m - 1) && (nameB b && wtsB m c)) = _
            rw [h2, h3]
            rfl
          rw [e] at p
          exact hP _ p
        · have e : stpB m (.tup [a, b, c]) = false := by
            show (betw a 0 (m - 1) && (nameB b && wtsB m c)) = _
            rw [h2, h3]
            rfl
          rw [e] at p
          exact hP _ p
      · have e : stpB m (.tup [a, b, c]) = false := by
          show (betw a 0 (m - 1) && (nameB b && wtsB m c)) = _
          rw [h2]
          rfl
        rw [e] at p
        exact hP _ p
  · have hk : kindOf d "tuple" = false := by simpa using h
    rw [stp_non hk] at p
    walk_at "pks"
    exact hP _ p
 ) only [↓hE])
theorem perm_of {α : Type} [DecidableEq α] : ∀ {L ks : List α}, L.Nodup → (∀ k ∈ L, k ∈ ks) → L.length = ks.length → ks.Perm L := by
  intro L
  induction L with
  | nil => intro ks _ _ h; cases ks <;> first | exact .refl _ | simp at h
  | cons a L ih =>
    intro ks hn hs hl
    have ha : a ∈ ks := hs a (by simp)
    rw [List.nodup_cons] at hn
    have h1 : (ks.erase a).Perm L := by
      refine ih hn.2 (fun k hk => ?_) ?_
      · have hne : k ≠ a := fun e => hn.1 (e ▸ hk)
        exact (List.mem_erase_of_ne hne).2 (hs k (by simp [hk]))
      · rw [List.length_erase_of_mem ha, ← hl]
        simp
    exact (List.perm_cons_erase ha).trans (h1.cons a)
theorem set_len {α : Type} [DecidableEq α] {L ks : List α} (hn : L.Nodup) (h : ∀ k, k ∈ L ↔ k ∈ ks) : decide ((L.length : Int) = (ks.length : Int)) = decide ks.Nodup := by
  by_cases e : ks.Nodup
  · rw [decide_eq_true e]
    have : L.Perm ks := (List.perm_ext_iff_of_nodup hn e).2 h
    rw [this.length_eq]
    simp
  · rw [decide_eq_false e]
    refine decide_eq_false fun hl => e ?_
    have : ks.Perm L := perm_of hn (fun k hk => (h k).1 hk) (by omega)
    exact this.nodup_iff.2 hn
theorem stp_shape {m : Int} {d : D} (h : stpB m d = true) : ∃ r x c, d = .tup [.int r, .str x, c] := by
  have hk : kindOf d "tuple" = true := by
    cases e : kindOf d "tuple" with
    | true => rfl
    | false => rw [stp_non e] at h; cases h
  obtain ⟨es, rfl⟩ := tup_of hk
  match es, h with
  | [a, b, c], h =>
    have h : (betw a 0 (m - 1) && (nameB b && wtsB m c)) = true := h
    rw [Bool.and_eq_true, Bool.and_eq_true] at h
    cases a <;> first | (cases h.1; done) | skip
    cases b <;> first | (cases h.2.1; done) | skip
    exact ⟨_, _, _, rfl⟩
theorem pure_are_steps {T : Cfg} (hT : ShOk T) : ∀ E ds μ P XP, pu (c_are_steps T) ds μ P XP → SV T (t_are_steps T E) (fun cls dd _ H => E cls dd H) ⟨slots 3 ds, μ⟩ (fnK P XP) := Hd.o (by
 simp (disch :=
 with_unfolding_all
 exact by
  rintro E ds μ P XP ⟨rfl, Pf, Xf, ⟨d, m, rfl, hd, hes, p⟩, hP, hX⟩
  obtain ⟨⟨t, ht⟩, _⟩ := hd
  unfold t_are_steps
  walk_at "pks"
  refine cv_isiT ht.ty (ht.kd "list" (by decide)) ?_
  walk_at "pks"
  refine ⟨fun h => ?_, fun h => ?_⟩
  · have hk : kindOf d "list" = true := by simpa using h
    obtain ⟨es, rfl⟩ := lst_of hk
    obtain ⟨hlen, hes⟩ := hes es rfl
    walk_at "pks"
    refine ev_lcF ?_
    walk_at "pks"
    refine ⟨es, fun e => .bl (stpB m e), .inl rfl, by omega, fun e he => ?_, ?_⟩
    · walk_at "pks"
      exact ⟨e, m, rfl, hes e he, rfl, rfl⟩
    · walk_at "pks"
      refine cv_all (bs := es.map (stpB m)) (.inl (by simp)) ?_
      walk_at "pks"
      refine ⟨fun h2 => ?_, fun h2 => ?_⟩
      · have h2 : es.all (stpB m) = false := by
          rw [List.all_map] at h2
          simpa using h2
        have e : stepsB m (.lst es) = false := by
          show (es.all (stpB m) && _) = _
          rw [h2]
          rfl
        rw [e] at p
        walk_at "pks"
        exact hP _ p
      · have h2 : es.all (stpB m) = true := by
          rw [List.all_map] at h2
          simpa using h2
        walk_at "pks"
        refine ev_lenSetM ?_
        refine ev_lcF ?_
        walk_at "pks"
        refine ⟨es, fun e => .tup ((keyOf e).map kD), .inl rfl, by omega, fun e he => ?_, ?_⟩
        · obtain ⟨r, x, c, rfl⟩ := stp_shape (List.all_eq_true.1 h2 e he)
          refine ev_slT ?_
          walk_at "pks"
          refine ⟨_, rfl, _, rfl, ?_, rfl⟩
          have := cut_take (ds := [.int r, .str x, c]) (n := 2)
          rw [show ((2 : Nat) : Int) = 2 from rfl] at this
          rw [this]
          rfl
        · refine ⟨es.map keyOf, .inl (by simp), by simpa using hlen, fun L hn hL => ?_⟩
          walk_at "pks"
          refine cv_len (.inl rfl) ?_
          walk_at "pks"
          have e : stepsB m (.lst es) = decide ((L.length : Int) = (es.length : Int)) := by
            show (es.all (stpB m) && decide (es.map keyOf).Nodup) = _
            rw [h2, ← set_len hn hL, List.length_map]
            rfl
          rw [e] at p
          exact hP _ p
  · have hk : kindOf d "list" = false := by simpa using h
    rw [steps_non hk] at p
    walk_at "pks"
    exact hP _ p
 ) only [↓hE])
theorem gcdL_snoc (ws : List Nat) (w : Nat) : gcdL (ws ++ [w]) = Nat.gcd w (gcdL ws) := by unfold gcdL; rw [List.foldl_append]; rfl
theorem gcd_fold_dvd : ∀ (ws : List Nat) (g : Nat), (∀ w ∈ ws, ws.foldl (fun g w => Nat.gcd w g) g ∣ w) ∧ ws.foldl (fun g w => Nat.gcd w g) g ∣ g := by
  intro ws
  induction ws with
  | nil => intro g; exact ⟨fun w h => (List.not_mem_nil h).elim, Nat.dvd_refl _⟩
  | cons a ws ih =>
    intro g
    obtain ⟨h1, h2⟩ := ih (Nat.gcd a g)
    refine ⟨fun w h => ?_, Nat.dvd_trans h2 (Nat.gcd_dvd_right _ _)⟩
    rcases List.mem_cons.1 h with rfl | h
    · exact Nat.dvd_trans h2 (Nat.gcd_dvd_left _ _)
    · exact h1 w h
theorem gcdL_dvd {ws : List Nat} {w : Nat} (h : w ∈ ws) : gcdL ws ∣ w := (gcd_fold_dvd ws 0).1 w h
theorem sum_pos {ws : List Nat} (h : 0 < ws.sum) : ∃ w ∈ ws, 0 < w := by
  induction ws with
  | nil => simp at h
  | cons a ws ih =>
    rw [List.sum_cons] at h
    by_cases e : 0 < a
    · exact ⟨a, by simp, e⟩
    · obtain ⟨w, hw, h⟩ := ih (by omega)
      exact ⟨w, by simp [hw], h⟩
theorem gcdL_pos {ws : List Nat} (h : 0 < ws.sum) : 0 < gcdL ws := by
  obtain ⟨w, hw, h0⟩ := sum_pos h
  exact Nat.pos_of_dvd_of_pos (gcdL_dvd hw) h0
theorem gcdL_le {ws : List Nat} (h : 0 < ws.sum) : ∃ w ∈ ws, gcdL ws ≤ w := by
  obtain ⟨w, hw, h0⟩ := sum_pos h
  exact ⟨w, hw, Nat.le_of_dvd h0 (gcdL_dvd hw)⟩
theorem low_len (ws : List Nat) : (low ws).length = ws.length := by simp [low]
theorem sum_of_mem {ws : List Nat} {w : Nat} (h : w ∈ ws) : w ≤ ws.sum := by
  induction ws with
  | nil => cases h
  | cons a ws ih =>
    rw [List.sum_cons]
    rcases List.mem_cons.1 h with rfl | h
    · omega
    · have := ih h; omega
theorem low_pos {ws : List Nat} (h : 0 < ws.sum) : 0 < (low ws).sum := by
  obtain ⟨w, hw, h0⟩ := sum_pos h
  have h1 : w / gcdL ws ∈ low ws := List.mem_map.2 ⟨w, hw, rfl⟩
  have h2 : 0 < w / gcdL ws := Nat.div_pos (Nat.le_of_dvd h0 (gcdL_dvd hw)) (gcdL_pos h)
  exact Nat.lt_of_lt_of_le h2 (sum_of_mem h1)
theorem low_bd {ws : List Nat} {b : Nat} (h : ∀ w ∈ ws, w < b) : ∀ w ∈ low ws, w < b := by
  intro w hw
  obtain ⟨v, hv, rfl⟩ := List.mem_map.1 hw
  exact Nat.lt_of_le_of_lt (Nat.div_le_self _ _) (h v hv)
theorem nth_wts {ws : List Nat} {k : Nat} (h : k < ws.length) : Pw.nth (ws.map fun w : Nat => D.int (w : Int)) k = .int (ws[k] : Nat) := by
  refine nth_of ?_
  rw [List.getElem?_map, List.getElem?_eq_getElem h]
  rfl
theorem pure_lowest {T : Cfg} (hT : ShOk T) : ∀ E ds μ P XP, pu (c_lowest T) ds μ P XP → SV T (t_lowest T E) (fun cls dd _ H => E cls dd H) ⟨slots 3 ds, μ⟩ (fnK P XP) := Hd.o (by
 simp (disch :=
 with_unfolding_all
 exact by
  rintro E ds μ P XP ⟨rfl, Pf, Xf, ⟨ws, rfl, hs, hl, hb, p⟩, hP, hX⟩
  unfold t_lowest
  walk_at "pks"
  refine sv_forX (X := Nat) (fun _ x => [some (wtsD ws), some (.int (x : Int)), none]) (fun k x μ => μ = mu0 ∧ x = gcdL (ws.take k)) ?_
  refine iv_tup ?_
  walk_at "pks"
  refine ⟨_, rfl, 0, by walk_at "le", ⟨rfl, rfl⟩, fun k x μ hk hj => ?_, fun s' x hr hj => ?_⟩
  · obtain ⟨rfl, rfl⟩ := hj
    have hk' : k < ws.length := by simpa using hk
    rw [nth_wts hk']
    walk_at "pks"
    refine ⟨ws[k], gcdL (ws.take k), rfl, ?_⟩
    walk_at "pks"
    refine ⟨gcdL (ws.take (k + 1)), ?_, rfl, rfl⟩
    rw [List.take_succ, List.getElem?_eq_getElem hk', Option.toList_some, gcdL_snoc]
    walk_at "le"
  · obtain ⟨hm, rfl⟩ := hj
    have ht : ws.take ((ws.map fun w : Nat => D.int (w : Int)).length) = ws := by rw [List.length_map, List.take_length]
    refine seqK_res hr ?_
    rw [ht]
    have g0 := gcdL_pos hs
    walk_at "pks"
    refine ev_lcU ?_
    walk_at "pks"
    refine ⟨_, fun e => .int ((intOf e).fdiv (gcdL ws : Nat)), rfl, by simpa using hl, fun e he => ?_, ?_⟩
    · obtain ⟨w, hw, rfl⟩ := List.mem_map.1 he
      walk_at "pks"
      refine ov_fdiv ⟨by omega, ?_⟩ ⟨rfl, rfl⟩
      obtain ⟨v, hv, hle⟩ := gcdL_le hs
      have := hb v hv
      rw [Int.natAbs_natCast, Nat.log2_lt (by omega)]
      exact Nat.lt_trans (Nat.lt_of_le_of_lt hle this) (Nat.pow_lt_pow_right (by decide) (by decide))
    · walk_at "pks"
      refine cv_tupI (.inl rfl) ?_
      walk_at "pks"
      have e : D.tup ((ws.map fun w : Nat => D.int (w : Int)).map fun e => .int ((intOf e).fdiv (gcdL ws : Nat))) = wtsD (low ws) := by
        unfold wtsD low
        rw [List.map_map, List.map_map]
        refine congrArg D.tup (List.map_congr_left fun w _ => ?_)
        show D.int (((w : Nat) : Int).fdiv (gcdL ws : Nat)) = D.int ((w / gcdL ws : Nat) : Int)
        rw [Int.ofNat_fdiv]
      rw [e]
      exact hP _ p
 ) only [↓hE])
theorem wts_dpy : ∀ ws : List Nat, DPyL (ws.map fun w : Nat => D.int (w : Int)) ((ws.map fun w : Nat => (w : Int)).map PyData.int) := by
  intro ws
  induction ws with
  | nil => exact .nil
  | cons w ws ih => exact .cons (.int _) ih
theorem stp_dpy (s : Stp) : DPy (stpD s) (stpP s) := .tup (.cons (.int _) (.cons (.str _) (.cons (.tup (wts_dpy _)) .nil)))
theorem stp_alike (s s' : Stp) : PySem.W.alike (stpP s) (stpP s') = true := by
  simp only [stpP, PySem.W.alike, PySem.W.alikeAll, PySem.W.alike_ints, Bool.and_self]
theorem stp_depth (s : Stp) : (stpP s).depth ≤ 8 := by
  simp only [stpP, PyData.depth, PyData.depthAll, PySem.W.depth_ints]
  decide
theorem mk_perm (ss : List Stp) : (mkS ss).Perm (ss.map lowS) := List.mergeSort_perm _ _
theorem keyS_low (ss : List Stp) : (ss.map lowS).map keyS = ss.map keyS := by
  rw [List.map_map]
  rfl
theorem Sok.low {m : Nat} {s : Stp} (h : Sok m s) : Sok m (lowS s) := ⟨h.rm, h.nm, by show (Far.low s.2.2).length = m; rw [low_len]; exact h.ln, low_pos h.ps, low_bd h.bd⟩
theorem Good.made {m : Nat} {ss : List Stp} (h : Good m ss) : Good m (mkS ss) where
  m1 := h.m1
  m12 := h.m12
  ln := by rw [(mk_perm ss).length_eq, List.length_map]; exact h.ln
  nd := by rw [((mk_perm ss).map keyS).nodup_iff, keyS_low]; exact h.nd
  ok := fun s hs => by
    have := (mk_perm ss).mem_iff.1 hs
    obtain ⟨s', h', rfl⟩ := List.mem_map.1 this
    exact (h.ok s' h').low
structure MaOk (T : Cfg) : Prop where
  sh : ShOk T
  cl : Cls T.K (T.cls 1)
  nm : NoAttr T.K (T.cls 1) "many"
  ns : NoAttr T.K (T.cls 1) "steps"
  no : NoAttr T.K (T.cls 1) "onward"
theorem wts_nat {ws : List Nat} : ((ws.map fun w : Nat => D.int (w : Int)).all natB = true) ∧ ((ws.map fun w : Nat => D.int (w : Int)).map intOf).sum = (ws.sum : Int) := by
  induction ws with
  | nil => exact ⟨rfl, rfl⟩
  | cons w ws ih =>
    refine ⟨?_, ?_⟩
    · rw [List.map_cons, List.all_cons, ih.1]
      simp [natB]
    · rw [List.map_cons, List.map_cons, List.sum_cons, ih.2, List.sum_cons]
      simp [intOf]
theorem Sok.good {m : Nat} {s : Stp} (h : Sok m s) : stpB m (stpD s) = true := by
  show (betw (.int (s.1 : Int)) 0 ((m : Int) - 1) && (nmB s.2.1 && wtsB m (wtsD s.2.2))) = true
  have h1 : betw (.int (s.1 : Int)) 0 ((m : Int) - 1) = true := by
    have := h.rm
    show (decide (0 ≤ (s.1 : Int)) && decide ((s.1 : Int) ≤ (m : Int) - 1)) = true
    rw [decide_eq_true (by omega), decide_eq_true (by omega)]
    rfl
  have h2 : wtsB m (wtsD s.2.2) = true := by
    show (decide (((s.2.2.map fun w : Nat => D.int (w : Int)).length : Int) = (m : Int)) && ((s.2.2.map fun w : Nat => D.int (w : Int)).all natB && decide (0 < ((s.2.2.map fun w : Nat => D.int (w : Int)).map intOf).sum))) = true
    have := h.ln
    have := h.ps
    rw [wts_nat.1, wts_nat.2, decide_eq_true (by simp; omega), decide_eq_true (by omega)]
    rfl
  rw [h1, h2, h.nm]
  rfl
theorem key_stp (s : Stp) : keyOf (stpD s) = [.inl (s.1 : Int), .inr s.2.1] := rfl
theorem Good.steps {m : Nat} {ss : List Stp} (h : Good m ss) : stepsB m (.lst (ss.map stpD)) = true := by
  show ((ss.map stpD).all (stpB m) && decide ((ss.map stpD).map keyOf).Nodup) = true
  have h1 : (ss.map stpD).all (stpB m) = true := by
    rw [List.all_map, List.all_eq_true]
    exact fun s hs => (h.ok s hs).good
  have h2 : ((ss.map stpD).map keyOf).Nodup := by
    rw [List.map_map]
    have := h.nd
    unfold List.Nodup at this ⊢
    rw [List.pairwise_map] at this ⊢
    refine this.imp fun {a b} hab e => hab ?_
    rw [Function.comp, Function.comp, key_stp, key_stp] at e
    simp only [List.cons.injEq, Sum.inl.injEq, Sum.inr.injEq] at e
    exact Prod.ext (by have := e.1; show a.1 = b.1; omega) e.2.1
  rw [h1, decide_eq_true h2]
  rfl
theorem th0_int {T : Cfg} (hT : ShOk T) (i : Int) : Th0 T (.int i) := ⟨⟨_, th_int hT i⟩, fun x h => by cases h⟩
theorem th0_tup {T : Cfg} (hT : ShOk T) (ds : List D) : Th0 T (.tup ds) := ⟨⟨_, th_tup hT ds⟩, fun x h => by cases h⟩
theorem th0_lst {T : Cfg} (hT : ShOk T) (ds : List D) : Th0 T (.lst ds) := ⟨⟨_, th_lst hT ds⟩, fun x h => by cases h⟩
theorem th0_str {T : Cfg} (hT : ShOk T) {x : Str} (hx : x.length ≤ 100000) : Th0 T (.str x) := ⟨⟨_, th_str hT x⟩, fun y h => by cases h; exact hx⟩
theorem nm_len {x : Str} (h : nmB x = true) : x.length ≤ 8 := by
  unfold nmB at h
  rw [Bool.and_eq_true, Bool.and_eq_true] at h
  exact of_decide_eq_true h.2.1
theorem Th0.one {T : Cfg} {d : D} (h : Th0 T d) (hd : ∀ es, d ≠ .tup es) : Th1 T d := ⟨h, fun es e => absurd e (hd es)⟩
theorem Sok.th {T : Cfg} (hT : ShOk T) {m : Nat} (hm : m ≤ 12) {s : Stp} (h : Sok m s) : Th2 T (stpD s) := by
  refine ⟨th0_tup hT _, fun es he e hm' => ?_⟩
  cases he
  simp only [List.mem_cons, List.not_mem_nil, or_false] at hm'
  rcases hm' with rfl | rfl | rfl
  · exact (th0_int hT _).one fun _ h => by cases h
  · exact (th0_str hT (Nat.le_trans (nm_len h.nm) (by decide))).one fun _ h => by cases h
  · refine ⟨th0_tup hT _, fun es he => ?_⟩
    cases he
    refine ⟨?_, fun e he => ?_⟩
    · have := h.ln
      simp
      omega
    · obtain ⟨w, _, rfl⟩ := List.mem_map.1 he
      exact th0_int hT _
def lowD : D → D
  | .tup [a, b, .tup ws] => .tup [a, b, wtsD (low (ws.map fun d => (intOf d).toNat))]
  | d => d
theorem lowD_stp (s : Stp) : lowD (stpD s) = stpD (lowS s) := by
  show D.tup [_, _, wtsD (low _)] = D.tup [_, _, wtsD (low s.2.2)]
  rw [List.map_map]
  have : (s.2.2.map ((fun d => (intOf d).toNat) ∘ fun w : Nat => D.int (w : Int))) = s.2.2 := by
    conv => rhs; rw [← List.map_id s.2.2]
    exact List.map_congr_left fun w _ => rfl
  rw [this]
  rfl
theorem mrow_snoc (ss : List Stp) (s : Stp) (r : Nat) : mrow (ss ++ [s]) r = if s.1 = r then mrow ss r ++ [(.inr s.2.1, wtsD s.2.2)] else mrow ss r := by
  unfold mrow
  rw [List.filter_append, List.map_append]
  by_cases e : s.1 = r
  · rw [if_pos e]
    simp [e]
  · rw [if_neg e]
    simp [e]
theorem mrow_fresh {ss : List Stp} {s : Stp} (h : keyS s ∉ ss.map keyS) : (.inr s.2.1 : Key) ∉ (mrow ss s.1).map Prod.fst := by
  intro hk
  unfold mrow at hk
  rw [List.map_map] at hk
  obtain ⟨s', h1, h2⟩ := List.mem_map.1 hk
  rw [List.mem_filter] at h1
  refine h (List.mem_map.2 ⟨s', h1.1, Prod.ext (of_decide_eq_true h1.2) ?_⟩)
  have h2 : (Sum.inr s'.2.1 : Key) = Sum.inr s.2.1 := h2
  exact Sum.inr.inj h2
theorem mrow_len (ss : List Stp) (r : Nat) : (mrow ss r).length ≤ ss.length := by
  unfold mrow
  rw [List.length_map]
  exact List.length_filter_le _ _
theorem at_nat {α : Type} {l : List α} {k : Nat} {a : α} (h : l[k]? = some a) : atI l (k : Int) = some a := by
  have hk : k < l.length := (List.getElem?_eq_some_iff.1 h).1
  have e : ixN l.length (k : Int) = some k := by
    unfold ixN
    rw [if_pos (by omega), if_pos (by omega)]
    rfl
  unfold atI
  rw [e]
  exact h
theorem get_of_nodup {ps : List Addr} (h : ps.Nodup) {i j : Nat} {p : Addr} (hi : ps[i]? = some p) (hj : ps[j]? = some p) : i = j := by
  obtain ⟨h1, e1⟩ := List.getElem?_eq_some_iff.1 hi
  obtain ⟨h2, e2⟩ := List.getElem?_eq_some_iff.1 hj
  exact (List.getElem_inj h).1 (e1.trans e2.symm)
def inF (m : Nat) (st : List Stp) (ps : List Addr) : List (Str × D) := [("many", .int (m : Int)), ("steps", .lst (st.map stpD)), ("onward", .lst (ps.map D.ptr))]
theorem pure_Machine___init__ {T : Cfg} (hT : MaOk T) : ∀ E ds μ P XP, ini 1 (c_Machine___init__ T) ds μ P XP → SV T (t_Machine___init__ T E) (fun cls dd _ H => E cls dd H) ⟨slots 6 ds, μ⟩ (fnK P XP) := Hd.o (by
 simp (disch :=
 with_unfolding_all
 exact by
  rintro E ds μ P XP ⟨a, rest, rfl, rfl, Pf, Xf, ⟨m, ss, rfl, hg, p⟩, hP, hX⟩
  have hS := hT.sh
  have m1 := hg.m1
  have m12 := hg.m12
  unfold t_Machine___init__
  walk_at "pws"
  refine betwT (th_int hS _) ?_
  walk_at "pws"
  have hb : betw (.int (m : Int)) 1 12 = true := by
    show (decide (1 ≤ (m : Int)) && decide ((m : Int) ≤ 12)) = true
    rw [decide_eq_true (by omega), decide_eq_true (by omega)]
    rfl
  rw [hb]
  refine ⟨true, rfl, fun h => (by cases h), fun _ => ?_⟩
  walk_at "pws"
  refine ⟨_, (m : Int), rfl, th0_lst hS _, fun es he => ?_, ?_⟩
  · cases he
    refine ⟨by rw [List.length_map]; exact hg.ln, fun e he => ?_⟩
    obtain ⟨s, hs, rfl⟩ := List.mem_map.1 he
    exact (hg.ok s hs).th hS m12
  rw [hg.steps]
  refine ⟨true, rfl, fun h => (by cases h), fun _ => ?_⟩
  walk_at "pws"
  refine ⟨a, 1, [], rfl, put_same, hT.cl, hT.nm, by decide, ?_⟩
  rw [put_put]
  walk_at "pws"
  refine ev_lcF3 ?_
  walk_at "pws"
  refine ⟨ss.map stpD, lowD, .inl rfl, by rw [List.length_map]; exact Nat.le_trans hg.ln (by decide), fun e he => ?_, ?_⟩
  · obtain ⟨s, hs, rfl⟩ := List.mem_map.1 he
    refine ⟨_, _, _, rfl, ?_⟩
    have ok := hg.ok s hs
    walk_at "pws"
    refine ⟨s.2.2, rfl, ok.ps, by have := ok.ln; omega, ok.bd, ?_⟩
    walk_at "pws"
    exact ⟨(lowD_stp s).symm, rfl⟩
  walk_at "pws"
  refine cv_sortE (f := stpD) (enc := stpP) (bs := ss.map lowS) (.inl ?_) (fun s _ => stp_dpy s) (.of stp_alike) (.tuples fun s => ⟨_, _, rfl⟩) (fun s _ => stp_depth s) ?_
  · rw [List.map_map, List.map_map]
    exact congrArg D.lst (List.map_congr_left fun s _ => lowD_stp s)
  show EV T (tVar 0) _ _ (fun d μ2 => _) _
  walk_at "pws"
  refine ⟨a, 1, _, rfl, put_same, hT.cl, hT.ns, (by show 1 < 1000; decide), ?_⟩
  rw [put_put]
  have hgm := hg.made
  have est : (ss.map lowS).mergeSort (PySem.W.dataLe false stpP) = mkS ss := rfl
  rw [est]
  generalize mkS ss = st at hgm p ⊢
  walk_at "pws"
  generalize hgs : putG "steps" (D.lst (st.map stpD)) (putG "many" (D.int (m : Int)) []) = gs0
  refine ev_lc (is := [3]) (fun _ h => h) (iv_rng1 ?_)
  walk_at "pws"
  refine ⟨(m : Int), rfl, by omega, by omega, by omega, fun k acc μ' => ∃ ps : List Addr, acc = ps.map D.ptr ∧ ps.length = k ∧ ps.Nodup ∧ (∀ q ∈ ps, μ' q = some (.dK [])) ∧ μ' a = some (.ins 1 gs0), ⟨[], rfl, rfl, List.nodup_nil, fun q h => (List.not_mem_nil h).elim, put_same⟩, fun k acc μ' hk _ hI => ?_, fun acc μ' hI => ?_⟩
  · obtain ⟨ps, rfl, hl, hn, hps, ha⟩ := hI
    refine gv_name ?_
    walk_at "pws"
    refine ⟨fun _ => ?_, fun h => (by cases h)⟩
    refine ev_dnewM fun q hq => ?_
    have hqp : q ∉ ps := fun h => by rw [hps q h] at hq; cases hq
    have hqa : a ≠ q := fun h => by rw [← h, ha] at hq; cases hq
    refine ⟨ps ++ [q], by simp, by simp [hl], ?_, fun b hb => ?_, ?_⟩
    · rw [List.nodup_append]
      refine ⟨hn, by simp, fun x hx y hy e => hqp ?_⟩
      simp at hy
      rw [← hy, ← e]
      exact hx
    · rcases List.mem_append.1 hb with h | h
      · have : b ≠ q := fun e => hqp (e ▸ h)
        rw [put_ne this]
        exact hps b h
      · simp at h
        rw [h]
        exact put_same
    · rw [put_ne hqa]
      exact ha
  obtain ⟨ps, rfl, hl, hn, hps, ha⟩ := hI
  have hl : ps.length = m := by rw [hl]; omega
  have hap : a ∉ ps := fun h => by rw [hps a h] at ha; cases ha
  walk_at "pws"
  refine ⟨a, 1, _, rfl, ha, hT.cl, hT.no, (by rw [← hgs]; show 2 < 1000; decide), ?_⟩
  have egs : putG "onward" (D.lst (ps.map D.ptr)) gs0 = inF m st ps := by rw [← hgs]; rfl
  rw [egs]
  walk_at "pws"
  refine sv_stlI (a := a) (c := 1) ?_
  refine sv_for3T ?_
  refine ev_fldM ?_
  walk_at "pws"
  refine ⟨a, 1, _, _, rfl, put_same, hT.cl, hT.ns, rfl, st.map stpD, [some (.ptr a), none, none, none, none, none], fun n μ => μ a = some (.ins 1 (inF m st ps)) ∧ ∀ j q, ps[j]? = some q → μ q = some (.dK (mrow (st.take n) j)), .inl rfl, by walk_at "le", ⟨put_same, fun j q hq => ?_⟩, fun n e μ1 he hj => ?_, fun s' hr hj => ?_⟩
  · have hm : q ∈ ps := List.mem_of_getElem? hq
    have : q ≠ a := fun e => hap (e ▸ hm)
    rw [put_ne this]
    exact hps q hm
  · obtain ⟨ja, jp⟩ := hj
    rw [List.getElem?_map] at he
    obtain ⟨s, hs, rfl⟩ := Option.map_eq_some_iff.1 he
    have hmem : s ∈ st := List.mem_of_getElem? hs
    have ok := hgm.ok s hmem
    have hn' : n < st.length := (List.getElem?_eq_some_iff.1 hs).1
    obtain ⟨q, hq⟩ : ∃ q, ps[s.1]? = some q := ⟨_, List.getElem?_eq_getElem (by rw [hl]; exact ok.rm)⟩
    have hqm : q ∈ ps := List.mem_of_getElem? hq
    refine ⟨_, _, _, rfl, ?_⟩
    refine sv_dput ?_
    walk_at "pws"
    refine ev_fldM ?_
    walk_at "pws"
    refine ⟨a, 1, _, _, rfl, ja, hT.cl, hT.no, rfl, ?_⟩
    walk_at "pws"
    refine ov_ixL (.inl rfl) (at_nat (a := .ptr q) (by rw [List.getElem?_map, hq]; rfl)) ?_
    walk_at "pws"
    have hfr : keyS s ∉ (st.take n).map keyS := by
      have hnd := hgm.nd
      intro hin
      rw [List.map_take] at hin
      obtain ⟨i, hi⟩ := List.getElem?_of_mem hin
      have hi2 : i < n := by
        have := (List.getElem?_eq_some_iff.1 hi).1
        rw [List.length_take] at this
        omega
      rw [List.getElem?_take_of_lt hi2] at hi
      have h2 : (st.map keyS)[n]? = some (keyS s) := by rw [List.getElem?_map, hs]; rfl
      obtain ⟨b1, e1⟩ := List.getElem?_eq_some_iff.1 hi
      obtain ⟨b2, e2⟩ := List.getElem?_eq_some_iff.1 h2
      have := (List.getElem_inj hnd).1 (e1.trans e2.symm)
      omega
    refine ⟨q, _, .inr s.2.1, rfl, jp _ q hq, rfl, ?_, mrow_fresh hfr, ?_⟩
    · have h1 := mrow_len (st.take n) s.1
      have h2 : (st.take n).length ≤ st.length := by rw [List.length_take]; omega
      have h3 := hgm.ln
      omega
    · refine ⟨by walk_at "le", ?_, fun j q' hq' => ?_⟩
      · have : a ≠ q := fun e => hap (e ▸ hqm)
        exact (put_ne this).trans ja
      · rw [List.take_succ, hs, Option.toList_some, mrow_snoc]
        by_cases e : s.1 = j
        · subst e
          rw [hq] at hq'
          cases hq'
          rw [if_pos rfl]
          exact put_same
        · rw [if_neg e]
          refine (put_ne (fun h => e (get_of_nodup hn hq ?_))).trans (jp j q' hq')
          rw [← h]
          exact hq'
  · obtain ⟨ja, jp⟩ := hj
    refine stK_nx ⟨_, maF m st, ja, rfl, fun i g g' h1 h2 => ?_, ?_⟩
    · match i, h1, h2 with
      | 0, h1, h2 => cases h1; cases h2; exact .refl _
      | 1, h1, h2 => cases h1; cases h2; exact .refl _
      | 2, h1, h2 =>
        cases h1; cases h2
        refine .lst (by simp [hl]) fun j x y hx hy => ?_
        rw [List.getElem?_map] at hx hy
        obtain ⟨q, hq, rfl⟩ := Option.map_eq_some_iff.1 hx
        obtain ⟨j', hj', rfl⟩ := Option.map_eq_some_iff.1 hy
        have : j' = j := by
          obtain ⟨b1, e1⟩ := List.getElem?_eq_some_iff.1 hj'
          rw [List.getElem_range] at e1
          exact e1.symm
        subst this
        refine .own ?_
        rw [jp j' q hq, List.length_map, List.take_length]
      | n + 3, h1, h2 => simp [maF] at h2
    · exact hP _ p
 ) only [↓hE])
def lookS (ss : List Stp) (r : Nat) (x : Str) : Option (List Nat) := (ss.find? fun s => decide (keyS s = (r, x))).map fun s => s.2.2
def menuS (ss : List Stp) (r : Nat) : List Str := ((ss.filter fun s => decide (s.1 = r)).map fun s => s.2.1).mergeSort (PySem.W.dataLe false PyData.str)
def heapQ (ws : List Nat) : List Rat := ws.map fun w : Nat => Rat.divInt (w : Int) (ws.sum : Int)
def heapD : Option (List Nat) → D
  | none => .non
  | some ws => .lst ((heapQ ws).map shD)
section
variable {T : Cfg} {W : WX} {ρ : List (Option D)} {m0 : Mu} {XP : XW} {P : D → Mu → Prop} {ta : TE}
theorem ev_many (hT : MaOk T) (h : EV T ta W ⟨ρ, m0⟩ (fun d μ => ∃ m ss, d = maD m ss ∧ P (.int (m : Int)) μ) XP) : EV T (tFld T.K ta "many") W ⟨ρ, m0⟩ P XP :=
  ev_fld (h.imp fun d μ ⟨m, ss, e, p⟩ => ⟨1, _, _, e, hT.cl, hT.nm, rfl, p⟩)
theorem ev_steps (hT : MaOk T) (h : EV T ta W ⟨ρ, m0⟩ (fun d μ => ∃ m ss, d = maD m ss ∧ P (.lst (ss.map stpD)) μ) XP) : EV T (tFld T.K ta "steps") W ⟨ρ, m0⟩ P XP :=
  ev_fld (h.imp fun d μ ⟨m, ss, e, p⟩ => ⟨1, _, _, e, hT.cl, hT.ns, rfl, p⟩)
end
theorem look_mem {ss : List Stp} {r : Nat} {x : Str} {ws : List Nat} (h : lookS ss r x = some ws) : ∃ s ∈ ss, s.1 = r ∧ s.2.1 = x ∧ s.2.2 = ws := by
  unfold lookS at h
  obtain ⟨s, hs, rfl⟩ := Option.map_eq_some_iff.1 h
  have h1 := List.find?_some hs
  have h2 := List.mem_of_find?_eq_some hs
  have h3 := of_decide_eq_true h1
  exact ⟨s, h2, congrArg Prod.fst h3, congrArg Prod.snd h3, rfl⟩
theorem wts_ints (ws : List Nat) : wtsD ws = .tup ((ws.map fun w : Nat => (w : Int)).map D.int) := by
  unfold wtsD
  rw [List.map_map]
  rfl
theorem wts_sum : ∀ ws : List Nat, (ws.map fun w : Nat => (w : Int)).sum = (ws.sum : Int) := by
  intro ws
  induction ws with
  | nil => rfl
  | cons w ws ih => rw [List.map_cons, List.sum_cons, List.sum_cons, ih]; simp
end Far
namespace Pw
open PySem PySem.Spec PyProof.Rows L2
open Evl (Ex ex_l)
theorem get_listP {X : Cx} : PGet X (rIxL X.K) := by
  intro pins s σ H o i ov iv Q I ro ri h
  obtain ⟨p, xs, k, z, rfl, rfl, hq, he, q⟩ := h
  cases ro
  obtain ⟨t, rfl⟩ := ri
  obtain ⟨its, r, pl, hz⟩ := I.list hq
  obtain ⟨j, h1, h2, h3, h4, h5⟩ := atI_get he
  obtain ⟨w, ew, rw'⟩ := r.get h2
  have hl := r.length
  have hn := line63
  have fin : EP X pins σ Q w s := ⟨z, H, I, rw', q⟩
  by_cases h0 : 0 ≤ k
  · have hj : k.toNat = j := by
      rw [seqIndex_of h0 h5] at h1
      exact Option.some.inj h1
    exact wpAny_getItem_list pl.isList h0 (by omega) (by rw [hj]; simpa using ew) fin
  · have hj : (k + (its.toArray.size : Int)).toNat = j := by
      rw [seqIndex_neg (by omega) h4] at h1
      rw [List.size_toArray, ← hl]
      exact Option.some.inj h1
    exact wpAny_getItem_list_neg pl.isList (by omega) (by rw [List.size_toArray] <;> omega) (by omega) (by rw [hj]; simpa using ew) fin
section
variable {T : Cfg} {W : WX} {ρ : List (Option D)} {m0 : Mu} {K : Out → Prop} {to ti te : TE}
theorem sv_augL {f : Int → Int → Int} (h : EV T to W ⟨ρ, m0⟩ (fun d μ1 => EV T ti W ⟨ρ, μ1⟩ (fun i μ2 => ∃ a ds k j n, d = .ptr a ∧ μ2 a = some (.lst ds) ∧ i = .int k ∧ ixN ds.length k = some j ∧ atI ds k = some (.int n) ∧
      EV T te W ⟨ρ, μ2⟩ (fun e μ3 => ∃ ds3 b j3, μ3 a = some (.lst ds3) ∧ e = .int b ∧ ixN ds3.length k = some j3 ∧ K (.nx ⟨ρ, put μ3 a (.lst (ds3.set j3 (.int (f n b))))⟩)) (xk ⟨ρ, m0⟩ K)) (xk ⟨ρ, m0⟩ K)) (xk ⟨ρ, m0⟩ K)) :
    SV T (tAugS to ti te (rIxL T.K) (ipI f) rSetL) W ⟨ρ, m0⟩ K := fun σ Hb H Dn S c => by
  refine h σ Hb H _ S (fun d μ1 v Hb1 H1 g1 r1 p1 => ?_) (c.x S)
  refine p1 σ Hb1 H1 _ (S.go g1) (fun i μ2 w Hb2 H2 g2 r2 p2 => ?_) (fun x μ' cls dd Hb' H' g r k => c.x S x μ' cls dd Hb' H' (g1.trans g) r k)
  obtain ⟨a, ds, k, j, n, rfl, hm, rfl, hj, hn, p2⟩ := p2
  cases r1
  cases r2
  obtain ⟨_, o, ho, rr⟩ := g2.mu a _ hm
  cases o with
  | lst xs =>
    have rr : RepL T Hb2 ds xs := rr
    obtain ⟨z, at_, rz⟩ := at_rep rr hn
    cases rz
    refine ⟨a, xs, k, .int n, rfl, rfl, Evl.sq_of ho, at_, ?_⟩
    refine p2 σ Hb2 H2 _ ((S.go g1).go g2) (fun e μ3 u Hb3 H3 g3 r3 p3 => ?_) (fun x μ' cls dd Hb' H' g r k => c.x S x μ' cls dd Hb' H' ((g1.trans g2).trans g) r k)
    obtain ⟨ds3, b, j3, hm3, rfl, hj3, kk⟩ := p3
    cases r3
    obtain ⟨_, o3, ho3, rr3⟩ := g3.mu a _ hm3
    cases o3 with
    | lst ys =>
      have rr3 : RepL T Hb3 ds3 ys := rr3
      have g4 := Go.chg g3.sub g3.mu (p := a) (o := .lst (ys.set j3 (.int (f n b)))) (z := .lst (ds3.set j3 (.int (f n b)))) hm3 (rr3.set (.int _))
      have g := ((g1.trans g2).trans g3).trans g4
      exact ⟨n, b, rfl, rfl, a, ys, k, j3, rfl, rfl, ho3, by rw [← rr3.1]; exact hj3, c.nx _ _ _ _ g (S.go g) kk⟩
    | _ => exact rr3.elim
  | _ => exact rr.elim
end
section
variable {T : Cfg} {W : WX} {s : S} {ρ : List (Option D)} {m0 μ μ1 : Mu} {P : D → Mu → Prop} {XP : XW} {kb kb' : Nat} {f : Addr} {C : CF} {te te' : TE}
theorem FunC.mono (F : FunC T kb f C μ) (h : kb ≤ kb') : FunC T kb' f C μ := by
  obtain ⟨k1, o, cells, cc, sp, caps, h1, h2, h3, h4⟩ := F.ex
  exact ⟨⟨k1, o, cells, cc, sp, caps, h1, Nat.le_trans h2 h, h3, h4⟩⟩
end
end Pw
namespace Far
open PySem PySem.Spec PyProof.Rows L2 Pw
def gonW (ss : List Stp) (r : Nat) (x : Str) : List Nat := (lookS ss r x).getD []
theorem menu_look {ss : List Stp} {r : Nat} {x : Str} (h : x ∈ menuS ss r) : ∃ ws, lookS ss r x = some ws := by
  unfold menuS at h
  rw [List.mem_mergeSort, List.mem_map] at h
  obtain ⟨s, hs, rfl⟩ := h
  rw [List.mem_filter] at hs
  unfold lookS
  cases e : ss.find? fun z => decide (keyS z = (r, s.2.1)) with
  | some z => exact ⟨_, rfl⟩
  | none =>
    have := List.find?_eq_none.1 e s hs.1
    have h2 : s.1 = r := by simpa using hs.2
    exact absurd (by simp [keyS, h2]) this
end Far
namespace Pw
open PySem PySem.Spec PyProof.Rows L2
open Evl (Ex ex_l ex_t fresh_back)
section
variable {T : Cfg} {W : WX} {ρ : List (Option D)} {m0 : Mu} {K : Out → Prop} {P : D → Mu → Prop} {μ : Mu}
def joinK (J : S → Prop) : Out → Prop
  | .nx s => J s
  | _ => False
theorem sv_ifJ {t : TT} {u v : TS} (J : S → Prop) (h : TV T t W ⟨ρ, m0⟩ (fun b μ => (b = true → SV T u W ⟨ρ, μ⟩ (joinK J)) ∧ (b = false → SV T v W ⟨ρ, μ⟩ (joinK J))) (fun _ _ => False)) (k : ∀ s, J s → K (.nx s)) : SV T (tIfS t u v) W ⟨ρ, m0⟩ K := by
  have hk : ∀ o, joinK J o → K o := fun o ho => by
    cases o <;> first | exact k _ ho | exact ho.elim
  refine sv_if fun σ Hb H Q S q x => h σ Hb H Q S (fun b μ Hb' H' g p => q b μ Hb' H' g ⟨fun e => (p.1 e).imp hk, fun e => (p.2 e).imp hk⟩) (fun _ _ _ _ _ _ _ _ h => h.elim)
theorem cv_tupM {a : Addr} {ds : List D} (hm : μ a = some (.lst ds)) (p : P (.tup ds) μ) : CV T (rTupOf T.K) [.ptr a] μ P := fun xs Hb H Q ex sm r q => by
  obtain ⟨v, rfl, r1⟩ := one_inv r
  cases r1
  obtain ⟨hb, o, ho, ro⟩ := sm a _ hm
  cases o with
  | lst ys =>
    have ro : RepL T Hb ds ys := ro
    refine ⟨a, ys, rfl, .inl ⟨.inl (.inl ho), fun l hl => ?_⟩⟩
    have g := Go.lay ex sm (o := .tup ys) hl
    have rl := ro.mono g.ex
    exact q _ _ _ _ _ g (.tup (.inl (.inl upd_same)) rl.1 rl.2) p
  | _ => exact ro.elim
end
end Pw
namespace Far
open PySem PySem.Spec PyProof.Rows L2 Pw
abbrev wD (ws : List Nat) : List D := ws.map fun w : Nat => D.int (w : Int)
theorem wD_set (ws : List Nat) (j i : Nat) : (wD ws).set j (.int (i : Int)) = wD (ws.set j i) := by
  unfold wD
  rw [List.map_set]
theorem wD_get {ws : List Nat} {j : Nat} (h : j < ws.length) : (wD ws)[j]? = some (.int (ws[j] : Nat)) := by
  rw [List.getElem?_map, List.getElem?_eq_getElem h]
  rfl
theorem ixN_nat {n k : Nat} (h : k < n) : ixN n (k : Int) = some k := by
  unfold ixN
  rw [if_pos (by omega), if_pos (by omega)]
  rfl
theorem sum_set : ∀ (ws : List Nat) (j d : Nat) (h : j < ws.length), (ws.set j (ws[j] + d)).sum = ws.sum + d := by
  intro ws
  induction ws with
  | nil => intro j d h; simp at h
  | cons w ws ih =>
    intro j d h
    cases j with
    | zero => simp; omega
    | succ j =>
      have := ih j d (by simpa using h)
      simp only [List.set_cons_succ, List.getElem_cons_succ, List.sum_cons, this]
      omega
theorem le_sum {ws : List Nat} {b : Nat} (h : ws.sum ≤ b) : ∀ w ∈ ws, w ≤ b := fun w hw => Nat.le_trans (sum_of_mem hw) h
def c_Lweights (T : Cfg) : Nat → List D → (D → Nat → Prop) → Prop := fun b rest P => ∃ n : Nat, rest = [.int (n : Int)] ∧ 1 ≤ n ∧ n ≤ 14 ∧ 40 ≤ b ∧ ∀ (ws : List Nat) (b' : Nat), ws.length = n → 0 < ws.sum → ws.sum ≤ 6 * n + 6 → (∀ w ∈ ws, w ≤ 12) → b ≤ b' + 40 → P (wtsD ws) b'
theorem len_Lweights {T : Cfg} : ∀ ds μ P XP, wl (c_Lweights T) ds μ P XP → ds.length = 2 := by
  rintro ds μ P XP ⟨a, b, rest, rfl, rfl, Pf, ⟨n, rfl, _⟩, _⟩; rfl
def t_Lweights (T : Cfg) (E : XK) : TS := (tSeq (tAsg (tCall (spOf T (wl (c_Ldraw T))) [] E0 (tCons (tVar 0) (tCons (tC (.int 4)) tNil))) (gName 2))
    (tSeq (tAsg (tOp rRep (tLst (tCons (tC (.int 0)) tNil)) (tVar 1)) (gName 3))
    (tSeq (tIfS (tTest (tOp (rI0 fun i j => .bl (decide (i < j))) (tVar 2) (tC (.int 3)))) (tFor (iRng1 (tCons (tOp (rI0 fun i j => .int (i + j)) (tC (.int 1)) (tCB rInt1 (tCons (tOp (rI0 fun i j => .bl (decide (j < i))) (tVar 2) (tC (.int 0))) tNil))) tNil)) (gName 4) (tSeq (tAsg (tCall (spOf T (wl (c_Ldraw T))) [] E0 (tCons (tVar 0) (tCons (tVar 1) tNil))) (gName 5))
    (tAsg (tOp (rI0 fun i j => .int (i + j)) (tOp (rI0 fun i j => .int (i + j)) (tOp (rIxL T.K) (tVar 3) (tVar 5)) (tC (.int 1))) (tCall (spOf T (wl (c_Ldraw T))) [] E0 (tCons (tVar 0) (tCons (tC (.int 5)) tNil)))) (gSub (tVar 3) (tVar 5) rSetL)))) (tAsg (tLc (iRng1 (tCons (tVar 1) tNil)) (gName 6) tYes (tCall (spOf T (wl (c_Ldraw T))) [] E0 (tCons (tVar 0) (tCons (tC (.int 7)) tNil))) [6]) (gName 3)))
    (tSeq (tIfS (tTest (tOp rEq (tCB (rSum T.K) (tCons (tVar 3) tNil)) (tC (.int 0)))) (tAsg (tC (.int 1)) (gSub (tVar 3) (tCall (spOf T (wl (c_Ldraw T))) [] E0 (tCons (tVar 0) (tCons (tVar 1) tNil))) rSetL)) tNext)
    (tRet (tCB (rTupOf T.K) (tCons (tVar 3) tNil)))))))
theorem b9 (i : Int) (h : i.natAbs < 1000) : Bt 9000 i := Bt.mono (n := 10) (by unfold Bt; omega) (by decide)
theorem rep_sum : ∀ n : Nat, (List.replicate n 0).sum = 0 := by
  intro n
  induction n with
  | zero => rfl
  | succ n ih => rw [List.replicate_succ, List.sum_cons, ih]
theorem pure_Lweights {T : Cfg} (hT : ShOk T) : ∀ E ds μ P XP, wl (c_Lweights T) ds μ P XP → SV T (t_Lweights T E) (fun cls dd _ H => E cls dd H) ⟨slots 7 ds, μ⟩ (fnK P XP) := Hd.o (by
 simp (disch :=
 with_unfolding_all
 exact by
  rintro E ds μ P XP ⟨a, b, rest, rfl, rfl, Pf, ⟨n, rfl, n1, n14, hb, k⟩, hP⟩
  unfold t_Lweights
  walk_at "pks"
  refine ⟨a, b, _, _, rfl, rfl, draw_i (by omega) (by decide) (b9 _ (by decide)) fun v v0 v1 => ?_⟩
  walk_at "pks"
  refine ov_repM1 (by omega) fun p hp => ?_
  have hpa : p ≠ a := by
    intro e
    subst e
    rw [put_same] at hp
    cases hp
  refine seqK_nx ?_
  refine sv_seq ?_
  refine sv_ifJ (fun s => ∃ (p : Addr) (ws : List Nat) (b' : Nat), leR [some (.ptr a), some (.int (n : Int)), none, some (.ptr p), none, none, none] s.r ∧ s.m a = some (.well b') ∧ s.m p = some (.lst (wD ws)) ∧ p ≠ a ∧ ws.length = n ∧ ws.sum ≤ 6 * n + 6 ∧ (∀ w ∈ ws, w ≤ 12) ∧ b ≤ b' + 30) ?_ ?_
  · walk_at "pks"
    refine ⟨fun h => ?_, fun h => ?_⟩
    · walk_at "pks"
      refine sv_forX (X := List Nat × Nat) (fun _ _ => [some (.ptr a), some (.int (n : Int)), none, some (.ptr p), none, none, none]) (fun k x μ => μ a = some (.well x.2) ∧ μ p = some (.lst (wD x.1)) ∧ x.1.length = n ∧ x.1.sum ≤ 6 * k ∧ b ≤ x.2 + 1 + 2 * k) (iv_rng1 ?_)
      walk_at "pks"
      generalize hq : (1 + if decide (0 < v) = true then (1 : Int) else 0) = q
      have q2 : 1 ≤ q ∧ q ≤ 2 := by
        rw [← hq]
        split <;> omega
      refine ⟨by omega, by omega, (List.replicate n 0, b - 1), by walk_at "le", ⟨?_, ?_, by simp, by rw [rep_sum]; omega, by omega⟩, fun j x μ hj hx => ?_, fun s' x hr hx => ?_⟩
      · rw [put_ne (Ne.symm hpa)]
        exact put_same
      · rw [put_same]
        simp [wD]
      · obtain ⟨ws, b'⟩ := x
        obtain ⟨x1, x2, x3, x4, x5⟩ := hx
        have x3 : ws.length = n := x3
        walk_at "pks"
        refine ⟨a, _, _, _, rfl, (put_get x1).symm, draw_i (by omega) (by omega) (b9 _ (by omega)) fun y y0 y1 => ?_⟩
        obtain ⟨y, rfl⟩ := Int.eq_ofNat_of_zero_le y0
        have x2' : put μ a (.well (b' - 1)) p = some (.lst (wD ws)) := by rw [put_ne hpa]; exact x2
        walk_at "pks"
        refine sv_setL ?_
        walk_at "pks"
        refine ov_ixM x2' (at_nat (wD_get (by omega))) ?_
        walk_at "pks"
        refine ⟨a, _, _, _, rfl, rfl, draw_i (by omega) (by decide) (b9 _ (by decide)) fun z z0 z1 => ?_⟩
        obtain ⟨z, rfl⟩ := Int.eq_ofNat_of_zero_le z0
        walk_at "pks"
        refine ⟨p, _, (y : Int), y, rfl, by rw [put_ne hpa]; exact x2, rfl, ixN_nat (by simp; omega), ?_⟩
        have e : (((ws[y]'(by omega) : Nat) : Int) + 1 + (z : Int)) = ((ws[y]'(by omega) + (1 + z) : Nat) : Int) := by omega
        rw [e, wD_set]
        walk_at "pks"
        refine ⟨(ws.set y (ws[y]'(by omega) + (1 + z)), b' - 1 - 1), by walk_at "le", ?_, put_same, by simp [x3], ?_, ?_⟩
        · show put _ _ _ _ = _
          rw [put_ne (Ne.symm hpa)]
          exact put_same
        · show (ws.set y _).sum ≤ _
          rw [sum_set]
          have : ws.sum ≤ 6 * j := x4
          omega
        · show b ≤ b' - 1 - 1 + 1 + 2 * (j + 1)
          have : b ≤ b' + 1 + 2 * j := x5
          have : j < 2 := by omega
          omega
      · obtain ⟨ws, b'⟩ := x
        obtain ⟨x1, x2, x3, x4, x5⟩ := hx
        have x4 : ws.sum ≤ 6 * q.toNat := x4
        have x5 : b ≤ b' + 1 + 2 * q.toNat := x5
        exact ⟨p, ws, b', hr, x1, x2, hpa, x3, by omega, fun w hw => by have := le_sum x4 w hw; omega, by omega⟩
    · walk_at "pks"
      refine ev_lcM (is := [6]) (fun _ h => h) (iv_rng1 ?_)
      walk_at "pks"
      refine ⟨by omega, by omega, by omega, fun j acc μ => ∃ ws b', acc = wD ws ∧ ws.length = j ∧ (∀ w ∈ ws, w ≤ 6) ∧ ws.sum ≤ 6 * j ∧ μ a = some (.well b') ∧ b ≤ b' + 1 + j, ⟨[], b - 1, rfl, rfl, by simp, by simp, ?_, by omega⟩, fun j acc μ hj _ hI => ?_, fun acc μ p' hI _ hp' => ?_⟩
      · rw [put_ne (Ne.symm hpa)]
        exact put_same
      · obtain ⟨ws, b', rfl, x1, x2, x3, x4, x5⟩ := hI
        refine gv_name ?_
        walk_at "pks"
        refine ⟨a, _, _, _, rfl, (put_get x4).symm, draw_i (by omega) (by decide) (b9 _ (by decide)) fun z z0 z1 => ?_⟩
        obtain ⟨z, rfl⟩ := Int.eq_ofNat_of_zero_le z0
        refine ⟨ws ++ [z], b' - 1, by simp [wD], by simp [x1], fun w hw => ?_, ?_, put_same, by omega⟩
        · rcases List.mem_append.1 hw with h | h
          · exact x2 w h
          · simp at h; omega
        · rw [List.sum_append]
          simp
          omega
      · obtain ⟨ws, b', rfl, x1, x2, x3, x4, x5⟩ := hI
        have hpa' : p' ≠ a := fun e => by rw [e, x4] at hp'; cases hp'
        have x1 : ws.length = n := by rw [x1]; omega
        refine ⟨p', ws, b', by walk_at "le", ?_, put_same, hpa', x1, by omega, fun w hw => by have := x2 w hw; omega, by omega⟩
        show put _ _ _ _ = _
        rw [put_ne (Ne.symm hpa')]
        exact x4
  · rintro s ⟨p, ws, b', hr, x1, x2, hpa, x3, x4, x5, x6⟩
    refine seqK_wk hr ?_
    generalize s.m = μ at x1 x2 ⊢
    refine sv_seq ?_
    refine sv_ifJ (fun s => ∃ (ws : List Nat) (b' : Nat), leR [some (.ptr a), some (.int (n : Int)), none, some (.ptr p), none, none, none] s.r ∧ s.m a = some (.well b') ∧ s.m p = some (.lst (wD ws)) ∧ ws.length = n ∧ 0 < ws.sum ∧ ws.sum ≤ 6 * n + 6 ∧ (∀ w ∈ ws, w ≤ 12) ∧ b ≤ b' + 31) ?_ ?_
    · walk_at "pks"
      have e : wD ws = (ws.map fun w : Nat => (w : Int)).map D.int := by
        unfold wD
        rw [List.map_map]
        rfl
      refine cv_sumM (by rw [x2, e]) ?_
      rw [wts_sum]
      walk_at "pks"
      refine ⟨fun h => ?_, fun h => ?_⟩
      · have h0 : ws.sum = 0 := by have := of_decide_eq_true h; omega
        refine sv_setL ?_
        walk_at "pks"
        refine ⟨a, _, _, _, rfl, (put_get x1).symm, draw_i (by omega) (by omega) (b9 _ (by omega)) fun z z0 z1 => ?_⟩
        obtain ⟨z, rfl⟩ := Int.eq_ofNat_of_zero_le z0
        have hz : z < ws.length := by omega
        have hz0 : ws[z] = 0 := by have := sum_of_mem (List.getElem_mem hz); omega
        refine ⟨p, _, (z : Int), z, rfl, by rw [put_ne hpa]; exact x2, rfl, ixN_nat (by simp; omega), ?_⟩
        have e1 : (1 : Int) = ((ws[z] + 1 : Nat) : Int) := by omega
        rw [e1, wD_set]
        refine ⟨ws.set z (ws[z] + 1), b' - 1, by walk_at "le", ?_, put_same, by simp [x3], ?_, ?_, ?_, by omega⟩
        · show put _ _ _ _ = _
          rw [put_ne (Ne.symm hpa)]
          exact put_same
        · rw [sum_set]; omega
        · rw [sum_set]; omega
        · intro w hw
          have := sum_of_mem hw
          rw [sum_set] at this
          omega
      · have h0 : ws.sum ≠ 0 := by have := of_decide_eq_false h; omega
        walk_at "pks"
        exact ⟨ws, b', by walk_at "le", x1, x2, x3, by omega, x4, x5, by omega⟩
    · rintro s ⟨ws, b', hr, x1, x2, x3, x4, x5, x6, x7⟩
      refine seqK_wk hr ?_
      generalize s.m = μ at x1 x2 ⊢
      refine sv_ret (ev_wlo (a := a) ?_)
      walk_at "pks"
      refine cv_tupM x2 ⟨b', x1, ?_⟩
      walk_at "pks"
      exact hP _ _ (k ws b' x3 x4 x5 x6 (by omega))
 ) only [↓hE])
end Far
namespace Pw
open PySem PySem.Spec PyProof.Rows L2
end Pw
namespace Far
open PySem PySem.Spec PyProof.Rows L2 Pw
abbrev Onw := List (Nat × Nat)
abbrev FRow := Nat × Str × Onw
def pos (on : Onw) : Onw := on.filter fun z => decide (0 < z.2)
def add1 (ts : List Nat) (t : Nat) : List Nat := if t ∈ ts then ts else ts ++ [t]
def addA (ts : List Nat) (on : Onw) : List Nat := on.foldl (fun ts z => add1 ts z.1) ts
def tT (S : List (Str × Onw)) (ts : List Nat) : List Nat := S.foldl (fun ts z => addA ts (pos z.2)) ts
def tR (k : Nat) (S : List (Str × Onw)) : List FRow := S.map fun z => (k, z.1, pos z.2)
def bTm (St : Nat → List (Str × Onw)) : Nat → List Nat
  | 0 => [0]
  | k + 1 => tT (St ((bTm St k).getD k 0)) (bTm St k)
def bR (St : Nat → List (Str × Onw)) : Nat → List FRow
  | 0 => []
  | k + 1 => bR St k ++ tR k (St ((bTm St k).getD k 0))
def wsOf (ts : List Nat) (on : Onw) : List Nat := on.foldl (fun ws z => ws.set (ts.idxOf z.1) (ws.getD (ts.idxOf z.1) 0 + z.2)) (List.replicate ts.length 0)
def foS (St : Nat → List (Str × Onw)) (K : Nat) : List Stp := (bR St K).map fun r => (r.1, r.2.1, wsOf (bTm St K) r.2.2)
theorem add1_pre (ts : List Nat) (t : Nat) : ts <+: add1 ts t := by
  unfold add1
  split
  · exact List.prefix_refl _
  · exact List.prefix_append _ _
theorem addA_pre (on : Onw) : ∀ ts, ts <+: addA ts on := by
  induction on with
  | nil => exact fun ts => List.prefix_refl _
  | cons z on ih => exact fun ts => (add1_pre ts z.1).trans (ih _)
theorem tT_pre (S : List (Str × Onw)) : ∀ ts, ts <+: tT S ts := by
  induction S with
  | nil => exact fun ts => List.prefix_refl _
  | cons z S ih => exact fun ts => (addA_pre (pos z.2) ts).trans (ih _)
theorem bT_pre (St : Nat → List (Str × Onw)) {i j : Nat} (h : i ≤ j) : bTm St i <+: bTm St j := by
  induction h with
  | refl => exact List.prefix_refl _
  | step _ ih => exact ih.trans (tT_pre _ _)
theorem mem_add1 {ts : List Nat} {t : Nat} : t ∈ add1 ts t := by
  unfold add1
  split
  · assumption
  · simp
theorem mem_addA {on : Onw} : ∀ {ts : List Nat} {z : Nat × Nat}, z ∈ on → z.1 ∈ addA ts on := by
  induction on with
  | nil => intro ts z h; cases h
  | cons y on ih =>
    intro ts z h
    rcases List.mem_cons.1 h with rfl | h
    · exact (addA_pre on _).subset mem_add1
    · exact ih h
theorem mem_tT {S : List (Str × Onw)} : ∀ {ts : List Nat} {y : Str × Onw} {z : Nat × Nat}, y ∈ S → z ∈ pos y.2 → z.1 ∈ tT S ts := by
  induction S with
  | nil => intro ts y z h; cases h
  | cons x S ih =>
    intro ts y z h hz
    rcases List.mem_cons.1 h with rfl | h
    · exact (tT_pre S _).subset (mem_addA hz)
    · exact ih h hz
def numF : Nat → List Nat → List (Key × D)
  | _, [] => []
  | n, t :: ts => (.inl (t : Int), .int (n : Int)) :: numF (n + 1) ts
theorem numF_app (t : Nat) : ∀ (ts : List Nat) (n : Nat), numF n (ts ++ [t]) = numF n ts ++ [(.inl (t : Int), .int ((n + ts.length : Nat) : Int))]
  | [], n => by simp [numF]
  | a :: ts, n => by
    show (.inl (a : Int), .int (n : Int)) :: numF (n + 1) (ts ++ [t]) = _
    rw [numF_app t ts (n + 1)]
    show _ = (.inl (a : Int), .int (n : Int)) :: (numF (n + 1) ts ++ _)
    rw [List.length_cons, show n + 1 + ts.length = n + (ts.length + 1) by omega]
def prN (z : Nat × Nat) : D := .tup [.int (z.1 : Int), .int (z.2 : Int)]
def frowD (r : FRow) : D := .tup [.int (r.1 : Int), .str r.2.1, .lst (r.2.2.map prN)]
def numsD (ts : List Nat) : List D := ts.map fun t : Nat => D.int (t : Int)
structure FI (μ0 m : Mu) (q e w : Addr) (ts : List Nat) (rs : List FRow) : Prop where
  sub : Subm μ0 m
  tq : m q = some (.lst (numsD ts))
  te : m e = some (.dK (numF 0 ts))
  tw : m w = some (.lst (rs.map frowD))
structure FA (μ0 : Mu) (q e w : Addr) : Prop where
  q0 : μ0 q = none
  e0 : μ0 e = none
  w0 : μ0 w = none
  qe : q ≠ e
  qw : q ≠ w
  ew : e ≠ w
theorem FI.row {μ0 m : Mu} {q e w : Addr} {ts : List Nat} {rs : List FRow} (I : FI μ0 m q e w ts rs) (A : FA μ0 q e w) (r : FRow) : FI μ0 (put m w (.lst (rs.map frowD ++ [frowD r]))) q e w ts (rs ++ [r]) :=
  ⟨I.sub.putN A.w0, by rw [put_ne A.qw]; exact I.tq, by rw [put_ne A.ew]; exact I.te, by rw [put_same, List.map_append]; rfl⟩
theorem FI.thing {μ0 m : Mu} {q e w : Addr} {ts : List Nat} {rs : List FRow} (I : FI μ0 m q e w ts rs) (A : FA μ0 q e w) (t : Nat) : FI μ0 (put (put m e (.dK (numF 0 ts ++ [(.inl (t : Int), .int (ts.length : Int))]))) q (.lst (numsD ts ++ [.int (t : Int)]))) q e w (ts ++ [t]) rs := by
  refine ⟨(I.sub.putN A.e0).putN A.q0, ?_, ?_, ?_⟩
  · rw [put_same]
    unfold numsD
    rw [List.map_append]
    rfl
  · rw [put_ne (fun z => A.qe z.symm), put_same, numF_app, Nat.zero_add]
  · rw [put_ne (fun z => A.qw z.symm), put_ne (fun z => A.ew z.symm)]
    exact I.tw
theorem mem_bR {St : Nat → List (Str × Onw)} : ∀ {K : Nat} {r : FRow}, r ∈ bR St K → ∀ y ∈ r.2.2, y.1 ∈ bTm St K
  | 0, r, h => by cases h
  | K + 1, r, h => by
    intro y hy
    rcases List.mem_append.1 h with h | h
    · exact (bT_pre St (Nat.le_succ K)).subset (mem_bR h y hy)
    · obtain ⟨z, hz, rfl⟩ := List.mem_map.1 h
      exact mem_tT hz hy
def stS (ss : List Stp) (t : Nat) : List (Str × Onw) := (menuS ss t).map fun x => (x, (List.range (gonW ss t x).length).map fun i => (i, (gonW ss t x).getD i 0))
theorem add1_nd {ts : List Nat} {t : Nat} (h : ts.Nodup) : (add1 ts t).Nodup := by
  unfold add1
  split
  · exact h
  · rename_i n
    exact List.nodup_append.2 ⟨h, by simp, fun a ha b hb => by rw [List.mem_singleton.1 hb]; exact fun e => n (e ▸ ha)⟩
theorem addA_nd : ∀ (on : Onw) {ts : List Nat}, ts.Nodup → (addA ts on).Nodup
  | [], _, h => h
  | z :: on, _, h => addA_nd on (add1_nd h)
theorem tT_nd : ∀ (S : List (Str × Onw)) {ts : List Nat}, ts.Nodup → (tT S ts).Nodup
  | [], _, h => h
  | z :: S, _, h => tT_nd S (addA_nd _ h)
theorem bT_nd (St : Nat → List (Str × Onw)) : ∀ k, (bTm St k).Nodup
  | 0 => by simp [bTm]
  | k + 1 => tT_nd _ (bT_nd St k)
theorem add1_all {p : Nat → Prop} {ts : List Nat} {t : Nat} (h : ∀ x ∈ ts, p x) (ht : p t) : ∀ x ∈ add1 ts t, p x := by
  unfold add1
  split
  · exact h
  · intro x hx
    rcases List.mem_append.1 hx with hx | hx
    · exact h x hx
    · rw [List.mem_singleton.1 hx]; exact ht
theorem addA_all {p : Nat → Prop} : ∀ (on : Onw) {ts : List Nat}, (∀ x ∈ ts, p x) → (∀ z ∈ on, p z.1) → ∀ x ∈ addA ts on, p x
  | [], _, h, _ => h
  | z :: on, _, h, k => addA_all on (add1_all h (k z (by simp))) fun y hy => k y (by simp [hy])
theorem tT_all {p : Nat → Prop} : ∀ (S : List (Str × Onw)) {ts : List Nat}, (∀ x ∈ ts, p x) → (∀ z ∈ S, ∀ y ∈ z.2, p y.1) → ∀ x ∈ tT S ts, p x
  | [], _, h, _ => h
  | z :: S, _, h, k => tT_all S (addA_all _ h fun y hy => k z (by simp) y (List.mem_filter.1 hy).1) fun w hw => k w (by simp [hw])
theorem bT_all {p : Nat → Prop} {St : Nat → List (Str × Onw)} (h0 : p 0) (h : ∀ t, ∀ z ∈ St t, ∀ y ∈ z.2, p y.1) : ∀ k, ∀ x ∈ bTm St k, p x
  | 0 => by intro x hx; rw [List.mem_singleton.1 hx]; exact h0
  | k + 1 => tT_all _ (bT_all h0 h k) (h _)
theorem nd_len : ∀ {m : Nat} {l : List Nat}, l.Nodup → (∀ x ∈ l, x < m) → l.length ≤ m
  | 0, l, _, k => by
    cases l with
    | nil => exact Nat.le_refl _
    | cons a l => exact absurd (k a (by simp)) (by omega)
  | m + 1, l, h, k => by
    have h1 := nd_len (m := m) (l := l.erase m) (h.erase m) fun x hx => by
      have h2 := k x (List.mem_of_mem_erase hx)
      have h3 : x ≠ m := fun e => by
        subst e
        exact (List.Nodup.mem_erase_iff h).1 hx |>.1 rfl
      omega
    rw [List.length_erase] at h1
    split at h1 <;> omega
theorem ends {St : Nat → List (Str × Onw)} {m : Nat} (hm : ∀ k, ∀ x ∈ bTm St k, x < m) : ∃ K, K ≤ m ∧ (bTm St K).length = K ∧ ∀ k, k < K → k < (bTm St k).length := by
  have key : ∀ n, (∃ K, K ≤ n ∧ (bTm St K).length = K ∧ ∀ k, k < K → k < (bTm St k).length) ∨ ∀ k, k ≤ n → k < (bTm St k).length := by
    intro n
    induction n with
    | zero => exact .inr fun k hk => by rw [Nat.le_zero.1 hk]; simp [bTm]
    | succ n ih =>
      rcases ih with ⟨K, h1, h2, h3⟩ | h
      · exact .inl ⟨K, by omega, h2, h3⟩
      · by_cases hl : n + 1 < (bTm St (n + 1)).length
        · exact .inr fun k hk => by
            by_cases e : k = n + 1
            · rw [e]; exact hl
            · exact h k (by omega)
        · refine .inl ⟨n + 1, Nat.le_refl _, ?_, fun k hk => h k (by omega)⟩
          have h1 := h n (Nat.le_refl _)
          have h2 : (bTm St n).length ≤ (bTm St (n + 1)).length := (bT_pre St (Nat.le_succ n)).length_le
          omega
  rcases key m with h | h
  · exact h
  · have h1 := h m (Nat.le_refl _)
    have h2 := nd_len (bT_nd St m) (hm m)
    omega
theorem gonW_le {m : Nat} {ss : List Stp} (hg : Good m ss) (t : Nat) (x : Str) : (gonW ss t x).length ≤ m := by
  unfold gonW
  cases e : lookS ss t x with
  | none => exact Nat.zero_le _
  | some ws =>
    obtain ⟨s, hs, _, _, h⟩ := look_mem e
    show ws.length ≤ m
    rw [← h, (hg.ok s hs).ln]
    exact Nat.le_refl _
theorem st_lt {m : Nat} {ss : List Stp} (hg : Good m ss) (t : Nat) : ∀ z ∈ stS ss t, ∀ y ∈ z.2, y.1 < m := by
  intro z hz y hy
  obtain ⟨x, _, rfl⟩ := List.mem_map.1 hz
  obtain ⟨i, hi, rfl⟩ := List.mem_map.1 hy
  have := List.mem_range.1 hi
  exact Nat.lt_of_lt_of_le this (gonW_le hg t x)
theorem menu_nd {m : Nat} {ss : List Stp} (hg : Good m ss) (t : Nat) : (menuS ss t).Nodup := by
  unfold menuS
  rw [(List.mergeSort_perm _ _).nodup_iff]
  have h : ((ss.filter fun s => decide (s.1 = t)).map keyS).Nodup := hg.nd.sublist ((List.filter_sublist).map keyS)
  have e : (ss.filter fun s => decide (s.1 = t)).map keyS = ((ss.filter fun s => decide (s.1 = t)).map fun s => s.2.1).map fun x => (t, x) := by
    rw [List.map_map]
    refine List.map_congr_left fun s hs => ?_
    have := of_decide_eq_true (List.mem_filter.1 hs).2
    show (s.1, s.2.1) = (t, s.2.1)
    rw [this]
  rw [e] at h
  unfold List.Nodup at h ⊢
  rw [List.pairwise_map] at h
  exact h.imp fun hn e => hn (by rw [e])
def rk (r : FRow) : Nat × Str := (r.1, r.2.1)
theorem bR_lt {St : Nat → List (Str × Onw)} : ∀ {k : Nat} {r : FRow}, r ∈ bR St k → r.1 < k
  | 0, r, h => by cases h
  | k + 1, r, h => by
    rcases List.mem_append.1 h with h | h
    · have := bR_lt h
      omega
    · obtain ⟨z, _, rfl⟩ := List.mem_map.1 h
      exact Nat.lt_succ_self k
theorem bR_nd {St : Nat → List (Str × Onw)} (hs : ∀ t, ((St t).map Prod.fst).Nodup) : ∀ k, ((bR St k).map rk).Nodup
  | 0 => by simp [bR]
  | k + 1 => by
    show ((bR St k ++ tR k (St ((bTm St k).getD k 0))).map rk).Nodup
    rw [List.map_append, List.nodup_append]
    refine ⟨bR_nd hs k, ?_, fun a ha b hb e => ?_⟩
    · have h := hs ((bTm St k).getD k 0)
      unfold List.Nodup at h ⊢
      rw [List.pairwise_map] at h ⊢
      unfold tR
      rw [List.pairwise_map]
      exact h.imp fun hn e => hn (Prod.mk.inj e).2
    · obtain ⟨r, hr, rfl⟩ := List.mem_map.1 ha
      obtain ⟨r2, hr2, rfl⟩ := List.mem_map.1 hb
      obtain ⟨z, _, rfl⟩ := List.mem_map.1 hr2
      have h1 := bR_lt hr
      have h2 : r.1 = k := (Prod.mk.inj e).1
      omega
theorem st_names (ss : List Stp) (t : Nat) : (stS ss t).map Prod.fst = menuS ss t := by
  unfold stS
  rw [List.map_map]
  exact List.map_id' _
theorem pre_getD {a b : List Nat} (h : a <+: b) {i : Nat} (hi : i < a.length) : a.getD i 0 = b.getD i 0 := by
  obtain ⟨c, rfl⟩ := h
  rw [List.getD_eq_getElem?_getD, List.getD_eq_getElem?_getD, List.getElem?_append_left hi]
theorem stp_key {a b : Stp} (h : PySem.W.keyToks (stpP a) = PySem.W.keyToks (stpP b)) : keyS a = keyS b := by
  unfold stpP at h
  simp only [PySem.W.keyToks, PySem.W.keyToksAll, List.cons_append, List.nil_append, List.cons.injEq, Sum.inl.injEq, Sum.inr.injEq, true_and] at h
  refine Prod.ext (by have := h.1; show a.1 = b.1; omega) ?_
  exact PySem.W.str_of_cps h.2.1
theorem srt_perm {l l' : List Stp} (h : l.Perm l') (hn : (l.map keyS).Nodup) : srtS l = srtS l' := by
  have tot := PySem.W.sortLe_total (PyProof.Rows.listOrd PyProof.Rows.itemOrd) false fun b => PySem.W.keyToks (stpP b)
  unfold srtS PySem.W.dataLe
  refine List.Perm.eq_of_pairwise (le := fun a b : Stp => PySem.W.sortLe (PyProof.Rows.listOrd PyProof.Rows.itemOrd) false (fun b => PySem.W.keyToks (stpP b)) a b = true) (fun a b ha hb h1 h2 => ?_) (List.pairwise_mergeSort tot.trans (fun a b => by rw [Bool.or_eq_true]; exact tot.total a b) l) (List.pairwise_mergeSort tot.trans (fun a b => by rw [Bool.or_eq_true]; exact tot.total a b) l') ?_
  · have ha : a ∈ l := (List.mergeSort_perm _ _).mem_iff.1 ha
    have hb : b ∈ l := h.mem_iff.2 ((List.mergeSort_perm _ _).mem_iff.1 hb)
    have h1 : (!(PyProof.Rows.listOrd PyProof.Rows.itemOrd).blt (PySem.W.keyToks (stpP b)) (PySem.W.keyToks (stpP a))) = true := h1
    have h2 : (!(PyProof.Rows.listOrd PyProof.Rows.itemOrd).blt (PySem.W.keyToks (stpP a)) (PySem.W.keyToks (stpP b))) = true := h2
    rw [Bool.not_eq_true'] at h1 h2
    have e := stp_key ((PyProof.Rows.listOrd PyProof.Rows.itemOrd).total _ _ h2 h1)
    unfold List.Nodup at hn
    rw [List.pairwise_map] at hn
    obtain ⟨i, hi, rfl⟩ := List.getElem_of_mem ha
    obtain ⟨j, hj, rfl⟩ := List.getElem_of_mem hb
    rcases Nat.lt_trichotomy i j with hij | hij | hij
    · exact absurd e ((List.pairwise_iff_getElem.1 hn) i j hi hj hij)
    · subst hij; rfl
    · exact absurd e.symm ((List.pairwise_iff_getElem.1 hn) j i hj hi hij)
  · exact ((List.mergeSort_perm _ _).trans h).trans (List.mergeSort_perm _ _).symm
end Far
namespace Pw
open PySem PySem.Spec PyProof.Rows L2
theorem tv_impM {T : Cfg} {t : TT} {W : WX} {s : S} {P P' : Bool → Mu → Prop} {XP : XW} (h : TV T t W s P XP) (k : ∀ b μ, P b μ → P' b μ) : TV T t W s P' XP := fun σ Hb H Q S q x => h σ Hb H Q S (fun b μ Hb' H' g p => q b μ Hb' H' g (k b μ p)) x
theorem tv_no {T : Cfg} {t : TT} {W : WX} {s : S} {P : Bool → Mu → Prop} {XP : XW} (h : TV T t W s P (fun _ _ => False)) : TV T t W s P XP := fun σ Hb H Q S q _ => h σ Hb H Q S q fun _ _ _ _ _ _ _ _ h => h.elim
end Pw
namespace Far
open PySem PySem.Spec PyProof.Rows L2 Pw
structure Wok (m : Nat) (xs : List Str) (s : Stp) : Prop where
  sg : s.2.1 ∈ xs
  ln : s.2.2.length = m
  ps : 0 < s.2.2.sum
  le : s.2.2.sum ≤ 6 * m + 6
  w12 : ∀ w ∈ s.2.2, w ≤ 12
structure Drawn (m : Nat) (xs : List Str) (ss : List Stp) : Prop where
  ln : ss.length ≤ m * xs.length
  nd : (ss.map keyS).Nodup
  rm : ∀ s ∈ ss, s.1 < m
  ok : ∀ s ∈ ss, Wok m xs s
def c_Lmachine (T : Cfg) : Nat → List D → (D → Nat → Prop) → Prop := fun b rest P => ∃ (xs : List Str) (most : Nat), rest = [.lst (xs.map D.str), .int (most : Int)] ∧ 1 ≤ most ∧ most ≤ 12 ∧ 1 ≤ xs.length ∧ xs.length ≤ 5 ∧ xs.Nodup ∧ 3000 ≤ b ∧
  ∀ (m : Nat) (ss : List Stp) (b' : Nat), 1 ≤ m → m ≤ most → Drawn m xs ss → b ≤ b' + 3000 → P (.tup [.int (m : Int), .lst (ss.map stpD)]) b'
theorem len_Lmachine {T : Cfg} : ∀ ds μ P XP, wl (c_Lmachine T) ds μ P XP → ds.length = 3 := by
  rintro ds μ P XP ⟨a, b, rest, rfl, rfl, Pf, ⟨xs, n, rfl, _⟩, _⟩; rfl
def t_Lmachine (T : Cfg) (E : XK) : TS := (tSeq (tAsg (tOp (rI0 fun i j => .int (i + j)) (tC (.int 1)) (tCall (spOf T (wl (c_Ldraw T))) [] E0 (tCons (tVar 0) (tCons (tVar 2) tNil)))) (gName 3))
    (tSeq (tAsg (tCall (spOf T (wl (c_Ldraw T))) [] E0 (tCons (tVar 0) (tCons (tC (.int 3)) tNil))) (gName 4))
    (tSeq (tAsg (tCall (spOf T (wl (c_Ldraw T))) [] E0 (tCons (tVar 0) (tCons (tOp (rI0 fun i j => .int (i + j)) (tVar 3) (tC (.int 1))) tNil))) (gName 5))
    (tSeq (tAsg (tCall (spOf T (wl (c_Ldraw T))) [] E0 (tCons (tVar 0) (tCons (tCB (Pw.rLen T.K) (tCons (tVar 1) tNil)) tNil))) (gName 6))
    (tSeq (tAsg (tLst tNil) (gName 7))
    (tSeq (tFor (iRng1 (tCons (tVar 3) tNil)) (gName 8) (tFor (iEnum T.K (tCons (tVar 1) tNil)) (gTup T.K 2 (gCons (gName 9) (gCons (gName 10) gNil))) (tIfS (tOr (tAnd (tTest (tOp (rI0 fun i j => .bl (decide (i < j))) (tVar 4) (tC (.int 2)))) (tOr (tTest (tOp rNe (tVar 8) (tVar 5))) (tTest (tOp (rI0 fun i j => .bl (decide (i < j))) (tVar 9) (tVar 6))))) (tAnd (tTest (tOp rEq (tVar 4) (tC (.int 2)))) (tTest (tOp (rI0 fun i j => .bl (decide (j < i))) (tCall (spOf T (wl (c_Ldraw T))) [] E0 (tCons (tVar 0) (tCons (tC (.int 3)) tNil))) (tC (.int 0)))))) (tDrop (tBM T.K "list" rAppend (tVar 7) (tCons (tTup (tCons (tVar 8) (tCons (tVar 10) (tCons (tCall (spOf T (wl (c_Lweights T))) [] E0 (tCons (tVar 0) (tCons (tVar 3) tNil))) tNil)))) tNil))) tNext)))
    (tRet (tTup (tCons (tVar 3) (tCons (tVar 7) tNil))))))))))
structure Run (m r j : Nat) (xs : List Str) (ss : List Stp) : Prop where
  nd : (ss.map keyS).Nodup
  rm : ∀ s ∈ ss, s.1 < r ∨ (s.1 = r ∧ s.2.1 ∈ xs.take j)
  ok : ∀ s ∈ ss, Wok m xs s
theorem Run.add {m r j : Nat} {xs : List Str} {ss : List Stp} {ws : List Nat} (h : Run m r j xs ss) (hn : xs.Nodup) (hj : j < xs.length) (hw : Wok m xs (r, xs[j], ws)) : Run m r (j + 1) xs (ss ++ [(r, xs[j], ws)]) where
  nd := by
    rw [List.map_append, List.nodup_append]
    refine ⟨h.nd, by simp, fun k hk k' hk' e => ?_⟩
    simp at hk'
    rw [hk'] at e
    obtain ⟨s, hs, rfl⟩ := List.mem_map.1 hk
    rcases h.rm s hs with h1 | ⟨h1, h2⟩
    · have := congrArg Prod.fst e
      simp [keyS] at this
      omega
    · have h3 : s.2.1 = xs[j] := congrArg Prod.snd e
      rw [h3] at h2
      obtain ⟨i, hi⟩ := List.getElem?_of_mem h2
      have hi2 : i < j := by
        have := (List.getElem?_eq_some_iff.1 hi).1
        rw [List.length_take] at this
        omega
      rw [List.getElem?_take_of_lt hi2] at hi
      obtain ⟨b1, e1⟩ := List.getElem?_eq_some_iff.1 hi
      have := (List.getElem_inj hn).1 e1
      omega
  rm := fun s hs => by
    rcases List.mem_append.1 hs with h1 | h1
    · rcases h.rm s h1 with h2 | ⟨h2, h3⟩
      · exact .inl h2
      · exact .inr ⟨h2, by rw [List.take_succ]; exact List.mem_append_left _ h3⟩
    · simp at h1
      subst h1
      exact .inr ⟨rfl, by rw [List.take_succ, List.getElem?_eq_getElem hj]; exact List.mem_append_right _ (List.mem_singleton.2 rfl)⟩
  ok := fun s hs => by
    rcases List.mem_append.1 hs with h1 | h1
    · exact h.ok s h1
    · simp at h1
      subst h1
      exact hw
theorem Run.skip {m r j : Nat} {xs : List Str} {ss : List Stp} (h : Run m r j xs ss) : Run m r (j + 1) xs ss where
  nd := h.nd
  rm := fun s hs => (h.rm s hs).imp id fun ⟨h2, h3⟩ => ⟨h2, by rw [List.take_succ]; exact List.mem_append_left _ h3⟩
  ok := h.ok
theorem Run.next {m r j : Nat} {xs : List Str} {ss : List Stp} (h : Run m r j xs ss) : Run m (r + 1) 0 xs ss where
  nd := h.nd
  rm := fun s hs => .inl (by rcases h.rm s hs with h1 | ⟨h1, _⟩ <;> omega)
  ok := h.ok
theorem nth_str {xs : List Str} {k : Nat} (h : k < xs.length) : Pw.nth (xs.map D.str) k = .str xs[k] := by
  refine nth_of ?_
  rw [List.getElem?_map, List.getElem?_eq_getElem h]
  rfl
theorem wts_i {T : Cfg} {b n : Nat} {P : D → Nat → Prop} (n1 : 1 ≤ n) (n14 : n ≤ 14) (hb : 40 ≤ b) (k : ∀ (ws : List Nat) (b' : Nat), ws.length = n → 0 < ws.sum → ws.sum ≤ 6 * n + 6 → (∀ w ∈ ws, w ≤ 12) → b ≤ b' + 40 → P (wtsD ws) b') : c_Lweights T b [.int (n : Int)] P := ⟨n, rfl, n1, n14, hb, k⟩
theorem pure_Lmachine {T : Cfg} (hT : ShOk T) : ∀ E ds μ P XP, wl (c_Lmachine T) ds μ P XP → SV T (t_Lmachine T E) (fun cls dd _ H => E cls dd H) ⟨slots 11 ds, μ⟩ (fnK P XP) := Hd.o (by
 simp (disch :=
 with_unfolding_all
 exact by
  rintro E ds μ P XP ⟨a, b, rest, rfl, rfl, Pf, ⟨xs, most, rfl, m1, m12, l1, l5, hn, hb, k⟩, hP⟩
  unfold t_Lmachine
  walk_at "pks"
  refine ⟨a, b, _, _, rfl, rfl, draw_i (by omega) (by omega) (b9 _ (by omega)) fun v v0 v1 => ?_⟩
  obtain ⟨v, rfl⟩ := Int.eq_ofNat_of_zero_le v0
  walk_at "pks"
  refine ⟨a, _, _, _, rfl, rfl, draw_i (by omega) (by decide) (b9 _ (by decide)) fun w w0 w1 => ?_⟩
  walk_at "pks"
  refine ⟨a, _, _, _, rfl, rfl, draw_i (by omega) (by omega) (b9 _ (by omega)) fun y y0 y1 => ?_⟩
  walk_at "pks"
  refine cv_len (.inl rfl) ?_
  walk_at "pks"
  refine ⟨a, _, _, _, rfl, rfl, draw_i (by omega) (by simp; omega) (b9 _ (by simp; omega)) fun z z0 z1 => ?_⟩
  refine seqK_nx (sv_seq (sv_asg (ev_lstM (ea_nil ⟨by simp, fun p hp => ?_⟩))))
  have hpa : p ≠ a := by
    intro e
    subst e
    rw [put_same] at hp
    cases hp
  have em : (1 : Int) + (v : Int) = ((1 + v : Nat) : Int) := by omega
  rw [em]
  generalize hmm : 1 + v = m
  have hm : 1 ≤ m ∧ m ≤ most := by omega
  refine seqK_nx (sv_seq ?_)
  refine sv_forX (X := List Stp × Nat) (fun _ _ => [some (.ptr a), some (.lst (xs.map D.str)), none, some (.int (m : Int)), some (.int w), some (.int y), some (.int z), some (.ptr p), none, none, none]) (fun r x μ => μ a = some (.well x.2) ∧ μ p = some (.lst (x.1.map stpD)) ∧ Run m r 0 xs x.1 ∧ x.1.length ≤ r * xs.length ∧ b ≤ x.2 + 4 + r * xs.length * 41) (iv_rng1 ?_)
  walk_at "pks"
  refine ⟨by omega, by omega, ([], b - 4), by walk_at "le", ⟨?_, put_same, ⟨by simp, by simp, by simp⟩, by simp, by simp; omega⟩, fun r x μ hr hx => ?_, fun s' x hr hx => ?_⟩
  · rw [put_ne (Ne.symm hpa)]
    exact put_same
  · obtain ⟨ss, b1⟩ := x
    obtain ⟨x1, x2, x3, x4, x5⟩ := hx
    have x4 : ss.length ≤ r * xs.length := x4
    have x5 : b ≤ b1 + 4 + r * xs.length * 41 := x5
    have hr : r < m := by omega
    have hrx : r * xs.length ≤ 11 * 5 := Nat.mul_le_mul (by omega) l5
    simp only [Int.zero_add]
    refine sv_forX2 (X := List Stp × Nat) (fun _ _ => [some (.ptr a), some (.lst (xs.map D.str)), none, some (.int (m : Int)), some (.int w), some (.int y), some (.int z), some (.ptr p), some (.int (r : Int)), none, none]) (fun j x μ => μ a = some (.well x.2) ∧ μ p = some (.lst (x.1.map stpD)) ∧ Run m r j xs x.1 ∧ x.1.length ≤ r * xs.length + j ∧ b ≤ x.2 + 4 + (r * xs.length + j) * 41) (iv_enum ?_)
    walk_at "pks"
    refine ⟨_, _, rfl, .inl rfl, (ss, b1), by walk_at "le", ⟨x1, x2, x3, by omega, by omega⟩, fun j x μ hj hx => ?_, fun s' x hr hx => ?_⟩
    · obtain ⟨ss, b1⟩ := x
      obtain ⟨x1, x2, x3, x4, x5⟩ := hx
      have x3 : Run m r j xs ss := x3
      have x4 : ss.length ≤ r * xs.length + j := x4
      have x5 : b ≤ b1 + 4 + (r * xs.length + j) * 41 := x5
      have hj : j < xs.length := by simpa using hj
      refine ⟨_, _, rfl, ?_⟩
      rw [nth_str hj]
      refine sv_if (tv_impM (P := fun _ μ' => ∃ b2, μ' = put μ a (.well b2) ∧ b1 ≤ b2 + 1) ?_ ?_)
      · have stay : ∃ b2, μ = put μ a (.well b2) ∧ b1 ≤ b2 + 1 := ⟨b1, (put_get x1).symm, by omega⟩
        have last : TV T (tAnd (tTest (tOp rEq (tVar 4) (tC (.int 2)))) (tTest (tOp (rI0 fun i j => .bl (decide (j < i))) (tCall (spOf T (wl (c_Ldraw T))) [] E0 (tCons (tVar 0) (tCons (tC (.int 3)) tNil))) (tC (.int 0))))) (fun cls dd _ H => E cls dd H) ⟨[some (.ptr a), some (.lst (xs.map D.str)), none, some (.int (m : Int)), some (.int w), some (.int y), some (.int z), some (.ptr p), some (.int (r : Int)), some (.int (j : Int)), some (.str xs[j])], μ⟩ (fun _ μ' => ∃ b2, μ' = put μ a (.well b2) ∧ b1 ≤ b2 + 1) (fun _ _ => False) := by
          walk_at "pks"
          refine ⟨fun _ => ?_, fun _ => stay⟩
          walk_at "pks"
          refine ⟨a, _, _, _, rfl, (put_get x1).symm, draw_i (by omega) (by decide) (b9 _ (by decide)) fun u u0 u1 => ?_⟩
          walk_at "pks"
          exact ⟨b1 - 1, rfl, by omega⟩
        walk_at "pks"
        refine ⟨fun _ => ?_, fun _ => ⟨fun _ => tv_no last, fun h => (by cases h)⟩⟩
        walk_at "pks"
        refine ⟨fun _ => ?_, fun _ => ⟨fun _ => tv_no last, fun _ => stay⟩⟩
        walk_at "pks"
        exact ⟨fun _ => tv_no last, fun _ => stay⟩
      · rintro bb μ' ⟨b2, rfl, hb2⟩
        have x2' : ∀ b3, put μ a (.well b3) p = some (.lst (ss.map stpD)) := fun b3 => by rw [put_ne hpa]; exact x2
        refine ⟨fun _ => ?_, fun _ => ?_⟩
        · walk_at "pks"
          refine ⟨p, _, rfl, x2' _, ?_⟩
          walk_at "pks"
          refine ⟨a, _, _, _, rfl, rfl, wts_i (by omega) (by omega) (by omega) fun ws b3 w1 w2 w3 w4 w5 => ?_⟩
          walk_at "pks"
          refine ⟨_, x2' _, by simp; omega, ?_⟩
          walk_at "pks"
          refine ⟨(ss ++ [(r, xs[j], ws)], b3), by walk_at "le", ?_, ?_, x3.add hn hj ⟨List.getElem_mem hj, w1, w2, w3, w4⟩, ?_, ?_⟩
          · show put _ _ _ _ = _
            rw [put_ne (Ne.symm hpa)]
            exact put_same
          · show put _ _ _ _ = _
            rw [put_same, List.map_append]
            rfl
          · show (ss ++ [_]).length ≤ _
            simp
            omega
          · show b ≤ b3 + 4 + (r * xs.length + (j + 1)) * 41
            omega
        · walk_at "pks"
          exact ⟨(ss, b2), by walk_at "le", put_same, x2' _, x3.skip, by show ss.length ≤ _; omega, by show b ≤ b2 + 4 + (r * xs.length + (j + 1)) * 41; omega⟩
    · obtain ⟨ss, b1⟩ := x
      obtain ⟨x1, x2, x3, x4, x5⟩ := hx
      have x4 : ss.length ≤ r * xs.length + (xs.map D.str).length := x4
      have x5 : b ≤ b1 + 4 + (r * xs.length + (xs.map D.str).length) * 41 := x5
      rw [List.length_map] at x4 x5
      have e : (r + 1) * xs.length = r * xs.length + xs.length := Nat.succ_mul _ _
      walk_at "pks"
      refine ⟨(ss, b1), leR.trans (by walk_at "le") hr, x1, x2, x3.next, by show ss.length ≤ _; omega, by show b ≤ b1 + 4 + (r + 1) * xs.length * 41; rw [e]; exact x5⟩
  · obtain ⟨ss, b1⟩ := x
    obtain ⟨x1, x2, x3, x4, x5⟩ := hx
    have x3 : Run m (m : Int).toNat 0 xs ss := x3
    have x4 : ss.length ≤ (m : Int).toNat * xs.length := x4
    have x5 : b ≤ b1 + 4 + (m : Int).toNat * xs.length * 41 := x5
    rw [Int.toNat_natCast] at x3 x4 x5
    have hrx : m * xs.length ≤ 12 * 5 := Nat.mul_le_mul (by omega) l5
    refine seqK_wk hr ?_
    refine sv_ret (ev_stl (a := a) ?_)
    walk_at "pks"
    refine ⟨.tup [.int (m : Int), .lst (ss.map stpD)], b1, .two (.refl _) (.own x2), x1, ?_⟩
    walk_at "pks"
    refine hP _ _ (k m ss b1 hm.1 hm.2 ⟨x4, x3.nd, fun s hs => ?_, x3.ok⟩ (by omega))
    rcases x3.rm s hs with h | ⟨_, h⟩
    · exact h
    · simp at h
 ) only [↓hE])
open FM (Bq)
def Dv (N : Nat) (q : Rat) : Prop := 0 < N ∧ ∃ k : Int, q * (N : Rat) = (k : Rat)
theorem Dv.den {N : Nat} {q : Rat} (h : Dv N q) : q.den ≤ N := by
  obtain ⟨h0, k, hk⟩ := h
  have hN : (N : Rat) ≠ 0 := fun e => by have := Rat.natCast_eq_zero_iff.1 e; omega
  have e : q = Rat.divInt k (N : Int) := by
    rw [Rat.divInt_eq_div]
    have h1 : ((N : Int) : Rat) = (N : Rat) := rfl
    rw [h1, ← hk]
    grind
  rw [e, Rat.den_divInt]
  split
  · omega
  · simp only [Int.natAbs_natCast]
    exact Nat.div_le_self _ _
theorem Dv.add {N : Nat} {p q : Rat} (h : Dv N p) (k : Dv N q) : Dv N (p + q) := by
  obtain ⟨h0, i, hi⟩ := h
  obtain ⟨_, j, hj⟩ := k
  exact ⟨h0, i + j, by rw [Rat.intCast_add, ← hi, ← hj]; grind⟩
theorem Dv.zero {N : Nat} (h : 0 < N) : Dv N 0 := ⟨h, 0, by simp⟩
theorem Dv.one {N : Nat} (h : 0 < N) : Dv N 1 := ⟨h, N, by rw [Rat.one_mul]; rfl⟩
theorem Dv.mul {N M : Nat} {p q : Rat} (h : Dv N p) (k : Dv M q) : Dv (N * M) (p * q) := by
  obtain ⟨h0, i, hi⟩ := h
  obtain ⟨h1, j, hj⟩ := k
  refine ⟨Nat.mul_pos h0 h1, i * j, ?_⟩
  rw [Rat.intCast_mul, ← hi, ← hj]
  have : ((N * M : Nat) : Rat) = (N : Rat) * (M : Rat) := by simp
  rw [this]
  grind
theorem Dv.up {N M : Nat} {q : Rat} (h : Dv N q) (k : N ∣ M) (hM : 0 < M) : Dv M q := by
  obtain ⟨h0, i, hi⟩ := h
  obtain ⟨c, rfl⟩ := k
  refine ⟨hM, i * c, ?_⟩
  have : ((N * c : Nat) : Rat) = (N : Rat) * (c : Rat) := by simp
  rw [this, Rat.intCast_mul, ← hi]
  have h2 : (((c : Nat) : Int) : Rat) = (c : Rat) := rfl
  rw [h2]
  grind
theorem Dv.sum {N : Nat} (h : 0 < N) : ∀ {qs : List Rat}, (∀ q ∈ qs, Dv N q) → Dv N qs.sum := by
  intro qs
  induction qs with
  | nil => intro _; exact Dv.zero h
  | cons q qs ih =>
    intro hq
    rw [List.sum_cons]
    exact (hq q (by simp)).add (ih fun p hp => hq p (by simp [hp]))
theorem Dv.frac {w s : Nat} (h : 0 < s) : Dv s (Rat.divInt (w : Int) (s : Int)) := by
  refine ⟨h, w, ?_⟩
  rw [Rat.divInt_eq_div]
  have h1 : ((s : Int) : Rat) = (s : Rat) := rfl
  rw [h1]
  have h2 : (s : Rat) ≠ 0 := fun e => by have := Rat.natCast_eq_zero_iff.1 e; omega
  grind
def U01 (q : Rat) : Prop := 0 ≤ q ∧ q ≤ 1
theorem u0 : U01 0 := ⟨by grind, by grind⟩
theorem u1 : U01 1 := ⟨by grind, by grind⟩
theorem num_le_den {q : Rat} (h : U01 q) : q.num.natAbs ≤ q.den := by
  have h0 : 0 ≤ q.num := Rat.num_nonneg.2 h.1
  have h1 : q.num ≤ q.den := by
    have := h.2
    rw [Rat.le_iff] at this
    simpa using this
  omega
theorem Dv.bq {N n : Nat} {q : Rat} (h : Dv N q) (k : U01 q) (hn : N < 2 ^ n) : Bq n q := by
  have h1 := h.den
  have h2 := num_le_den k
  exact ⟨by omega, by omega⟩
theorem bq01 : Bq 1 1 := ⟨by decide, by decide⟩
theorem bq00 : Bq 1 0 := ⟨by decide, by decide⟩
theorem u_mul {p q : Rat} (h : U01 p) (k : U01 q) : U01 (p * q) := by
  refine ⟨Rat.mul_nonneg h.1 k.1, ?_⟩
  have h1 : 0 ≤ p * (1 - q) := Rat.mul_nonneg h.1 (by have := k.2; grind)
  have := h.2
  grind
def wtQ (ws : List Nat) (k : Nat) : Rat := Rat.divInt ((ws.getD k 0 : Nat) : Int) (ws.sum : Int)
def ledQ (ws : List Nat) (qs : List Rat) : Rat := ((List.range ws.length).map fun k => wtQ ws k * qs.getD k 0).sum
theorem wtQ_nonneg (ws : List Nat) (k : Nat) : 0 ≤ wtQ ws k := Rat.divInt_nonneg (by omega) (by omega)
theorem wtQ_dv {ws : List Nat} (h : 0 < ws.sum) (k : Nat) : Dv ws.sum (wtQ ws k) := Dv.frac h
theorem sum_range_succ (f : Nat → Rat) (n : Nat) : ((List.range (n + 1)).map f).sum = ((List.range n).map f).sum + f n := by
  rw [List.range_succ, List.map_append, List.sum_append]
  simp [Rat.add_zero]
theorem wt_cast (w s : Nat) : Rat.divInt (w : Int) (s : Int) = (w : Rat) / (s : Rat) := by
  rw [Rat.divInt_eq_div]
  rfl
theorem sum_div (s : Rat) : ∀ (ws : List Nat) (n : Nat), n ≤ ws.length → ((List.range n).map fun k => ((ws.getD k 0 : Nat) : Rat) / s).sum = ((ws.take n).sum : Rat) / s := by
  intro ws n
  induction n with
  | zero => intro _; simp [Rat.div_def]
  | succ n ih =>
    intro h
    rw [sum_range_succ, ih (by omega), List.take_succ, List.getElem?_eq_getElem (by omega), Option.toList_some, List.sum_append]
    have e : ws.getD n 0 = ws[n] := by simp [List.getD_eq_getElem?_getD, List.getElem?_eq_getElem (show n < ws.length by omega)]
    rw [e]
    have e2 : (([ws[n]] : List Nat).sum) = ws[n] := by simp
    rw [e2]
    have e3 : (((ws.take n).sum + ws[n] : Nat) : Rat) = ((ws.take n).sum : Rat) + (ws[n] : Rat) := by simp
    rw [e3, Rat.div_def, Rat.div_def, Rat.div_def]
    grind
theorem wtQ_sum {ws : List Nat} (h : 0 < ws.sum) : ((List.range ws.length).map (wtQ ws)).sum = 1 := by
  have e : (wtQ ws) = fun k => ((ws.getD k 0 : Nat) : Rat) / (ws.sum : Rat) := by
    funext k
    exact wt_cast _ _
  rw [e, sum_div _ ws _ (Nat.le_refl _), List.take_length]
  have h2 : (ws.sum : Rat) ≠ 0 := fun e => by have := Rat.natCast_eq_zero_iff.1 e; omega
  grind
theorem led_le {f g : Nat → Rat} : ∀ n : Nat, (∀ k, k < n → 0 ≤ f k ∧ U01 (g k)) → 0 ≤ ((List.range n).map fun k => f k * g k).sum ∧ ((List.range n).map fun k => f k * g k).sum ≤ ((List.range n).map f).sum := by
  intro n
  induction n with
  | zero => intro _; simp
  | succ n ih =>
    intro h
    obtain ⟨h1, h2⟩ := ih fun k hk => h k (by omega)
    obtain ⟨h3, h4⟩ := h n (by omega)
    rw [sum_range_succ, sum_range_succ]
    have h5 : 0 ≤ f n * g n := Rat.mul_nonneg h3 h4.1
    have h6 : 0 ≤ f n * (1 - g n) := Rat.mul_nonneg h3 (by have := h4.2; grind)
    exact ⟨by grind, by grind⟩
theorem getD_u {qs : List Rat} (h : ∀ q ∈ qs, U01 q) (k : Nat) : U01 (qs.getD k 0) := by
  rw [List.getD_eq_getElem?_getD]
  cases e : qs[k]? with
  | none => exact u0
  | some q => exact h q (List.mem_of_getElem? e)
theorem led_u {ws : List Nat} {qs : List Rat} (h : 0 < ws.sum) (hq : ∀ q ∈ qs, U01 q) : U01 (ledQ ws qs) := by
  have := led_le (f := wtQ ws) (g := fun k => qs.getD k 0) ws.length fun k _ => ⟨wtQ_nonneg ws k, getD_u hq k⟩
  rw [wtQ_sum h] at this
  exact this
theorem led_dv {ws : List Nat} {qs : List Rat} {N : Nat} (h : 0 < ws.sum) (hN : 0 < N) (hq : ∀ q ∈ qs, Dv N q) : Dv (ws.sum * N) (ledQ ws qs) := by
  refine Dv.sum (Nat.mul_pos h hN) fun q hm => ?_
  obtain ⟨k, _, rfl⟩ := List.mem_map.1 hm
  refine (wtQ_dv h k).mul ?_
  rw [List.getD_eq_getElem?_getD]
  cases e : qs[k]? with
  | none => exact Dv.zero hN
  | some q => exact hq q (List.mem_of_getElem? e)
def stepQ (ss : List Stp) (x : Str) (qs : List Rat) (r : Nat) : Rat := match lookS ss r x with
  | none => 0
  | some ws => ledQ ws qs
def chL (m : Nat) (ss : List Stp) : List Str → List Rat
  | [] => (List.range m).map fun _ => 1
  | x :: w => (List.range m).map (stepQ ss x (chL m ss w))
def prodX (ss : List Stp) (x : Str) : Nat := ((ss.filter fun s => decide (s.2.1 = x)).map fun s => s.2.2.sum).foldr (· * ·) 1
def prodW (ss : List Stp) : List Str → Nat
  | [] => 1
  | x :: w => prodX ss x * prodW ss w
theorem foldr_pos : ∀ {l : List Nat}, (∀ a ∈ l, 0 < a) → 0 < l.foldr (· * ·) 1 := by
  intro l
  induction l with
  | nil => intro _; simp
  | cons a l ih => intro h; exact Nat.mul_pos (h a (by simp)) (ih fun b hb => h b (by simp [hb]))
theorem foldr_dvd : ∀ {l : List Nat} {a : Nat}, a ∈ l → a ∣ l.foldr (· * ·) 1 := by
  intro l
  induction l with
  | nil => intro a h; cases h
  | cons b l ih =>
    intro a h
    rcases List.mem_cons.1 h with rfl | h
    · exact Nat.dvd_mul_right _ _
    · exact Nat.dvd_trans (ih h) (Nat.dvd_mul_left _ _)
theorem prodX_pos {m : Nat} {ss : List Stp} (h : Good m ss) (x : Str) : 0 < prodX ss x := by
  refine foldr_pos fun a ha => ?_
  obtain ⟨s, hs, rfl⟩ := List.mem_map.1 ha
  exact (h.ok s (List.mem_filter.1 hs).1).ps
theorem prodX_dvd {ss : List Stp} {r : Nat} {x : Str} {ws : List Nat} (h : lookS ss r x = some ws) : ws.sum ∣ prodX ss x := by
  obtain ⟨s, hs, e1, e2, rfl⟩ := look_mem h
  exact foldr_dvd (List.mem_map.2 ⟨s, List.mem_filter.2 ⟨hs, decide_eq_true e2⟩, rfl⟩)
theorem prodW_pos {m : Nat} {ss : List Stp} (h : Good m ss) : ∀ w : List Str, 0 < prodW ss w := by
  intro w
  induction w with
  | nil => exact Nat.one_pos
  | cons x w ih => exact Nat.mul_pos (prodX_pos h x) ih
theorem chL_ok {m : Nat} {ss : List Stp} (h : Good m ss) : ∀ w : List Str, ∀ q ∈ chL m ss w, U01 q ∧ Dv (prodW ss w) q := by
  intro w
  induction w with
  | nil =>
    intro q hq
    obtain ⟨_, _, rfl⟩ := List.mem_map.1 hq
    exact ⟨u1, Dv.one Nat.one_pos⟩
  | cons x w ih =>
    intro q hq
    obtain ⟨r, _, rfl⟩ := List.mem_map.1 hq
    have hp := prodW_pos h (x :: w)
    unfold stepQ
    cases e : lookS ss r x with
    | none => exact ⟨u0, Dv.zero hp⟩
    | some ws =>
      obtain ⟨s, hs, e1, e2, rfl⟩ := look_mem e
      have ps := (h.ok s hs).ps
      refine ⟨led_u ps fun q hq => (ih q hq).1, (led_dv ps (prodW_pos h w) fun q hq => (ih q hq).2).up ?_ hp⟩
      exact Nat.mul_dvd_mul (prodX_dvd e) (Nat.dvd_refl _)
def chQ (m : Nat) (ss : List Stp) (xs : List Str) : Rat := (chL m ss xs).getD 0 0
theorem chL_cons (m : Nat) (ss : List Stp) (x : Str) (w : List Str) : chL m ss (x :: w) = (List.range m).map (stepQ ss x (chL m ss w)) := rfl
theorem low_sum {ws : List Nat} : (low ws).sum ≤ ws.sum := by
  unfold low
  generalize gcdL ws = g
  induction ws with
  | nil => exact Nat.le_refl _
  | cons w ws ih =>
    rw [List.map_cons, List.sum_cons, List.sum_cons]
    have := Nat.div_le_self w g
    omega
theorem mk_mem {ss : List Stp} {s : Stp} (h : s ∈ mkS ss) : ∃ t ∈ ss, s = lowS t := by
  obtain ⟨t, ht, rfl⟩ := List.mem_map.1 ((mk_perm ss).mem_iff.1 h)
  exact ⟨t, ht, rfl⟩
theorem mk_sum {ss : List Stp} {b : Nat} (h : ∀ s ∈ ss, s.2.2.sum ≤ b) : ∀ s ∈ mkS ss, s.2.2.sum ≤ b := fun s hs => by
  obtain ⟨t, ht, rfl⟩ := mk_mem hs
  exact Nat.le_trans low_sum (h t ht)
theorem Drawn.good {m : Nat} {xs : List Str} {ss : List Stp} (h : Drawn m xs ss) (m1 : 1 ≤ m) (m12 : m ≤ 12) (hl : m * xs.length ≤ 63) (hx : ∀ x ∈ xs, nmB x = true) : Good m ss where
  m1 := m1
  m12 := m12
  ln := Nat.le_trans h.ln hl
  nd := h.nd
  ok := fun s hs => ⟨h.rm s hs, hx _ (h.ok s hs).sg, (h.ok s hs).ln, (h.ok s hs).ps, fun w hw => Nat.lt_of_le_of_lt ((h.ok s hs).w12 w hw) (Nat.lt_of_lt_of_le (show 12 < 2 ^ 4 by decide) (Nat.pow_le_pow_right (by decide) (by decide)))⟩
theorem machine_i {T : Cfg} {b most : Nat} {xs : List Str} {P : D → Nat → Prop} (m1 : 1 ≤ most) (m12 : most ≤ 12) (l1 : 1 ≤ xs.length) (l5 : xs.length ≤ 5) (hn : xs.Nodup) (hb : 3000 ≤ b) (k : ∀ (m : Nat) (ss : List Stp) (b' : Nat), 1 ≤ m → m ≤ most → Drawn m xs ss → b ≤ b' + 3000 → P (.tup [.int (m : Int), .lst (ss.map stpD)]) b') : c_Lmachine T b [.lst (xs.map D.str), .int (most : Int)] P := ⟨xs, most, rfl, m1, m12, l1, l5, hn, hb, k⟩
theorem names_i {T : Cfg} {b n : Nat} {P : D → Nat → Prop} (n1 : 1 ≤ n) (n10 : n ≤ 10) (hb : 100 ≤ b) (k : ∀ (xs : List Str) (b' : Nat), xs.length = n → xs.Nodup → (∀ x ∈ xs, nmB x = true) → b ≤ b' + 100 → P (.lst (xs.map D.str)) b') : c_Lnames T b [.int (n : Int)] P := ⟨n, rfl, n1, n10, hb, fun xs b' h1 h2 h3 _ h5 => k xs b' h1 h2 h3 h5⟩
theorem make_i {T : Cfg} {m : Nat} {ss : List Stp} {P : List (Str × D) → Prop} {X : XD → Prop} (h : Good m ss) (k : P (maF m (mkS ss))) : c_Machine___init__ T [.int (m : Int), .lst (ss.map stpD)] P X := ⟨m, ss, rfl, h, k⟩
theorem abc_lt : (abc.cps.toList.all fun c => decide (c < 1114112)) = true := by decide +kernel
theorem nm_strOk {x : Str} (h : nmB x = true) : PyData.strOk x = true := by
  unfold nmB at h
  rw [Bool.and_eq_true, Bool.and_eq_true] at h
  have h := h.2.2
  unfold PyData.strOk
  rw [← Array.all_toList, List.all_eq_true]
  intro c hc
  have h1 := of_decide_eq_true (List.all_eq_true.1 h c hc)
  exact List.all_eq_true.1 abc_lt c h1
theorem pln_str {x : Str} (h : nmB x = true) : Pln (.str x) (.str x) := ⟨.str x, by unfold PyData.canLay0; exact nm_strOk h, by simp [PyData.depth]⟩
def enW (W : List Nat) : Onw := (List.range W.length).map fun i => (i, W.getD i 0)
theorem st_en (ss : List Stp) (t : Nat) : stS ss t = (menuS ss t).map fun x => (x, enW (gonW ss t x)) := rfl
def wAt (on : Onw) (t : Nat) : Nat := (on.map fun z => if z.1 = t then z.2 else 0).sum
theorem wsOf_go {ts : List Nat} (hn : ts.Nodup) : ∀ (on : Onw) (g : Nat → Nat), (∀ z ∈ on, z.1 ∈ ts) → on.foldl (fun ws z => ws.set (ts.idxOf z.1) (ws.getD (ts.idxOf z.1) 0 + z.2)) (ts.map g) = ts.map fun t => g t + wAt on t
  | [], g, _ => by simp [wAt]
  | z :: on, g, h => by
    have hz := h z (by simp)
    have hi : ts.idxOf z.1 < ts.length := List.idxOf_lt_length_iff.2 hz
    have hgi : ts[ts.idxOf z.1] = z.1 := List.getElem_idxOf hi
    have e : (ts.map g).set (ts.idxOf z.1) ((ts.map g).getD (ts.idxOf z.1) 0 + z.2) = ts.map fun t => g t + if z.1 = t then z.2 else 0 := by
      refine List.ext_getElem (by simp) fun i h1 h2 => ?_
      rw [List.getElem_set]
      have hil : i < ts.length := by simpa using h2
      by_cases e : ts.idxOf z.1 = i
      · subst e
        rw [if_pos rfl, List.getElem_map, hgi, if_pos rfl, List.getD_eq_getElem?_getD, List.getElem?_map, List.getElem?_eq_getElem hi, hgi]
        rfl
      · rw [if_neg e, List.getElem_map, List.getElem_map, if_neg]
        · rfl
        · intro e2
          have : ts[ts.idxOf z.1] = ts[i] := by rw [hgi, e2]
          exact e ((List.getElem_inj hn).1 this)
    rw [List.foldl_cons, e, wsOf_go hn on _ fun y hy => h y (by simp [hy])]
    refine List.map_congr_left fun t _ => ?_
    show _ = g t + ((z :: on).map fun z => if z.1 = t then z.2 else 0).sum
    rw [List.map_cons, List.sum_cons]
    unfold wAt
    omega
theorem wsOf_map {ts : List Nat} (hn : ts.Nodup) (on : Onw) (h : ∀ z ∈ on, z.1 ∈ ts) : wsOf ts on = ts.map (wAt on) := by
  have := wsOf_go hn on (fun _ => 0) h
  unfold wsOf
  rw [show List.replicate ts.length 0 = ts.map fun _ => 0 from (List.map_const' ..).symm, this]
  refine List.map_congr_left fun t _ => ?_
  omega
theorem wAt_pos (on : Onw) (t : Nat) : wAt (pos on) t = wAt on t := by
  induction on with
  | nil => rfl
  | cons z on ih =>
    unfold pos wAt at *
    rw [List.filter_cons]
    split
    · rw [List.map_cons, List.sum_cons, List.map_cons, List.sum_cons, ih]
    · rename_i h
      have h0 : z.2 = 0 := by
        have : ¬ 0 < z.2 := fun p => h (decide_eq_true p)
        omega
      rw [List.map_cons, List.sum_cons, ih, h0]
      simp
theorem wAt_rng (F : Nat → Nat) (t : Nat) : ∀ n, wAt ((List.range n).map fun i => (i, F i)) t = if t < n then F t else 0
  | 0 => by simp [wAt]
  | n + 1 => by
    have ih := wAt_rng F t n
    unfold wAt at *
    rw [List.range_succ, List.map_append, List.map_append, List.sum_append, ih]
    by_cases e : n = t
    · subst e
      simp
    · by_cases h : t < n
      · rw [if_pos h, if_pos (by omega)]
        simp [e]
      · rw [if_neg h, if_neg (by omega)]
        simp [e]
theorem wAt_en (W : List Nat) (t : Nat) : wAt (enW W) t = W.getD t 0 := by
  unfold enW
  rw [wAt_rng]
  split
  · rfl
  · rename_i h
    rw [List.getD_eq_getElem?_getD, List.getElem?_eq_none (by omega)]
    rfl
theorem mem_en {W : List Nat} {z : Nat × Nat} : z ∈ pos (enW W) ↔ z.2 = W.getD z.1 0 ∧ 0 < z.2 := by
  unfold pos enW
  rw [List.mem_filter, List.mem_map]
  constructor
  · rintro ⟨⟨i, _, rfl⟩, h⟩
    exact ⟨rfl, of_decide_eq_true h⟩
  · rintro ⟨h1, h2⟩
    refine ⟨⟨z.1, ?_, ?_⟩, decide_eq_true h2⟩
    · refine List.mem_range.2 (Nat.lt_of_not_le fun h => ?_)
      rw [List.getD_eq_getElem?_getD, List.getElem?_eq_none h] at h1
      have h1 : z.2 = 0 := h1
      omega
    · rw [← h1]
theorem mem_addA_inv {on : Onw} : ∀ {ts : List Nat} {x : Nat}, x ∈ addA ts on → x ∈ ts ∨ ∃ z ∈ on, z.1 = x := by
  induction on with
  | nil => exact fun h => .inl h
  | cons z on ih =>
    intro ts x h
    rcases ih (ts := add1 ts z.1) h with h | ⟨y, hy, e⟩
    · unfold add1 at h
      split at h
      · exact .inl h
      · rcases List.mem_append.1 h with h | h
        · exact .inl h
        · exact .inr ⟨z, by simp, (List.mem_singleton.1 h).symm⟩
    · exact .inr ⟨y, by simp [hy], e⟩
theorem find_key {ss : List Stp} (hn : (ss.map keyS).Nodup) {s : Stp} (hs : s ∈ ss) : lookS ss s.1 s.2.1 = some s.2.2 := by
  unfold lookS
  have : ss.find? (fun t => decide (keyS t = (s.1, s.2.1))) = some s := by
    induction ss with
    | nil => cases hs
    | cons t ss ih =>
      rw [List.map_cons, List.nodup_cons] at hn
      rw [List.find?_cons]
      rcases List.mem_cons.1 hs with rfl | hs
      · have e : decide (keyS s = (s.1, s.2.1)) = true := decide_eq_true rfl
        rw [e]
      · have hne : ¬ keyS t = (s.1, s.2.1) := fun e => hn.1 (by rw [e]; exact List.mem_map.2 ⟨s, hs, rfl⟩)
        rw [decide_eq_false hne]
        exact ih hn.2 hs
  rw [this]
  rfl
theorem gon_mem {ss : List Stp} (hn : (ss.map keyS).Nodup) {s : Stp} (hs : s ∈ ss) : gonW ss s.1 s.2.1 = s.2.2 := by
  unfold gonW
  rw [find_key hn hs]
  rfl
theorem menu_iff {ss : List Stp} {t : Nat} {x : Str} : x ∈ menuS ss t ↔ ∃ s ∈ ss, s.1 = t ∧ s.2.1 = x := by
  unfold menuS
  rw [List.mem_mergeSort, List.mem_map]
  constructor
  · rintro ⟨s, hs, e⟩
    rw [List.mem_filter] at hs
    exact ⟨s, hs.1, of_decide_eq_true hs.2, e⟩
  · rintro ⟨s, hs, e1, e2⟩
    exact ⟨s, List.mem_filter.2 ⟨hs, decide_eq_true e1⟩, e2⟩
theorem dataLe_str' : PySem.W.dataLe false PyData.str = fun a b : Str => decide (a.cps.toList ≤ b.cps.toList) := PySem.W.dataLe_str (fun b : Str => b)
theorem str_ext' {a b : Str} (h : a.cps.toList = b.cps.toList) : a = b := by
  obtain ⟨x⟩ := a
  obtain ⟨y⟩ := b
  have : x = y := Array.toList_inj.1 h
  rw [this]
theorem sortS_perm {l l' : List Str} (h : l.Perm l') : l.mergeSort (PySem.W.dataLe false PyData.str) = l'.mergeSort (PySem.W.dataLe false PyData.str) := by
  rw [dataLe_str']
  have tr : ∀ a b c : Str, decide (a.cps.toList ≤ b.cps.toList) = true → decide (b.cps.toList ≤ c.cps.toList) = true → decide (a.cps.toList ≤ c.cps.toList) = true := fun a b c h1 h2 => decide_eq_true (List.le_trans (of_decide_eq_true h1) (of_decide_eq_true h2))
  have tt : ∀ a b : Str, (decide (a.cps.toList ≤ b.cps.toList) || decide (b.cps.toList ≤ a.cps.toList)) = true := fun a b => by
    rw [Bool.or_eq_true, decide_eq_true_iff, decide_eq_true_iff]
    exact List.le_total _ _
  refine List.Perm.eq_of_pairwise (le := fun a b : Str => decide (a.cps.toList ≤ b.cps.toList) = true) (fun a b _ _ h1 h2 => str_ext' (List.le_antisymm (of_decide_eq_true h1) (of_decide_eq_true h2))) (List.pairwise_mergeSort tr tt l) (List.pairwise_mergeSort tr tt l') ?_
  exact ((List.mergeSort_perm _ _).trans h).trans (List.mergeSort_perm _ _).symm
theorem menu_same {m m' t t' : Nat} {ss ss' : List Stp} (hg : Good m ss) (hg' : Good m' ss') (h : ∀ x, (∃ s ∈ ss, s.1 = t ∧ s.2.1 = x) ↔ ∃ s ∈ ss', s.1 = t' ∧ s.2.1 = x) : menuS ss t = menuS ss' t' := by
  have p : (menuS ss t).Perm (menuS ss' t') := (List.perm_ext_iff_of_nodup (menu_nd hg t) (menu_nd hg' t')).2 fun x => by rw [menu_iff, menu_iff]; exact h x
  have e : ∀ (ss : List Stp) (t : Nat), (menuS ss t).mergeSort (PySem.W.dataLe false PyData.str) = menuS ss t := fun ss t => sortS_perm (List.mergeSort_perm _ _)
  rw [← e ss t, ← e ss' t', sortS_perm p]
structure Trim (m : Nat) (ss : List Stp) (K : Nat) : Prop where
  gd : Good m ss
  km : K ≤ m
  len : (bTm (stS ss) K).length = K
  go : ∀ k, k < K → k < (bTm (stS ss) k).length
  lt : ∀ t ∈ bTm (stS ss) K, t < m
def renS (od : List Nat) (s : Stp) : Stp := (od.idxOf s.1, s.2.1, od.map fun t => s.2.2.getD t 0)
def fnd (od : List Nat) (ss : List Stp) : List Stp := (ss.filter fun s => decide (s.1 ∈ od)).map (renS od)
section
variable {m K : Nat} {ss : List Stp} (h : Trim m ss K)
include h
theorem Trim.nd : (bTm (stS ss) K).Nodup := bT_nd _ K
theorem Trim.at {k : Nat} (hk : k < K) : (bTm (stS ss) k).getD k 0 = (bTm (stS ss) K).getD k 0 := pre_getD (bT_pre (stS ss) (Nat.le_of_lt hk)) (h.go k hk)
theorem Trim.idx {k : Nat} (hk : k < K) : (bTm (stS ss) K).idxOf ((bTm (stS ss) K).getD k 0) = k := by
  have hl : k < (bTm (stS ss) K).length := by rw [h.len]; exact hk
  rw [List.getD_eq_getElem?_getD, List.getElem?_eq_getElem hl]
  exact h.nd.idxOf_getElem k hl
theorem Trim.mem {k : Nat} (hk : k < K) : (bTm (stS ss) K).getD k 0 ∈ bTm (stS ss) K := by
  have hl : k < (bTm (stS ss) K).length := by rw [h.len]; exact hk
  rw [List.getD_eq_getElem?_getD, List.getElem?_eq_getElem hl]
  exact List.getElem_mem hl
theorem Trim.row {r : FRow} : r ∈ bR (stS ss) K ↔ ∃ k, k < K ∧ ∃ x ∈ menuS ss ((bTm (stS ss) K).getD k 0), r = (k, x, pos (enW (gonW ss ((bTm (stS ss) K).getD k 0) x))) := by
  have key : ∀ n, n ≤ K → (r ∈ bR (stS ss) n ↔ ∃ k, k < n ∧ ∃ x ∈ menuS ss ((bTm (stS ss) K).getD k 0), r = (k, x, pos (enW (gonW ss ((bTm (stS ss) K).getD k 0) x)))) := by
    intro n
    induction n with
    | zero => exact fun _ => ⟨fun h => (by cases h), fun ⟨k, hk, _⟩ => absurd hk (by omega)⟩
    | succ n ih =>
      intro hn
      have ih := ih (by omega)
      show r ∈ bR (stS ss) n ++ tR n (stS ss ((bTm (stS ss) n).getD n 0)) ↔ _
      rw [h.at (by omega), List.mem_append, ih]
      constructor
      · rintro (⟨k, hk, q⟩ | hr)
        · exact ⟨k, by omega, q⟩
        · obtain ⟨z, hz, rfl⟩ := List.mem_map.1 hr
          rw [st_en] at hz
          obtain ⟨x, hx, rfl⟩ := List.mem_map.1 hz
          exact ⟨n, by omega, x, hx, rfl⟩
      · rintro ⟨k, hk, x, hx, rfl⟩
        by_cases e : k = n
        · subst e
          refine .inr (List.mem_map.2 ⟨(x, enW (gonW ss ((bTm (stS ss) K).getD k 0) x)), ?_, rfl⟩)
          rw [st_en]
          exact List.mem_map.2 ⟨x, hx, rfl⟩
        · exact .inl ⟨k, by omega, x, hx, rfl⟩
  exact key K (Nat.le_refl _)
theorem Trim.ws {k : Nat} (hk : k < K) {x : Str} (hx : x ∈ menuS ss ((bTm (stS ss) K).getD k 0)) : wsOf (bTm (stS ss) K) (pos (enW (gonW ss ((bTm (stS ss) K).getD k 0) x))) = (bTm (stS ss) K).map fun t => (gonW ss ((bTm (stS ss) K).getD k 0) x).getD t 0 := by
  rw [wsOf_map h.nd _ (mem_bR (h.row.2 ⟨k, hk, x, hx, rfl⟩))]
  refine List.map_congr_left fun t _ => ?_
  rw [wAt_pos, wAt_en]
theorem Trim.keys : ((foS (stS ss) K).map keyS).Nodup := by
  have := bR_nd (St := stS ss) (fun t => by rw [st_names]; exact menu_nd h.gd t) K
  unfold foS
  rw [List.map_map]
  exact this
theorem Trim.fkeys : ((fnd (bTm (stS ss) K) ss).map keyS).Nodup := by
  have h1 : ((ss.filter fun s => decide (s.1 ∈ bTm (stS ss) K)).map keyS).Nodup := h.gd.nd.sublist (List.filter_sublist.map keyS)
  unfold fnd
  rw [List.map_map]
  unfold List.Nodup at h1 ⊢
  rw [List.pairwise_map] at h1 ⊢
  refine List.Pairwise.imp_of_mem (fun {a b} ha hb hn e => hn ?_) h1
  have ha := of_decide_eq_true (List.mem_filter.1 ha).2
  have hb := of_decide_eq_true (List.mem_filter.1 hb).2
  have e1 : (bTm (stS ss) K).idxOf a.1 = (bTm (stS ss) K).idxOf b.1 := congrArg Prod.fst e
  have e2 : a.2.1 = b.2.1 := congrArg Prod.snd e
  have la := List.idxOf_lt_length_iff.2 ha
  have lb := List.idxOf_lt_length_iff.2 hb
  have ga := List.getElem_idxOf la
  have gb := List.getElem_idxOf lb
  simp only [e1] at ga
  exact Prod.ext (ga.symm.trans gb) e2
theorem Trim.perm : (foS (stS ss) K).Perm (fnd (bTm (stS ss) K) ss) := by
  refine (List.perm_ext_iff_of_nodup ?_ ?_).2 fun s => ?_
  · exact (List.pairwise_map.1 h.keys).imp fun hn e => hn (by rw [e])
  · exact (List.pairwise_map.1 h.fkeys).imp fun hn e => hn (by rw [e])
  unfold foS fnd
  rw [List.mem_map, List.mem_map]
  constructor
  · rintro ⟨r, hr, rfl⟩
    obtain ⟨k, hk, x, hx, rfl⟩ := h.row.1 hr
    obtain ⟨s, hs, e1, e2⟩ := menu_iff.1 hx
    refine ⟨s, List.mem_filter.2 ⟨hs, decide_eq_true (by rw [e1]; exact h.mem hk)⟩, ?_⟩
    unfold renS
    rw [e1, e2, h.idx hk]
    show _ = (k, x, wsOf _ (pos _))
    rw [h.ws hk hx, ← e1, ← e2, gon_mem h.gd.nd hs]
  · rintro ⟨s, hs, rfl⟩
    obtain ⟨hs, hm⟩ := List.mem_filter.1 hs
    have hm := of_decide_eq_true hm
    have hl := List.idxOf_lt_length_iff.2 hm
    have hk : (bTm (stS ss) K).idxOf s.1 < K := by rw [h.len] at hl; exact hl
    have e : (bTm (stS ss) K).getD ((bTm (stS ss) K).idxOf s.1) 0 = s.1 := by
      rw [List.getD_eq_getElem?_getD, List.getElem?_eq_getElem hl]
      exact List.getElem_idxOf hl
    have hx : s.2.1 ∈ menuS ss ((bTm (stS ss) K).getD ((bTm (stS ss) K).idxOf s.1) 0) := by
      rw [e]
      exact menu_iff.2 ⟨s, hs, rfl, rfl⟩
    refine ⟨_, h.row.2 ⟨_, hk, _, hx, rfl⟩, ?_⟩
    show (_, _, wsOf _ (pos _)) = _
    rw [h.ws hk hx, e, gon_mem h.gd.nd hs]
    rfl
theorem Trim.zero {s : Stp} (hs : s ∈ ss) (hm : s.1 ∈ bTm (stS ss) K) {t : Nat} (ht : t ∉ bTm (stS ss) K) : s.2.2.getD t 0 = 0 := by
  refine Nat.eq_zero_of_not_pos fun hp => ht ?_
  have hl := List.idxOf_lt_length_iff.2 hm
  have hk : (bTm (stS ss) K).idxOf s.1 < K := by rw [h.len] at hl; exact hl
  have e : (bTm (stS ss) K).getD ((bTm (stS ss) K).idxOf s.1) 0 = s.1 := by
    rw [List.getD_eq_getElem?_getD, List.getElem?_eq_getElem hl]
    exact List.getElem_idxOf hl
  have hx : s.2.1 ∈ menuS ss ((bTm (stS ss) K).getD ((bTm (stS ss) K).idxOf s.1) 0) := by
    rw [e]
    exact menu_iff.2 ⟨s, hs, rfl, rfl⟩
  have := mem_bR (h.row.2 ⟨_, hk, _, hx, rfl⟩) (t, s.2.2.getD t 0)
  refine this ?_
  rw [e, gon_mem h.gd.nd hs]
  exact mem_en.2 ⟨rfl, hp⟩
end
theorem getD_mem {ws : List Nat} {t : Nat} (h : 0 < ws.getD t 0) : t < ws.length ∧ ws.getD t 0 ∈ ws := by
  by_cases ht : t < ws.length
  · refine ⟨ht, ?_⟩
    rw [List.getD_eq_getElem?_getD, List.getElem?_eq_getElem ht]
    exact List.getElem_mem ht
  · rw [List.getD_eq_getElem?_getD, List.getElem?_eq_none (by omega)] at h
    exact absurd h (Nat.lt_irrefl 0)
theorem getD_of_mem {ws : List Nat} {w : Nat} (h : w ∈ ws) : ∃ t, t < ws.length ∧ ws.getD t 0 = w := by
  obtain ⟨i, hi, rfl⟩ := List.getElem_of_mem h
  exact ⟨i, hi, by rw [List.getD_eq_getElem?_getD, List.getElem?_eq_getElem hi]; rfl⟩
theorem dvd_gcdL {d : Nat} {ws : List Nat} (h : ∀ w ∈ ws, d ∣ w) : d ∣ gcdL ws := by
  have key : ∀ (ws : List Nat) (g : Nat), d ∣ g → (∀ w ∈ ws, d ∣ w) → d ∣ ws.foldl (fun g w => Nat.gcd w g) g := by
    intro ws
    induction ws with
    | nil => exact fun g hg _ => hg
    | cons w ws ih => exact fun g hg h => ih _ (Nat.dvd_gcd (h w (by simp)) hg) fun v hv => h v (by simp [hv])
  exact key ws 0 (Nat.dvd_zero d) h
theorem low_one {ws : List Nat} (h : gcdL ws = 1) : low ws = ws := by
  unfold low
  rw [h]
  simp
structure Onto (od W V : List Nat) : Prop where
  nd : od.Nodup
  eq : V = od.map fun t => W.getD t 0
  z : ∀ t, t ∉ od → W.getD t 0 = 0
theorem Onto.mem {od W V : List Nat} (h : Onto od W V) {w : Nat} (hw : 0 < w) : w ∈ V ↔ w ∈ W := by
  rw [h.eq, List.mem_map]
  constructor
  · rintro ⟨t, _, rfl⟩
    exact (getD_mem hw).2
  · intro hm
    obtain ⟨t, _, rfl⟩ := getD_of_mem hm
    refine ⟨t, Classical.byContradiction fun n => ?_, rfl⟩
    have := h.z t n
    omega
theorem Onto.gcd {od W V : List Nat} (h : Onto od W V) : gcdL V = gcdL W := by
  refine Nat.dvd_antisymm (dvd_gcdL fun w hw => ?_) (dvd_gcdL fun w hw => ?_)
  · by_cases e : 0 < w
    · exact gcdL_dvd ((h.mem e).2 hw)
    · rw [Nat.eq_zero_of_not_pos e]; exact Nat.dvd_zero _
  · by_cases e : 0 < w
    · exact gcdL_dvd ((h.mem e).1 hw)
    · rw [Nat.eq_zero_of_not_pos e]; exact Nat.dvd_zero _
theorem Onto.pos {od W V : List Nat} (h : Onto od W V) (hp : 0 < W.sum) : 0 < V.sum := by
  obtain ⟨w, hw, h0⟩ := sum_pos hp
  exact Nat.lt_of_lt_of_le h0 (sum_of_mem ((h.mem h0).2 hw))
theorem Onto.bd {od W V : List Nat} (h : Onto od W V) {b : Nat} (hb : 0 < b) (hw : ∀ w ∈ W, w < b) : ∀ w ∈ V, w < b := by
  intro w hv
  by_cases e : 0 < w
  · exact hw w ((h.mem e).1 hv)
  · omega
section
variable {m K : Nat} {ss : List Stp} (h : Trim m ss K)
include h
theorem Trim.onto {s : Stp} (hs : s ∈ ss) (hm : s.1 ∈ bTm (stS ss) K) : Onto (bTm (stS ss) K) s.2.2 (renS (bTm (stS ss) K) s).2.2 := ⟨h.nd, rfl, fun _ ht => h.zero hs hm ht⟩
theorem Trim.k1 : 1 ≤ K := by
  rcases Nat.eq_zero_or_pos K with e | e
  · have := h.len
    rw [e] at this
    simp [bTm] at this
  · exact e
theorem Trim.fgood : Good K (fnd (bTm (stS ss) K) ss) where
  m1 := h.k1
  m12 := Nat.le_trans h.km h.gd.m12
  ln := by
    unfold fnd
    rw [List.length_map]
    exact Nat.le_trans (List.length_filter_le _ _) h.gd.ln
  nd := h.fkeys
  ok := fun s hs => by
    obtain ⟨t, ht, rfl⟩ := List.mem_map.1 hs
    obtain ⟨ht, hm⟩ := List.mem_filter.1 ht
    have hm := of_decide_eq_true hm
    have ok := h.gd.ok t ht
    have o := h.onto ht hm
    refine ⟨?_, ok.nm, ?_, o.pos ok.ps, o.bd (Nat.two_pow_pos _) ok.bd⟩
    · have := List.idxOf_lt_length_iff.2 hm
      rw [h.len] at this
      exact this
    · show (List.map _ _).length = K
      rw [List.length_map, h.len]
theorem Trim.good : Good K (foS (stS ss) K) where
  m1 := h.k1
  m12 := Nat.le_trans h.km h.gd.m12
  ln := by rw [h.perm.length_eq]; exact h.fgood.ln
  nd := h.keys
  ok := fun s hs => h.fgood.ok s (h.perm.mem_iff.1 hs)
theorem Trim.made (hl : ∀ s ∈ ss, gcdL s.2.2 = 1) : mkS (foS (stS ss) K) = srtS (fnd (bTm (stS ss) K) ss) := by
  show srtS ((foS (stS ss) K).map lowS) = _
  have e : (foS (stS ss) K).map lowS = foS (stS ss) K := by
    conv => rhs; rw [← List.map_id (foS (stS ss) K)]
    refine List.map_congr_left fun s hs => ?_
    obtain ⟨t, ht, rfl⟩ := List.mem_map.1 (h.perm.mem_iff.1 hs)
    obtain ⟨ht, hm⟩ := List.mem_filter.1 ht
    have o := h.onto ht (of_decide_eq_true hm)
    unfold lowS
    rw [low_one (by rw [o.gcd]; exact hl t ht)]
    rfl
  rw [e]
  exact srt_perm h.perm h.keys
theorem Trim.uniq {J : Nat} (hl : (bTm (stS ss) J).length = J) (go : ∀ k, k < J → k < (bTm (stS ss) k).length) : J = K := by
  rcases Nat.lt_trichotomy J K with q | q | q
  · have := h.go J q
    omega
  · exact q
  · have := go K q
    have := h.len
    omega
end
theorem srt_good {m : Nat} {ss : List Stp} (hg : Good m ss) : Good m (srtS ss) := by
  have p : (srtS ss).Perm ss := List.mergeSort_perm _ _
  exact ⟨hg.m1, hg.m12, by rw [p.length_eq]; exact hg.ln, by rw [(p.map keyS).nodup_iff]; exact hg.nd, fun s hs => hg.ok s (p.mem_iff.1 hs)⟩
theorem mem_srt {ss : List Stp} {s : Stp} : s ∈ srtS ss ↔ s ∈ ss := (List.mergeSort_perm _ _).mem_iff
theorem srt_srt {ss : List Stp} (hn : (ss.map keyS).Nodup) : srtS (srtS ss) = srtS ss := (srt_perm (List.mergeSort_perm ss (PySem.W.dataLe false stpP)).symm hn).symm
theorem pre_mem {a b : List Nat} (h : a <+: b) {i : Nat} (hi : i < a.length) : a.getD i 0 ∈ a ∧ a.getD i 0 = b.getD i 0 := by
  refine ⟨?_, pre_getD h hi⟩
  rw [List.getD_eq_getElem?_getD, List.getElem?_eq_getElem hi]
  exact List.getElem_mem hi
theorem nd_at {od : List Nat} (hn : od.Nodup) {i j : Nat} (hi : i < od.length) (hj : j < od.length) (e : od.getD i 0 = od.getD j 0) : i = j := by
  rw [List.getD_eq_getElem?_getD, List.getD_eq_getElem?_getD, List.getElem?_eq_getElem hi, List.getElem?_eq_getElem hj] at e
  exact (List.getElem_inj hn).1 e
theorem addA_app (a b : Onw) (ts : List Nat) : addA ts (a ++ b) = addA (addA ts a) b := by unfold addA; rw [List.foldl_append]
theorem pos_app (a b : Onw) : pos (a ++ b) = pos a ++ pos b := by unfold pos; rw [List.filter_append]
theorem addA_ren {od ts W : List Nat} (hn : od.Nodup) (hp : addA ts (pos (enW W)) <+: od) : addA (List.range ts.length) (pos (enW (od.map fun t => W.getD t 0))) = List.range (addA ts (pos (enW W))).length := by
  have hp0 : ts <+: od := (addA_pre _ ts).trans hp
  have hle : ts.length ≤ (addA ts (pos (enW W))).length := (addA_pre _ ts).length_le
  have hlo : (addA ts (pos (enW W))).length ≤ od.length := hp.length_le
  have e1 : enW (od.map fun t => W.getD t 0) = (List.range od.length).map fun i => (i, W.getD (od.getD i 0) 0) := by
    unfold enW
    rw [List.length_map]
    refine List.map_congr_left fun i hi => ?_
    have hi := List.mem_range.1 hi
    rw [List.getD_eq_getElem?_getD, List.getElem?_map, List.getElem?_eq_getElem hi, List.getD_eq_getElem?_getD (l := od), List.getElem?_eq_getElem hi]
    rfl
  have key : ∀ i, i ≤ od.length → addA (List.range ts.length) (pos ((List.range i).map fun i => (i, W.getD (od.getD i 0) 0))) = List.range (max ts.length (min i (addA ts (pos (enW W))).length)) := by
    intro i
    induction i with
    | zero =>
      intro _
      rw [Nat.zero_min, Nat.max_eq_left (Nat.zero_le _)]
      rfl
    | succ i ih =>
      intro hi
      have ih := ih (by omega)
      rw [List.range_succ, List.map_append, pos_app, addA_app, ih]
      show addA _ (pos [(i, W.getD (od.getD i 0) 0)]) = _
      by_cases hw : 0 < W.getD (od.getD i 0) 0
      · have e : pos [(i, W.getD (od.getD i 0) 0)] = [(i, W.getD (od.getD i 0) 0)] := by
          unfold pos
          rw [List.filter_cons, if_pos (decide_eq_true hw)]
          rfl
        rw [e]
        show add1 _ i = _
        have hin : od.getD i 0 ∈ addA ts (pos (enW W)) := mem_addA (z := (od.getD i 0, W.getD (od.getD i 0) 0)) (mem_en.2 ⟨rfl, hw⟩)
        have hi1 : i < (addA ts (pos (enW W))).length := by
          obtain ⟨j, hj, ej⟩ := List.getElem_of_mem hin
          have := pre_mem hp hj
          have e2 : od.getD j 0 = od.getD i 0 := by
            rw [← this.2, List.getD_eq_getElem?_getD, List.getElem?_eq_getElem hj]
            exact ej
          have := nd_at hn (by omega) (by omega) e2
          omega
        unfold add1
        by_cases hl : i < ts.length
        · rw [if_pos (List.mem_range.2 (by omega))]
          congr 1
          omega
        · rw [if_neg (fun h => by have := List.mem_range.1 h; omega)]
          rw [show max ts.length (min i (addA ts (pos (enW W))).length) = i by omega, show max ts.length (min (i + 1) (addA ts (pos (enW W))).length) = i + 1 by omega, List.range_succ]
      · have e : pos [(i, W.getD (od.getD i 0) 0)] = [] := by
          unfold pos
          rw [List.filter_cons, if_neg (by simpa using hw)]
          rfl
        rw [e]
        show List.range _ = _
        congr 1
        by_cases hl : i < ts.length
        · omega
        by_cases hl2 : i < (addA ts (pos (enW W))).length
        · have h1 := pre_mem hp hl2
          rw [← h1.2] at hw
          rcases mem_addA_inv h1.1 with q | ⟨z, hz, e2⟩
          · obtain ⟨j, hj, ej⟩ := List.getElem_of_mem q
            have h3 := pre_mem hp0 hj
            have e3 : od.getD j 0 = od.getD i 0 := by
              rw [← h3.2, ← h1.2, List.getD_eq_getElem?_getD, List.getElem?_eq_getElem hj]
              exact ej
            have := nd_at hn (by omega) (by omega) e3
            omega
          · have := mem_en.1 hz
            rw [e2] at this
            omega
        · omega
  rw [e1, key _ (Nat.le_refl _)]
  congr 1
  omega
theorem tT_ren {od : List Nat} (hn : od.Nodup) : ∀ (L : List (Str × List Nat)) {ts : List Nat}, tT (L.map fun z => (z.1, enW z.2)) ts <+: od → tT (L.map fun z => (z.1, enW (od.map fun t => z.2.getD t 0))) (List.range ts.length) = List.range (tT (L.map fun z => (z.1, enW z.2)) ts).length
  | [], _, _ => rfl
  | z :: L, ts, hp => by
    have hp : tT (L.map fun z => (z.1, enW z.2)) (addA ts (pos (enW z.2))) <+: od := hp
    show tT (L.map fun z => (z.1, enW (od.map fun t => z.2.getD t 0))) (addA (List.range ts.length) (pos (enW (od.map fun t => z.2.getD t 0)))) = _
    rw [addA_ren hn ((tT_pre _ _).trans hp), tT_ren hn L hp]
    rfl
section
variable {m K : Nat} {ss S' : List Stp} (h : Trim m ss K) (hS : S' = srtS (fnd (bTm (stS ss) K) ss))
include h hS
theorem Trim.told : Good K S' := hS ▸ srt_good h.fgood
theorem Trim.gon {k : Nat} (hk : k < K) {x : Str} (hx : x ∈ menuS ss ((bTm (stS ss) K).getD k 0)) : gonW S' k x = (bTm (stS ss) K).map fun t => (gonW ss ((bTm (stS ss) K).getD k 0) x).getD t 0 := by
  obtain ⟨s, hs, e1, e2⟩ := menu_iff.1 hx
  have hm : s.1 ∈ bTm (stS ss) K := by rw [e1]; exact h.mem hk
  have h1 : renS (bTm (stS ss) K) s ∈ S' := by
    rw [hS, mem_srt]
    exact List.mem_map.2 ⟨s, List.mem_filter.2 ⟨hs, decide_eq_true hm⟩, rfl⟩
  have h2 := gon_mem (h.told hS).nd h1
  have e3 : (renS (bTm (stS ss) K) s).1 = k := by
    show (bTm (stS ss) K).idxOf s.1 = k
    rw [e1]
    exact h.idx hk
  rw [e3] at h2
  rw [← e2]
  refine h2.trans ?_
  show (bTm (stS ss) K).map (fun t => s.2.2.getD t 0) = _
  rw [← e1, gon_mem h.gd.nd hs]
theorem Trim.menu {k : Nat} (hk : k < K) : menuS S' k = menuS ss ((bTm (stS ss) K).getD k 0) := by
  refine menu_same (h.told hS) h.gd fun x => ?_
  constructor
  · rintro ⟨s', hs', e1, e2⟩
    rw [hS, mem_srt] at hs'
    obtain ⟨s, hs, rfl⟩ := List.mem_map.1 hs'
    obtain ⟨hs, hm⟩ := List.mem_filter.1 hs
    have hl := List.idxOf_lt_length_iff.2 (of_decide_eq_true hm)
    refine ⟨s, hs, ?_, e2⟩
    have e1 : (bTm (stS ss) K).idxOf s.1 = k := e1
    rw [← e1, List.getD_eq_getElem?_getD, List.getElem?_eq_getElem hl]
    exact (List.getElem_idxOf hl).symm
  · rintro ⟨s, hs, e1, e2⟩
    refine ⟨renS (bTm (stS ss) K) s, ?_, ?_, e2⟩
    · rw [hS, mem_srt]
      exact List.mem_map.2 ⟨s, List.mem_filter.2 ⟨hs, decide_eq_true (by rw [e1]; exact h.mem hk)⟩, rfl⟩
    · show (bTm (stS ss) K).idxOf s.1 = k
      rw [e1]
      exact h.idx hk
theorem Trim.found : ∀ k, k ≤ K → bTm (stS S') k = List.range (bTm (stS ss) k).length
  | 0, _ => rfl
  | k + 1, hk => by
    have ih := Trim.found k (by omega)
    have hkl := h.go k (by omega)
    have e0 : (bTm (stS S') k).getD k 0 = k := by
      rw [ih, List.getD_eq_getElem?_getD, List.getElem?_range hkl]
      rfl
    show tT (stS S' ((bTm (stS S') k).getD k 0)) (bTm (stS S') k) = _
    rw [e0, ih]
    have e1 : stS ss ((bTm (stS ss) k).getD k 0) = ((menuS ss ((bTm (stS ss) K).getD k 0)).map fun x => (x, gonW ss ((bTm (stS ss) K).getD k 0) x)).map fun z => (z.1, enW z.2) := by
      rw [h.at (by omega), st_en, List.map_map]
      rfl
    have e2 : stS S' k = ((menuS ss ((bTm (stS ss) K).getD k 0)).map fun x => (x, gonW ss ((bTm (stS ss) K).getD k 0) x)).map fun z => (z.1, enW ((bTm (stS ss) K).map fun t => z.2.getD t 0)) := by
      rw [st_en, h.menu hS (by omega), List.map_map]
      refine List.map_congr_left fun x hx => ?_
      rw [h.gon hS (by omega) hx]
      rfl
    have hp : tT (stS ss ((bTm (stS ss) k).getD k 0)) (bTm (stS ss) k) <+: bTm (stS ss) K := bT_pre (stS ss) hk
    rw [e1] at hp
    rw [e2, tT_ren h.nd _ hp, ← e1]
    rfl
theorem Trim.again : Trim K S' K where
  gd := h.told hS
  km := Nat.le_refl _
  len := by rw [h.found hS K (Nat.le_refl _), List.length_range, h.len]
  go := fun k hk => by rw [h.found hS k (by omega), List.length_range]; exact h.go k hk
  lt := fun t ht => by
    rw [h.found hS K (Nat.le_refl _), h.len] at ht
    exact List.mem_range.1 ht
theorem Trim.same : srtS (fnd (bTm (stS S') K) S') = S' := by
  have e : fnd (bTm (stS S') K) S' = S' := by
    rw [h.found hS K (Nat.le_refl _), h.len]
    unfold fnd
    rw [List.filter_eq_self.2 fun s hs => decide_eq_true (List.mem_range.2 ((h.told hS).ok s hs).rm)]
    conv => rhs; rw [← List.map_id S']
    refine List.map_congr_left fun s hs => ?_
    have ok := (h.told hS).ok s hs
    unfold renS
    refine Prod.ext ?_ (Prod.ext rfl ?_)
    · show (List.range K).idxOf s.1 = s.1
      have : (List.range K)[s.1]'(by rw [List.length_range]; exact ok.rm) = s.1 := List.getElem_range ..
      conv => lhs; rw [← this]
      exact List.nodup_range.idxOf_getElem s.1 (by rw [List.length_range]; exact ok.rm)
    · show (List.range K).map (fun t => s.2.2.getD t 0) = s.2.2
      rw [← ok.ln]
      refine List.ext_getElem (by simp) fun i h1 h2 => ?_
      rw [List.getElem_map, List.getElem_range, List.getD_eq_getElem?_getD, List.getElem?_eq_getElem h2]
      rfl
  rw [e, hS, srt_srt h.fkeys]
end
def zs (j : Nat) (W : List Nat) : List Nat := W ++ List.replicate j 0
def zS (j : Nat) (s : Stp) : Stp := (s.1, s.2.1, zs j s.2.2)
theorem zs_getD (j : Nat) (W : List Nat) (t : Nat) : (zs j W).getD t 0 = W.getD t 0 := by
  unfold zs
  rw [List.getD_eq_getElem?_getD, List.getD_eq_getElem?_getD]
  by_cases h : t < W.length
  · rw [List.getElem?_append_left h]
  · rw [List.getElem?_append_right (by omega), List.getElem?_eq_none (l := W) (by omega), List.getElem?_replicate]
    split <;> rfl
theorem pos_en_congr {W V : List Nat} (h : ∀ t, W.getD t 0 = V.getD t 0) (hl : W.length ≤ V.length) : pos (enW W) = pos (enW V) := by
  obtain ⟨d, hd⟩ : ∃ d, V.length = W.length + d := ⟨V.length - W.length, by omega⟩
  unfold enW
  rw [hd]
  have e : (List.range W.length).map (fun i => (i, W.getD i 0)) = (List.range W.length).map fun i => (i, V.getD i 0) := List.map_congr_left fun i _ => by rw [h i]
  rw [e]
  have key : ∀ d, pos ((List.range (W.length + d)).map fun i => (i, V.getD i 0)) = pos ((List.range W.length).map fun i => (i, V.getD i 0)) := by
    intro d
    induction d with
    | zero => rfl
    | succ d ih =>
      rw [show W.length + (d + 1) = (W.length + d) + 1 by omega, List.range_succ, List.map_append, pos_app, ih]
      have z : V.getD (W.length + d) 0 = 0 := by
        rw [← h, List.getD_eq_getElem?_getD, List.getElem?_eq_none (by omega)]
        rfl
      have : pos (List.map (fun i => (i, V.getD i 0)) [W.length + d]) = [] := by
        unfold pos
        rw [List.map_singleton, z]
        rfl
      rw [this, List.append_nil]
  rw [key d]
structure More (m j : Nat) (ss s2 : List Stp) : Prop where
  g1 : Good m ss
  g2 : Good (m + j) s2
  on : ∀ s ∈ ss, zS j s ∈ s2
  of : ∀ s ∈ s2, s.1 < m → ∃ t ∈ ss, s = zS j t
theorem tT_pos {S S' : List (Str × Onw)} (h : S.map (fun z => (z.1, pos z.2)) = S'.map fun z => (z.1, pos z.2)) (ts : List Nat) : tT S ts = tT S' ts := by
  have key : ∀ (S : List (Str × Onw)) (ts : List Nat), tT S ts = (S.map fun z => (z.1, pos z.2)).foldl (fun ts z => addA ts z.2) ts := fun S ts => by
    unfold tT
    rw [List.foldl_map]
  rw [key, key, h]
theorem More.st {m j : Nat} {ss s2 : List Stp} (h : More m j ss s2) {t : Nat} (ht : t < m) : (stS s2 t).map (fun z => (z.1, pos z.2)) = (stS ss t).map fun z => (z.1, pos z.2) := by
  have em : menuS s2 t = menuS ss t := by
    refine menu_same h.g2 h.g1 fun x => ?_
    constructor
    · rintro ⟨s, hs, e1, e2⟩
      obtain ⟨t, ht, rfl⟩ := h.of s hs (by omega)
      exact ⟨t, ht, e1, e2⟩
    · rintro ⟨s, hs, e1, e2⟩
      exact ⟨_, h.on s hs, e1, e2⟩
  rw [st_en, st_en, em, List.map_map, List.map_map]
  refine List.map_congr_left fun x hx => ?_
  obtain ⟨s, hs, rfl, rfl⟩ := menu_iff.1 hx
  have e1 := gon_mem h.g1.nd hs
  have e2 := gon_mem h.g2.nd (h.on s hs)
  have e2 : gonW s2 s.1 s.2.1 = zs j s.2.2 := e2
  show (s.2.1, pos (enW (gonW s2 s.1 s.2.1))) = (s.2.1, pos (enW (gonW ss s.1 s.2.1)))
  rw [e1, e2, pos_en_congr (W := s.2.2) (V := zs j s.2.2) (fun t => (zs_getD j _ t).symm) (by unfold zs; rw [List.length_append]; omega)]
theorem More.found {m j : Nat} {ss s2 : List Stp} (h : More m j ss s2) : ∀ k, bTm (stS s2) k = bTm (stS ss) k
  | 0 => rfl
  | k + 1 => by
    have ih := More.found h k
    have hl : (bTm (stS ss) k).getD k 0 < m := by
      have hb := bT_all (p := fun x => x < m) (St := stS ss) h.g1.m1 (st_lt h.g1) k
      rw [List.getD_eq_getElem?_getD]
      cases e : (bTm (stS ss) k)[k]? with
      | none => exact h.g1.m1
      | some t => exact hb t (List.mem_of_getElem? e)
    show tT (stS s2 ((bTm (stS s2) k).getD k 0)) (bTm (stS s2) k) = tT (stS ss ((bTm (stS ss) k).getD k 0)) (bTm (stS ss) k)
    rw [ih, tT_pos (h.st hl)]
theorem More.trim {m j K : Nat} {ss s2 : List Stp} (h : More m j ss s2) (T : Trim m ss K) : Trim (m + j) s2 K where
  gd := h.g2
  km := Nat.le_trans T.km (Nat.le_add_right _ _)
  len := by rw [h.found]; exact T.len
  go := fun k hk => by rw [h.found]; exact T.go k hk
  lt := fun t ht => by rw [h.found] at ht; have := T.lt t ht; omega
theorem More.same {m j K : Nat} {ss s2 : List Stp} (h : More m j ss s2) (T : Trim m ss K) : srtS (fnd (bTm (stS s2) K) s2) = srtS (fnd (bTm (stS ss) K) ss) := by
  have T2 := h.trim T
  refine srt_perm ((List.perm_ext_iff_of_nodup ?_ ?_).2 fun s => ?_) T2.fkeys
  · exact (List.pairwise_map.1 T2.fkeys).imp fun hn e => hn (by rw [e])
  · exact (List.pairwise_map.1 T.fkeys).imp fun hn e => hn (by rw [e])
  have er : ∀ s, renS (bTm (stS s2) K) (zS j s) = renS (bTm (stS ss) K) s := fun s => by
    rw [h.found]
    unfold renS
    refine Prod.ext rfl (Prod.ext rfl ?_)
    exact List.map_congr_left fun t _ => zs_getD j s.2.2 t
  unfold fnd
  rw [List.mem_map, List.mem_map]
  constructor
  · rintro ⟨t, ht, rfl⟩
    obtain ⟨ht, hm⟩ := List.mem_filter.1 ht
    have hm := of_decide_eq_true hm
    rw [h.found] at hm
    obtain ⟨u, hu, rfl⟩ := h.of t ht (T.lt _ hm)
    exact ⟨u, List.mem_filter.2 ⟨hu, decide_eq_true hm⟩, (er u).symm⟩
  · rintro ⟨u, hu, rfl⟩
    obtain ⟨hu, hm⟩ := List.mem_filter.1 hu
    have hm := of_decide_eq_true hm
    exact ⟨zS j u, List.mem_filter.2 ⟨h.on u hu, decide_eq_true (by rw [h.found]; exact hm)⟩, er u⟩
theorem rsum_perm {l l' : List Rat} (h : l.Perm l') : l.sum = l'.sum := by
  induction h with
  | nil => rfl
  | cons a _ ih => rw [List.sum_cons, List.sum_cons, ih]
  | swap a b l =>
    simp only [List.sum_cons]
    grind
  | trans _ _ h1 h2 => exact h1.trans h2
theorem nsum_perm {l l' : List Nat} (h : l.Perm l') : l.sum = l'.sum := by
  induction h with
  | nil => rfl
  | cons a _ ih => rw [List.sum_cons, List.sum_cons, ih]
  | swap a b l =>
    simp only [List.sum_cons]
    omega
  | trans _ _ h1 h2 => exact h1.trans h2
theorem rsum_drop (F : Nat → Rat) (p : Nat → Bool) : ∀ l : List Nat, (∀ t ∈ l, p t = false → F t = 0) → (l.map F).sum = ((l.filter p).map F).sum
  | [], _ => rfl
  | a :: l, h => by
    rw [List.map_cons, List.sum_cons, rsum_drop F p l fun t ht => h t (by simp [ht]), List.filter_cons]
    cases e : p a with
    | true => rw [if_pos rfl, List.map_cons, List.sum_cons]
    | false =>
      rw [if_neg (by simp), h a (by simp) e, Rat.zero_add]
theorem nsum_drop (F : Nat → Nat) (p : Nat → Bool) : ∀ l : List Nat, (∀ t ∈ l, p t = false → F t = 0) → (l.map F).sum = ((l.filter p).map F).sum
  | [], _ => rfl
  | a :: l, h => by
    rw [List.map_cons, List.sum_cons, nsum_drop F p l fun t ht => h t (by simp [ht]), List.filter_cons]
    cases e : p a with
    | true => rw [if_pos rfl, List.map_cons, List.sum_cons]
    | false =>
      rw [if_neg (by simp), h a (by simp) e, Nat.zero_add]
theorem od_perm {od : List Nat} {m : Nat} (hn : od.Nodup) (hm : ∀ t ∈ od, t < m) : ((List.range m).filter fun t => decide (t ∈ od)).Perm od := by
  refine (List.perm_ext_iff_of_nodup (List.nodup_range.filter _) hn).2 fun t => ?_
  rw [List.mem_filter, List.mem_range, decide_eq_true_iff]
  exact ⟨fun h => h.2, fun h => ⟨hm t h, h⟩⟩
theorem rsum_onto {od : List Nat} {m : Nat} (hn : od.Nodup) (hm : ∀ t ∈ od, t < m) (F : Nat → Rat) (h0 : ∀ t, t ∉ od → F t = 0) : ((List.range m).map F).sum = (od.map F).sum := by
  rw [rsum_drop F (fun t => decide (t ∈ od)) _ fun t _ h => h0 t (of_decide_eq_false h)]
  exact rsum_perm ((od_perm hn hm).map F)
theorem nsum_onto {od : List Nat} {m : Nat} (hn : od.Nodup) (hm : ∀ t ∈ od, t < m) (F : Nat → Nat) (h0 : ∀ t, t ∉ od → F t = 0) : ((List.range m).map F).sum = (od.map F).sum := by
  rw [nsum_drop F (fun t => decide (t ∈ od)) _ fun t _ h => h0 t (of_decide_eq_false h)]
  exact nsum_perm ((od_perm hn hm).map F)
theorem list_range {α : Type} (d : α) (l : List α) : (List.range l.length).map (fun i => l.getD i d) = l := by
  refine List.ext_getElem (by simp) fun i h1 h2 => ?_
  rw [List.getElem_map, List.getElem_range, List.getD_eq_getElem?_getD, List.getElem?_eq_getElem h2]
  rfl
theorem getD_range {m r : Nat} (f : Nat → Rat) : ((List.range m).map f).getD r 0 = if r < m then f r else 0 := by
  rw [List.getD_eq_getElem?_getD, List.getElem?_map]
  by_cases h : r < m
  · rw [List.getElem?_range h, if_pos h]
    rfl
  · rw [List.getElem?_eq_none (by simpa using h), if_neg h]
    rfl
theorem look_gon {ss : List Stp} {t : Nat} {x : Str} (h : x ∈ menuS ss t) : lookS ss t x = some (gonW ss t x) := by
  obtain ⟨ws, e⟩ := menu_look h
  unfold gonW
  rw [e]
  rfl
theorem look_no {ss : List Stp} {t : Nat} {x : Str} (h : x ∉ menuS ss t) : lookS ss t x = none := by
  cases e : lookS ss t x with
  | none => rfl
  | some ws =>
    obtain ⟨s, hs, e1, e2, _⟩ := look_mem e
    exact absurd (menu_iff.2 ⟨s, hs, e1, e2⟩) h
theorem Trim.chL {m K : Nat} {ss S' : List Stp} (h : Trim m ss K) (hS : S' = srtS (fnd (bTm (stS ss) K) ss)) : ∀ (w : List Str) (k : Nat), k < K → (chL K S' w).getD k 0 = (chL m ss w).getD ((bTm (stS ss) K).getD k 0) 0
  | [], k, hk => by
    show ((List.range K).map fun _ => (1 : Rat)).getD k 0 = ((List.range m).map fun _ => (1 : Rat)).getD _ 0
    rw [getD_range, getD_range, if_pos hk, if_pos (h.lt _ (h.mem hk))]
  | x :: w, k, hk => by
    have ht := h.lt _ (h.mem hk)
    rw [chL_cons, chL_cons, getD_range, getD_range, if_pos hk, if_pos ht]
    unfold stepQ
    by_cases hx : x ∈ menuS ss ((bTm (stS ss) K).getD k 0)
    · rw [look_gon hx, look_gon (by rw [h.menu hS hk]; exact hx), h.gon hS hk hx]
      obtain ⟨s, hs, e1, e2⟩ := menu_iff.1 hx
      have hm : s.1 ∈ bTm (stS ss) K := by rw [e1]; exact h.mem hk
      have eW : gonW ss ((bTm (stS ss) K).getD k 0) x = s.2.2 := by rw [← e1, ← e2]; exact gon_mem h.gd.nd hs
      rw [eW]
      have ok := h.gd.ok s hs
      have hz : ∀ t, t ∉ bTm (stS ss) K → s.2.2.getD t 0 = 0 := fun t ht => h.zero hs hm ht
      have esum : ((bTm (stS ss) K).map fun t => s.2.2.getD t 0).sum = s.2.2.sum := by
        rw [← nsum_onto h.nd h.lt _ hz, ← ok.ln, list_range]
      show ledQ ((bTm (stS ss) K).map fun t => s.2.2.getD t 0) (Far.chL K S' w) = ledQ s.2.2 (Far.chL m ss w)
      unfold ledQ
      rw [ok.ln, List.length_map]
      have e3 : ((List.range m).map fun t => wtQ s.2.2 t * (Far.chL m ss w).getD t 0).sum = ((bTm (stS ss) K).map fun t => wtQ s.2.2 t * (Far.chL m ss w).getD t 0).sum := by
        refine rsum_onto h.nd h.lt _ fun t ht => ?_
        have : wtQ s.2.2 t = 0 := by
          unfold wtQ
          rw [hz t ht]
          simp
        rw [this, Rat.zero_mul]
      rw [e3]
      conv => rhs; rw [← list_range 0 (bTm (stS ss) K)]
      rw [List.map_map]
      refine congrArg List.sum (List.map_congr_left fun i hi => ?_)
      have hi : i < K := by have := List.mem_range.1 hi; rw [h.len] at this; exact this
      have hil : i < (bTm (stS ss) K).length := by rw [h.len]; exact hi
      rw [Trim.chL h hS w i hi]
      show _ = wtQ s.2.2 ((bTm (stS ss) K).getD i 0) * _
      refine congrArg (· * _) ?_
      unfold wtQ
      rw [esum, List.getD_eq_getElem?_getD, List.getElem?_map, List.getElem?_eq_getElem hil, List.getD_eq_getElem?_getD (l := bTm (stS ss) K), List.getElem?_eq_getElem hil]
      rfl
    · rw [look_no hx, look_no (by rw [h.menu hS hk]; exact hx)]
theorem Trim.chQ {m K : Nat} {ss S' : List Stp} (h : Trim m ss K) (hS : S' = srtS (fnd (bTm (stS ss) K) ss)) (w : List Str) : Far.chQ K S' w = Far.chQ m ss w := by
  have h0 : (bTm (stS ss) K).getD 0 0 = 0 := by
    have := pre_getD (bT_pre (stS ss) (Nat.zero_le K)) (show 0 < (bTm (stS ss) 0).length by simp [bTm])
    rw [← this]
    rfl
  have := h.chL hS w 0 h.k1
  rw [h0] at this
  exact this
theorem Trim.sums {m K b : Nat} {ss S' : List Stp} (h : Trim m ss K) (hS : S' = srtS (fnd (bTm (stS ss) K) ss)) (hb : ∀ s ∈ ss, s.2.2.sum < b) : ∀ s ∈ S', s.2.2.sum < b := by
  intro s hs
  rw [hS, mem_srt] at hs
  obtain ⟨t, ht, rfl⟩ := List.mem_map.1 hs
  obtain ⟨ht, hm⟩ := List.mem_filter.1 ht
  have hm := of_decide_eq_true hm
  have ok := h.gd.ok t ht
  have hz : ∀ u, u ∉ bTm (stS ss) K → t.2.2.getD u 0 = 0 := fun u hu => h.zero ht hm hu
  show ((bTm (stS ss) K).map fun u => t.2.2.getD u 0).sum < b
  rw [← nsum_onto h.nd h.lt _ hz, ← ok.ln, list_range]
  exact hb t ht
open PySem PySem.Spec PyProof.Rows L2 Pw Cg
theorem Opt.uniq {n m : Nat} {c : Nat → Nat → Rat} {f s : Nat → Rat} {π π' : Nat → Nat → Rat} {p q p' q' : Nat → Rat} (h : Opt n m c f s π p q) (h' : Opt n m c f s π' p' q') : cost n m c π = cost n m c π' := by
  have h1 := h.least h'.plan
  have h2 := h'.least h.plan
  grind
def grt (l : List Rat) : Rat := l.foldl (fun a b => if a < b then b else a) 0
theorem grt_go : ∀ (l : List Rat) (a : Rat), a ≤ l.foldl (fun a b => if a < b then b else a) a ∧ (∀ b ∈ l, b ≤ l.foldl (fun a b => if a < b then b else a) a) ∧ (l.foldl (fun a b => if a < b then b else a) a = a ∨ l.foldl (fun a b => if a < b then b else a) a ∈ l)
  | [], a => ⟨Rat.le_refl, fun b hb => (by cases hb), .inl rfl⟩
  | b :: l, a => by
    obtain ⟨h1, h2, h3⟩ := grt_go l (if a < b then b else a)
    show _ ≤ l.foldl _ (if a < b then b else a) ∧ (∀ c ∈ b :: l, c ≤ l.foldl _ (if a < b then b else a)) ∧ (l.foldl _ (if a < b then b else a) = a ∨ l.foldl _ (if a < b then b else a) ∈ b :: l)
    have ha : a ≤ if a < b then b else a := by split <;> grind
    have hb : b ≤ if a < b then b else a := by split <;> grind
    refine ⟨Rat.le_trans ha h1, fun c hc => ?_, ?_⟩
    · rcases List.mem_cons.1 hc with rfl | hc
      · exact Rat.le_trans hb h1
      · exact h2 c hc
    · rcases h3 with h3 | h3
      · rw [h3]
        split
        · exact .inr (by simp)
        · exact .inl rfl
      · exact .inr (List.mem_cons_of_mem _ h3)
theorem grt_nn (l : List Rat) : 0 ≤ grt l := (grt_go l 0).1
theorem grt_le {l : List Rat} {b : Rat} (h : b ∈ l) : b ≤ grt l := (grt_go l 0).2.1 b h
theorem grt_or (l : List Rat) : grt l = 0 ∨ grt l ∈ l := (grt_go l 0).2.2
theorem grt_lt {l : List Rat} {b : Rat} (h0 : 0 ≤ b) (h : ∀ a ∈ l, a ≤ b) : grt l ≤ b := by
  rcases grt_or l with e | e
  · rw [e]; exact h0
  · exact h _ e
def hpF (ss : List Stp) (r : Nat) (x : Str) (i : Nat) : Rat := wtQ (gonW ss r x) i
def Cst (m1 m2 : Nat) (s1 s2 : List Stp) (c : Nat → Nat → Rat) (x y : Nat) (a : Str) (v : Rat) : Prop := ∃ π p q, Opt m1 m2 c (hpF s1 x a) (hpF s2 y a) π p q ∧ v = cost m1 m2 c π
def Stp1 (f : Rat) (m1 m2 : Nat) (s1 s2 : List Stp) (c : Nat → Nat → Rat) (x y : Nat) (v : Rat) : Prop :=
  (menuS s1 x ≠ menuS s2 y ∧ v = 1) ∨ (menuS s1 x = menuS s2 y ∧ ∃ g : Str → Rat, (∀ a ∈ menuS s1 x, Cst m1 m2 s1 s2 c x y a (g a)) ∧ v = grt ((menuS s1 x).map fun a => f * g a))
def Dep (f : Rat) (m1 m2 : Nat) (s1 s2 : List Stp) : Nat → (Nat → Nat → Rat) → Prop
  | 0, t => ∀ x y, x < m1 → y < m2 → t x y = 0
  | k + 1, t => ∃ t', Dep f m1 m2 s1 s2 k t' ∧ ∀ x y, x < m1 → y < m2 → Stp1 f m1 m2 s1 s2 t' x y (t x y)
section
variable {f : Rat} {m1 m2 : Nat} {s1 s2 : List Stp} {c c' : Nat → Nat → Rat} {x y : Nat} {a : Str} {v v' : Rat}
theorem Cst.uniq (h : Cst m1 m2 s1 s2 c x y a v) (h' : Cst m1 m2 s1 s2 c x y a v') : v = v' := by
  obtain ⟨π, p, q, o, rfl⟩ := h
  obtain ⟨π', p', q', o', rfl⟩ := h'
  exact o.uniq o'
theorem Cst.mono (h : Cst m1 m2 s1 s2 c x y a v) (h' : Cst m1 m2 s1 s2 c' x y a v') (hc : ∀ x y, x < m1 → y < m2 → c x y ≤ c' x y) : v ≤ v' := by
  obtain ⟨π, p, q, o, rfl⟩ := h
  obtain ⟨π', p', q', o', rfl⟩ := h'
  refine Rat.le_trans (o.least o'.plan) ?_
  exact sm_le fun x hx => sm_le fun y hy => Rat.mul_le_mul_of_nonneg_right (hc x y hx hy) (o'.nn x y hx hy)
theorem Stp1.mono (hf : 0 ≤ f) (h : Stp1 f m1 m2 s1 s2 c x y v) (h' : Stp1 f m1 m2 s1 s2 c' x y v') (hc : ∀ x y, x < m1 → y < m2 → c x y ≤ c' x y) : v ≤ v' := by
  rcases h with ⟨n, rfl⟩ | ⟨e, g, h1, rfl⟩
  · rcases h' with ⟨_, rfl⟩ | ⟨e, _⟩
    · exact Rat.le_refl
    · exact absurd e n
  · rcases h' with ⟨n, _⟩ | ⟨_, g', h2, rfl⟩
    · exact absurd e n
    · refine grt_lt (grt_nn _) fun b hb => ?_
      obtain ⟨z, hz, rfl⟩ := List.mem_map.1 hb
      exact Rat.le_trans (Rat.mul_le_mul_of_nonneg_left ((h1 z hz).mono (h2 z hz) hc) hf) (grt_le (List.mem_map.2 ⟨z, hz, rfl⟩))
theorem hp_sum {m : Nat} {ss : List Stp} (hg : Good m ss) {r : Nat} {a : Str} (h : a ∈ menuS ss r) : sm m (hpF ss r a) = 1 ∧ ∀ i, 0 ≤ hpF ss r a i := by
  obtain ⟨ws, hw⟩ := menu_look h
  obtain ⟨s, hs, e1, e2, e3⟩ := look_mem hw
  have ok := hg.ok s hs
  have eg : gonW ss r a = s.2.2 := by unfold gonW; rw [hw, e3]; rfl
  refine ⟨?_, fun i => wtQ_nonneg _ _⟩
  unfold hpF
  rw [eg, ← ok.ln]
  exact wtQ_sum ok.ps
theorem Cst.bd (g1 : Good m1 s1) (ha : a ∈ menuS s1 x) (h : Cst m1 m2 s1 s2 c x y a v) (hc : ∀ x y, x < m1 → y < m2 → 0 ≤ c x y ∧ c x y ≤ 1) : U01 v := by
  obtain ⟨π, p, q, o, rfl⟩ := h
  refine ⟨o.nonneg fun x y hx hy => (hc x y hx hy).1, ?_⟩
  have h1 : cost m1 m2 c π ≤ sm m1 fun x => sm m2 fun y => π x y := sm_le fun x hx => sm_le fun y hy => by
    have := Rat.mul_le_mul_of_nonneg_right (hc x y hx hy).2 (o.nn x y hx hy)
    rw [Rat.one_mul] at this
    exact this
  have h2 : (sm m1 fun x => sm m2 fun y => π x y) = 1 := by
    rw [← (hp_sum g1 ha).1]
    exact sm_congr fun x hx => o.row x hx
  rw [h2] at h1
  exact h1
theorem Stp1.bd (g1 : Good m1 s1) (hf : U01 f) (h : Stp1 f m1 m2 s1 s2 c x y v) (hc : ∀ x y, x < m1 → y < m2 → 0 ≤ c x y ∧ c x y ≤ 1) : U01 v := by
  rcases h with ⟨_, rfl⟩ | ⟨e, g, h1, rfl⟩
  · exact u1
  · refine ⟨grt_nn _, grt_lt (by grind) fun b hb => ?_⟩
    obtain ⟨z, hz, rfl⟩ := List.mem_map.1 hb
    exact (u_mul hf ((h1 z hz).bd g1 hz hc)).2
end
section
variable {f : Rat} {m1 m2 : Nat} {s1 s2 : List Stp}
theorem Dep.bd (g1 : Good m1 s1) (hf : U01 f) : ∀ {k : Nat} {t : Nat → Nat → Rat}, Dep f m1 m2 s1 s2 k t → ∀ x y, x < m1 → y < m2 → U01 (t x y)
  | 0, t, h, x, y, hx, hy => by rw [h x y hx hy]; exact u0
  | k + 1, t, ⟨t', h', hs⟩, x, y, hx, hy => (hs x y hx hy).bd g1 hf fun x y hx hy => Dep.bd g1 hf h' x y hx hy
theorem Dep.up (g1 : Good m1 s1) (hf : U01 f) : ∀ {k : Nat} {t : Nat → Nat → Rat}, Dep f m1 m2 s1 s2 (k + 1) t → ∃ t', Dep f m1 m2 s1 s2 k t' ∧ (∀ x y, x < m1 → y < m2 → Stp1 f m1 m2 s1 s2 t' x y (t x y)) ∧ ∀ x y, x < m1 → y < m2 → t' x y ≤ t x y
  | 0, t, ⟨t', h', hs⟩ => ⟨t', h', hs, fun x y hx hy => by
      rw [h' x y hx hy]
      exact ((hs x y hx hy).bd g1 hf fun x y hx hy => by rw [h' x y hx hy]; exact u0).1⟩
  | k + 1, t, ⟨t', h', hs⟩ => by
    obtain ⟨t'', h2, hs2, le⟩ := Dep.up g1 hf h'
    exact ⟨t', h', hs, fun x y hx hy => (hs2 x y hx hy).mono hf.1 (hs x y hx hy) le⟩
theorem Dep.down (g1 : Good m1 s1) (hf : U01 f) {j : Nat} : ∀ {k : Nat} {t : Nat → Nat → Rat}, j ≤ k → Dep f m1 m2 s1 s2 k t → ∃ t', Dep f m1 m2 s1 s2 j t' ∧ ∀ x y, x < m1 → y < m2 → t' x y ≤ t x y
  | 0, t, hj, h => by
    obtain rfl : j = 0 := by omega
    exact ⟨t, h, fun _ _ _ _ => Rat.le_refl⟩
  | k + 1, t, hj, h => by
    by_cases e : j = k + 1
    · subst e
      exact ⟨t, h, fun _ _ _ _ => Rat.le_refl⟩
    · obtain ⟨t', h', _, le⟩ := h.up g1 hf
      obtain ⟨t'', h2, le2⟩ := Dep.down g1 hf (by omega : j ≤ k) h'
      exact ⟨t'', h2, fun x y hx hy => Rat.le_trans (le2 x y hx hy) (le x y hx hy)⟩
end
structure ApOk (f : Rat) (m1 m2 : Nat) (s1 s2 : List Stp) (N g : Nat) : Prop where
  g1 : Good m1 s1
  g2 : Good m2 s2
  f0 : 0 < f
  f1 : f < 1
  n0 : 0 < N
  h1 : ∀ s ∈ s1, s.2.2.sum ∣ N
  h2 : ∀ s ∈ s2, s.2.2.sum ∣ N
  ng : f.den * N ≤ 2 ^ g
  g6 : g ≤ 590
theorem Dv.sm {N n : Nat} (h : 0 < N) {f : Nat → Rat} (hf : ∀ x, x < n → Dv N (f x)) : Dv N (Far.sm n f) := Dv.sum h fun q hq => by
  obtain ⟨x, hx, rfl⟩ := List.mem_map.1 hq
  exact hf x (List.mem_range.1 hx)
def Mk (f : Rat) (N k : Nat) : Nat := (f.den * N) ^ k
section
variable {f : Rat} {m1 m2 N g : Nat} {s1 s2 : List Stp} (A : ApOk f m1 m2 s1 s2 N g)
include A
theorem ApOk.u : U01 f := ⟨Rat.le_of_lt A.f0, Rat.le_of_lt A.f1⟩
theorem ApOk.mk1 (k : Nat) : Mk f N k ≤ 2 ^ (g * k) := by
  unfold Mk
  rw [Nat.pow_mul]
  exact Nat.pow_le_pow_left A.ng k
end
structure Heap (S : Nat) (fs : List Rat) : Prop where
  l1 : 1 ≤ fs.length
  l2 : fs.length ≤ 12
  q : ∀ q ∈ fs, 0 ≤ q ∧ Bq 16 q ∧ q.den ∣ S
  s : fs.sum = 1
  s0 : 0 < S
  s1 : S ≤ 200
section
variable {n m : Nat} {c : Nat → Nat → Rat} {f g : Nat → Rat} {π : Nat → Nat → Rat} {p q : Nat → Rat}
theorem Plan.f0 (h : Plan n m f g π) : ∀ x, x < n → 0 ≤ f x := fun x hx => by
  rw [← h.row x hx]
  exact sm_nn fun y hy => h.nn x y hx hy
theorem Plan.g0 (h : Plan n m f g π) : ∀ y, y < m → 0 ≤ g y := fun y hy => by
  rw [← h.col y hy]
  exact sm_nn fun x hx => h.nn x y hx hy
theorem Plan.same (h : Plan n m f g π) : sm n f = sm m g := by
  rw [← sm_congr h.row, ← sm_congr h.col]
  exact sm_swap n m π
theorem brou_d (w : Nat → Rat) : brou n n f g w w = sm n fun x => w x * (f x - g x) := by
  unfold brou
  rw [← sm_sub]
  exact sm_congr fun x _ => by grind
theorem kant (n0 : 0 < n) (c0 : ∀ x, x < n → c x x ≤ 0) (tri : ∀ x y z, x < n → y < n → z < n → c x z ≤ c x y + c y z) (h : Opt n n c f g π p q) : ∃ w : Nat → Rat, (∀ x y, x < n → y < n → w x - w y ≤ c x y) ∧ cost n n c π = sm n fun x => w x * (f x - g x) := by
  have hr : ∀ y, ∃ r, (∀ x, x < n → p x - c x y ≤ r) ∧ ∃ x, x < n ∧ r = p x - c x y := fun y => max_ex n (fun x => p x - c x y) n0
  have hw : ∀ x y, x < n → y < n → (hr x).choose - (hr y).choose ≤ c x y := fun x y hx hy => by
    obtain ⟨a, ha, e⟩ := (hr x).choose_spec.2
    have h1 := (hr y).choose_spec.1 a ha
    have h2 := tri a x y ha hx hy
    grind
  refine ⟨fun y => (hr y).choose, hw, Rat.le_antisymm ?_ ?_⟩
  · rw [h.ceq, ← brou_d]
    unfold brou
    have h1 : sm n (fun x => p x * f x) ≤ sm n fun x => (hr x).choose * f x := sm_le fun x hx => by
      refine Rat.mul_le_mul_of_nonneg_right ?_ (h.plan.f0 x hx)
      have h1 := (hr x).choose_spec.1 x hx
      have h2 := c0 x hx
      grind
    have h2 : sm n (fun y => (hr y).choose * g y) ≤ sm n fun y => q y * g y := sm_le fun y hy => by
      refine Rat.mul_le_mul_of_nonneg_right ?_ (h.plan.g0 y hy)
      obtain ⟨a, ha, e⟩ := (hr y).choose_spec.2
      have h1 := h.le a y ha hy
      grind
    grind
  · rw [← brou_d]
    exact h.most hw
theorem atmost (h : Opt n n c f g π p q) {w : Nat → Rat} (hw : ∀ x y, x < n → y < n → w x - w y ≤ c x y) : sm n (fun x => w x * (f x - g x)) ≤ cost n n c π := by
  rw [← brou_d]
  exact h.most hw
theorem ones (n0 : 0 < n) (h : Opt n n c f g π p q) (hc : ∀ x y, x < n → y < n → c x y = if x = y then 0 else 1) : cost n n c π = sm n fun x => if 0 < f x - g x then f x - g x else 0 := by
  have hd : sm n (fun j => f j - g j) = 0 := by
    rw [sm_sub, h.plan.same]
    grind
  refine Rat.le_antisymm ?_ ?_
  · obtain ⟨w, hw, e⟩ := kant n0 (fun x hx => by rw [hc x x hx hx, if_pos rfl]; exact Rat.le_refl) (fun x y z hx hy hz => by
      rw [hc x z hx hz, hc x y hx hy, hc y z hy hz]
      by_cases h1 : x = z
      · rw [if_pos h1]
        split <;> split <;> grind
      · rw [if_neg h1]
        by_cases h2 : x = y
        · rw [if_pos h2, if_neg (by omega)]
          grind
        · rw [if_neg h2]
          split <;> grind) h
    obtain ⟨r, h1, a, ha, e2⟩ := max_ex n (fun x => - w x) n0
    have e3 : sm n (fun x => w x * (f x - g x)) = sm n fun x => (w x - w a) * (f x - g x) := by
      have e4 : sm n (fun x => (w x - w a) * (f x - g x)) = sm n (fun x => w x * (f x - g x)) - w a * sm n fun x => f x - g x := by
        rw [← sm_mul, ← sm_sub]
        exact sm_congr fun x _ => by grind
      rw [e4, hd]
      grind
    rw [e, e3]
    refine sm_le fun x hx => ?_
    have k1 : 0 ≤ w x - w a := by
      have := h1 x hx
      grind
    have k2 : w x - w a ≤ 1 := by
      have := hw x a hx ha
      rw [hc x a hx ha] at this
      split at this <;> grind
    split
    · rename_i hp
      have := Rat.mul_le_mul_of_nonneg_right (c := f x - g x) k2 (by grind)
      grind
    · rename_i hp
      have := Rat.mul_le_mul_of_nonneg_left (c := w x - w a) (a := f x - g x) (b := 0) (by grind) k1
      grind
  · refine Rat.le_trans ?_ (atmost h (w := fun x => if 0 < f x - g x then 1 else 0) fun x y hx hy => ?_)
    · refine sm_le fun x hx => ?_
      split <;> grind
    · rw [hc x y hx hy]
      by_cases e : x = y
      · subst e
        rw [if_pos rfl]
        grind
      · rw [if_neg e]
        split <;> split <;> grind
end
section
variable {n : Nat} {g : Nat → Nat → Rat}
theorem comp {d : Nat → Rat} (g0 : ∀ r j, r < n → j < n → 0 ≤ g r j) (g1 : ∀ r, r < n → sm n (g r) < 1) (h : ∀ r, r < n → d r ≤ sm n fun j => g r j * d j) : ∀ j, j < n → d j ≤ 0 := fun j hj => by
  obtain ⟨M, hM, a, ha, e⟩ := max_ex n d (by omega)
  refine Rat.le_trans (hM j hj) (Rat.not_lt.1 fun hp => ?_)
  have h1 := h a ha
  have h2 : sm n (fun j => g a j * d j) ≤ sm n fun j => M * g a j := sm_le fun j hj => by
    rw [Rat.mul_comm M]
    exact Rat.mul_le_mul_of_nonneg_left (hM j hj) (g0 a j ha hj)
  rw [sm_mul] at h2
  have h3 : M * sm n (g a) < M * 1 := Rat.mul_lt_mul_of_pos_left (g1 a ha) hp
  grind
end
section
variable {m1 m2 : Nat} {f : Rat}
structure Tot (m1 m2 : Nat) (π : Nat → Nat → Rat) : Prop where
  nn : ∀ u w, u < m1 → w < m2 → 0 ≤ π u w
  one : (sm m1 fun u => sm m2 fun w => π u w) = 1
theorem cost_le {x : Nat → Nat → Rat} {π : Nat → Nat → Rat} {M : Rat} (h : Tot m1 m2 π) (hx : ∀ u w, u < m1 → w < m2 → x u w ≤ M) : cost m1 m2 x π ≤ M := by
  have h1 : cost m1 m2 x π ≤ sm m1 fun u => sm m2 fun w => M * π u w := sm_le fun u hu => sm_le fun w hw => Rat.mul_le_mul_of_nonneg_right (hx u w hu hw) (h.nn u w hu hw)
  have h2 : (sm m1 fun u => sm m2 fun w => M * π u w) = M := by
    have e : (sm m1 fun u => sm m2 fun w => M * π u w) = sm m1 fun u => M * sm m2 (π u) := sm_congr fun u _ => sm_mul _ _ _
    rw [e, sm_mul]
    show M * (sm m1 fun u => sm m2 fun w => π u w) = M
    rw [h.one, Rat.mul_one]
  rwa [h2] at h1
theorem cost_sub (x z π : Nat → Nat → Rat) : cost m1 m2 (fun u w => x u w - z u w) π = cost m1 m2 x π - cost m1 m2 z π := by
  unfold cost
  rw [← sm_sub]
  refine sm_congr fun u _ => ?_
  rw [← sm_sub]
  exact sm_congr fun w _ => by grind
theorem cost_mono {x z π : Nat → Nat → Rat} (h : Tot m1 m2 π) (hx : ∀ u w, u < m1 → w < m2 → x u w ≤ z u w) : cost m1 m2 x π ≤ cost m1 m2 z π :=
  sm_le fun u hu => sm_le fun w hw => Rat.mul_le_mul_of_nonneg_right (hx u w hu hw) (h.nn u w hu hw)
theorem cost_cons (h : Tot m1 m2 π) (M : Rat) : cost m1 m2 (fun _ _ => M) π = M := by
  have e : cost m1 m2 (fun _ _ => M) π = sm m1 fun u => M * sm m2 (π u) := sm_congr fun u _ => sm_mul _ _ _
  rw [e, sm_mul]
  show M * (sm m1 fun u => sm m2 fun w => π u w) = M
  rw [h.one, Rat.mul_one]
theorem max2 (d : Nat → Nat → Rat) (h1 : 0 < m1) (h2 : 0 < m2) : ∃ a b, a < m1 ∧ b < m2 ∧ ∀ u w, u < m1 → w < m2 → d u w ≤ d a b := by
  have row : ∀ u, ∃ b, b < m2 ∧ ∀ w, w < m2 → d u w ≤ d u b := fun u => by
    obtain ⟨M, hM, b, hb, e⟩ := max_ex m2 (d u) h2
    exact ⟨b, hb, fun w hw => by rw [← e]; exact hM w hw⟩
  obtain ⟨M, hM, a, ha, e⟩ := max_ex m1 (fun u => d u (Classical.choose (row u))) h1
  refine ⟨a, _, ha, (Classical.choose_spec (row a)).1, fun u w hu hw => Rat.le_trans ((Classical.choose_spec (row u)).2 w hw) ?_⟩
  rw [← e]
  exact hM u hu
theorem comp2d {d : Nat → Nat → Rat} (f0 : 0 ≤ f) (f1 : f < 1) (h : ∀ u w, u < m1 → w < m2 → d u w ≤ 0 ∨ ∃ π, Tot m1 m2 π ∧ d u w ≤ f * cost m1 m2 d π) : ∀ u w, u < m1 → w < m2 → d u w ≤ 0 := fun u w hu hw => by
  obtain ⟨a, b, ha, hb, hm⟩ := max2 d (m1 := m1) (m2 := m2) (by omega) (by omega)
  refine Rat.le_trans (hm u w hu hw) ?_
  rcases h a b ha hb with h0 | ⟨π, hπ, hle⟩
  · exact h0
  · refine Rat.not_lt.1 fun hp => ?_
    have h1 := cost_le hπ hm
    have h2 : f * cost m1 m2 d π ≤ f * d a b := Rat.mul_le_mul_of_nonneg_left h1 f0
    have h3 : d a b * f < d a b * 1 := Rat.mul_lt_mul_of_pos_left f1 hp
    grind
theorem comp2p {x z : Nat → Nat → Rat} (f0 : 0 ≤ f) (f1 : f < 1) (h : ∀ u w, u < m1 → w < m2 → x u w ≤ z u w ∨ ∃ π, Tot m1 m2 π ∧ x u w - z u w ≤ f * (cost m1 m2 x π - cost m1 m2 z π)) : ∀ u w, u < m1 → w < m2 → x u w ≤ z u w := fun u w hu hw => by
  have := comp2d (d := fun u w => x u w - z u w) f0 f1 (fun u w hu hw => by
    rcases h u w hu hw with h | ⟨π, h1, h2⟩
    · left
      grind
    · right
      exact ⟨π, h1, by rw [cost_sub]; exact h2⟩) u w hu hw
  grind
end
section
variable {f : Rat} {m1 m2 : Nat} {s1 s2 : List Stp}
abbrev Pls := Nat → Nat → Str → Nat → Nat → Rat
def PlsOk (m1 m2 : Nat) (s1 s2 : List Stp) (π : Pls) : Prop := ∀ u w a, u < m1 → w < m2 → menuS s1 u = menuS s2 w → a ∈ menuS s1 u → Plan m1 m2 (hpF s1 u a) (hpF s2 w a) (π u w a)
def VEq (f : Rat) (m1 m2 : Nat) (s1 s2 : List Stp) (π : Pls) (ch : Nat → Nat → Str) (x : Nat → Nat → Rat) : Prop := ∀ u w, u < m1 → w < m2 →
  (menuS s1 u ≠ menuS s2 w ∧ x u w = 1) ∨ (menuS s1 u = menuS s2 w ∧ menuS s1 u = [] ∧ x u w = 0) ∨ (menuS s1 u = menuS s2 w ∧ ch u w ∈ menuS s1 u ∧ x u w = f * cost m1 m2 x (π u w (ch u w)))
def WEq (f : Rat) (m1 m2 : Nat) (s1 s2 : List Stp) (π : Pls) (x : Nat → Nat → Rat) : Prop := ∀ u w, u < m1 → w < m2 →
  (menuS s1 u ≠ menuS s2 w ∧ x u w = 1) ∨ (menuS s1 u = menuS s2 w ∧ x u w = grt ((menuS s1 u).map fun a => f * cost m1 m2 x (π u w a)))
def Fix (f : Rat) (m1 m2 : Nat) (s1 s2 : List Stp) (x : Nat → Nat → Rat) : Prop := ∀ u w, u < m1 → w < m2 → Stp1 f m1 m2 s1 s2 x u w (x u w)
theorem plan_tot (g1 : Good m1 s1) {u w : Nat} {a : Str} {π : Nat → Nat → Rat} (ha : a ∈ menuS s1 u) (h : Plan m1 m2 (hpF s1 u a) (hpF s2 w a) π) : Tot m1 m2 π := by
  refine ⟨h.nn, ?_⟩
  rw [← (hp_sum g1 ha).1]
  exact sm_congr fun u hu => h.row u hu
variable {π π' : Pls} {ch ch' : Nat → Nat → Str} {x x' : Nat → Nat → Rat}
theorem VEq.u (g1 : Good m1 s1) (f0 : 0 ≤ f) (f1 : f < 1) (hπ : PlsOk m1 m2 s1 s2 π) (h : VEq f m1 m2 s1 s2 π ch x) : ∀ u w, u < m1 → w < m2 → U01 (x u w) := fun u w hu hw => by
  constructor
  · refine comp2p (x := fun _ _ => 0) (z := x) f0 f1 (fun u w hu hw => ?_) u w hu hw
    rcases h u w hu hw with ⟨_, e⟩ | ⟨_, _, e⟩ | ⟨hm, hc, e⟩
    · left; rw [e]; decide
    · left; rw [e]; exact Rat.le_refl
    · right
      have ht := plan_tot g1 hc (hπ u w _ hu hw hm hc)
      refine ⟨_, ht, ?_⟩
      rw [cost_cons ht, e]
      grind
  · refine comp2p (x := x) (z := fun _ _ => 1) f0 f1 (fun u w hu hw => ?_) u w hu hw
    rcases h u w hu hw with ⟨_, e⟩ | ⟨_, _, e⟩ | ⟨hm, hc, e⟩
    · left; rw [e]; exact Rat.le_refl
    · left; rw [e]; decide
    · right
      have ht := plan_tot g1 hc (hπ u w _ hu hw hm hc)
      refine ⟨_, ht, ?_⟩
      rw [cost_cons ht, e]
      grind
theorem VEq.better (g1 : Good m1 s1) (f0 : 0 ≤ f) (f1 : f < 1) (hπ : PlsOk m1 m2 s1 s2 π) (h : VEq f m1 m2 s1 s2 π ch x) (h' : VEq f m1 m2 s1 s2 π ch' x') (hb : ∀ u w, u < m1 → w < m2 → ch' u w ∈ menuS s1 u → menuS s1 u = menuS s2 w → x u w ≤ f * cost m1 m2 x (π u w (ch' u w))) :
    (∀ u w, u < m1 → w < m2 → x u w ≤ x' u w) ∧ ∀ u w, u < m1 → w < m2 → ch' u w ∈ menuS s1 u → menuS s1 u = menuS s2 w → x u w < f * cost m1 m2 x (π u w (ch' u w)) → x u w < x' u w := by
  have le : ∀ u w, u < m1 → w < m2 → x u w ≤ x' u w := by
    refine comp2p f0 f1 fun u w hu hw => ?_
    rcases h' u w hu hw with ⟨n, e⟩ | ⟨_, _, e⟩ | ⟨hm, hc, e⟩
    · left
      rw [e]
      exact (h.u g1 f0 f1 hπ u w hu hw).2
    · left
      rename_i hm he
      rcases h u w hu hw with ⟨n, _⟩ | ⟨_, _, e2⟩ | ⟨_, hc, _⟩
      · exact absurd hm n
      · rw [e, e2]; exact Rat.le_refl
      · rw [he] at hc; cases hc
    · right
      refine ⟨_, plan_tot g1 hc (hπ u w _ hu hw hm hc), ?_⟩
      have := hb u w hu hw hc hm
      rw [e]
      grind
  refine ⟨le, fun u w hu hw hc hm hlt => ?_⟩
  rcases h' u w hu hw with ⟨n, _⟩ | ⟨_, he, _⟩ | ⟨_, _, e⟩
  · exact absurd hm n
  · rw [he] at hc; cases hc
  · rw [e]
    have ht := plan_tot g1 hc (hπ u w _ hu hw hm hc)
    have := Rat.mul_le_mul_of_nonneg_left (cost_mono ht le) f0
    grind
theorem VEq.done (h : VEq f m1 m2 s1 s2 π ch x) (hn : ∀ u w a, u < m1 → w < m2 → menuS s1 u = menuS s2 w → a ∈ menuS s1 u → f * cost m1 m2 x (π u w a) ≤ x u w) (h0 : ∀ u w, u < m1 → w < m2 → 0 ≤ x u w) : WEq f m1 m2 s1 s2 π x := fun u w hu hw => by
  rcases h u w hu hw with ⟨n, e⟩ | ⟨hm, he, e⟩ | ⟨hm, hc, e⟩
  · exact .inl ⟨n, e⟩
  · refine .inr ⟨hm, ?_⟩
    rw [he, e]
    rfl
  · refine .inr ⟨hm, Rat.le_antisymm ?_ ?_⟩
    · have h0 : f * cost m1 m2 x (π u w (ch u w)) ≤ grt ((menuS s1 u).map fun a => f * cost m1 m2 x (π u w a)) := grt_le (List.mem_map.2 ⟨_, hc, rfl⟩)
      rw [← e] at h0
      exact h0
    · refine grt_lt (h0 u w hu hw) fun b hb => ?_
      obtain ⟨a, ha, rfl⟩ := List.mem_map.1 hb
      exact hn u w a hu hw hm ha
theorem WEq.u (g1 : Good m1 s1) (f0 : 0 ≤ f) (f1 : f < 1) (hπ : PlsOk m1 m2 s1 s2 π) (h : WEq f m1 m2 s1 s2 π x) : ∀ u w, u < m1 → w < m2 → U01 (x u w) := fun u w hu hw => by
  constructor
  · rcases h u w hu hw with ⟨_, e⟩ | ⟨_, e⟩
    · rw [e]; decide
    · rw [e]; exact grt_nn _
  · refine comp2p (x := x) (z := fun _ _ => 1) f0 f1 (fun u w hu hw => ?_) u w hu hw
    rcases h u w hu hw with ⟨_, e⟩ | ⟨hm, e⟩
    · left; rw [e]; exact Rat.le_refl
    · rcases grt_or ((menuS s1 u).map fun a => f * cost m1 m2 x (π u w a)) with e2 | e2
      · left
        rw [e, e2]
        decide
      · right
        obtain ⟨a, ha, e3⟩ := List.mem_map.1 e2
        have ht := plan_tot g1 ha (hπ u w _ hu hw hm ha)
        refine ⟨_, ht, ?_⟩
        rw [cost_cons ht, e, ← e3]
        grind
theorem WEq.cheaper (g1 : Good m1 s1) (f0 : 0 ≤ f) (f1 : f < 1) (hπ' : PlsOk m1 m2 s1 s2 π') (h : WEq f m1 m2 s1 s2 π x) (h' : WEq f m1 m2 s1 s2 π' x') (hc : ∀ u w a, u < m1 → w < m2 → menuS s1 u = menuS s2 w → a ∈ menuS s1 u → cost m1 m2 x (π' u w a) ≤ cost m1 m2 x (π u w a)) : ∀ u w, u < m1 → w < m2 → x' u w ≤ x u w := by
  have x0 : ∀ u w, u < m1 → w < m2 → 0 ≤ x u w := fun u w hu hw => by
    rcases h u w hu hw with ⟨_, e⟩ | ⟨_, e⟩
    · rw [e]; decide
    · rw [e]; exact grt_nn _
  refine comp2p f0 f1 fun u w hu hw => ?_
  rcases h' u w hu hw with ⟨n, e⟩ | ⟨hm, e⟩
  · left
    rcases h u w hu hw with ⟨_, e2⟩ | ⟨hm, _⟩
    · rw [e, e2]; exact Rat.le_refl
    · exact absurd hm n
  · rcases grt_or ((menuS s1 u).map fun a => f * cost m1 m2 x' (π' u w a)) with e2 | e2
    · left
      rw [e, e2]
      exact x0 u w hu hw
    · right
      obtain ⟨a, ha, e3⟩ := List.mem_map.1 e2
      refine ⟨_, plan_tot g1 ha (hπ' u w _ hu hw hm ha), ?_⟩
      have h1 : f * cost m1 m2 x (π u w a) ≤ x u w := by
        rcases h u w hu hw with ⟨n, _⟩ | ⟨_, e4⟩
        · exact absurd hm n
        · rw [e4]
          exact grt_le (List.mem_map.2 ⟨a, ha, rfl⟩)
      have h2 := Rat.mul_le_mul_of_nonneg_left (hc u w a hu hw hm ha) f0
      rw [e, ← e3]
      grind
end
def c_check_fade (T : Cfg) : PC := fun ds P _ => ∃ f : Rat, ds = [shD f] ∧ Bq 700 f ∧ 0 < f ∧ f < 1 ∧ P .non
theorem len_check_fade {T : Cfg} : ∀ ds μ P XP, pu (c_check_fade T) ds μ P XP → ds.length = 1 := by
  rintro ds μ P XP ⟨rfl, Pf, Xf, ⟨f, rfl, _⟩, _⟩; rfl
def t_check_fade (T : Cfg) (E : XK) : TS := (tIfS (tOr (tNot (tB (tCB (rIsi T.K) (tCons (tVar 0) (tCons (tC (.ref (T.cls 0))) tNil))))) (tOr (tNot (tB (tCall (spOf T (pu (c_less T))) [] E0 (tCons (tMake (T.cls 0) (spOf T (ini 0 (c_Share___init__ T))) [.int 1] E0 (tCons (tC (.int 0)) tNil)) (tCons (tVar 0) tNil))))) (tNot (tB (tCall (spOf T (pu (c_less T))) [] E0 (tCons (tVar 0) (tCons (tMake (T.cls 0) (spOf T (ini 0 (c_Share___init__ T))) [.int 1] E0 (tCons (tC (.int 1)) tNil)) tNil))))))) tNevS tNext)
theorem pure_check_fade {T : Cfg} (hT : ShOk T) : ∀ E ds μ P XP, pu (c_check_fade T) ds μ P XP → SV T (t_check_fade T E) (fun cls dd _ H => E cls dd H) ⟨slots 1 ds, μ⟩ (fnK P XP) := Hd.o (by
 simp (disch :=
 with_unfolding_all
 exact by
  rintro E ds μ P XP ⟨rfl, Pf, Xf, ⟨f, rfl, hb, h0, h1, p⟩, hP, hX⟩
  unfold t_check_fade
  walk_at "pks"
  refine less_i (p := 0) (n := 1) ⟨by decide, by decide⟩ hb (by decide) ?_
  rw [decide_eq_true h0]
  walk_at "pks"
  refine less_i (q := 1) (m := 1) hb ⟨by decide, by decide⟩ (by decide) ?_
  rw [decide_eq_true h1]
  walk_at "pks"
  exact hP _ p
 ) only [↓hE])
end Far
namespace Pw
open PySem PySem.Spec PyProof.Rows L2
end Pw
namespace Far
open PySem PySem.Spec PyProof.Rows L2 Pw
theorem intsP : ∀ ws : List Nat, PyData.canLayAll0 ((ws.map fun w : Nat => (w : Int)).map PyData.int) = true ∧ PyData.depthAll ((ws.map fun w : Nat => (w : Int)).map PyData.int) = 0 := by
  intro ws
  induction ws with
  | nil => exact ⟨by simp [PyData.canLayAll0], by simp [PyData.depthAll]⟩
  | cons w ws ih =>
    rw [List.map_cons, List.map_cons]
    exact ⟨by rw [PyData.canLayAll0, ih.1]; simp [PyData.canLay0], by rw [PyData.depthAll, ih.2]; simp [PyData.depth]⟩
theorem stpsP {m : Nat} : ∀ {ss : List Stp}, (∀ s ∈ ss, Sok m s) → DPyL (ss.map stpD) (ss.map stpP) ∧ PyData.canLayAll0 (ss.map stpP) = true ∧ PyData.depthAll (ss.map stpP) ≤ 8 := by
  intro ss
  induction ss with
  | nil => intro _; exact ⟨.nil, by simp [PyData.canLayAll0], by simp [PyData.depthAll]⟩
  | cons s ss ih =>
    intro h
    obtain ⟨h1, h2, h3⟩ := ih fun y hy => h y (by simp [hy])
    have ok := h s (by simp)
    refine ⟨.cons (stp_dpy s) h1, ?_, ?_⟩
    · rw [List.map_cons, PyData.canLayAll0, h2]
      simp [stpP, PyData.canLay0, PyData.canLayAll0, nm_strOk ok.nm]
      simpa using (intsP s.2.2).1
    · rw [List.map_cons, PyData.depthAll]
      have := stp_depth s
      omega
theorem eqvL {β : Type} [DecidableEq β] {enc : β → PyData} (h : ∀ a b, PyData.eqv (enc a) (enc b) = decide (a = b)) : ∀ as bs : List β, PyData.eqv (.list (as.map enc)) (.list (bs.map enc)) = decide (as = bs)
  | [], [] => by simp [PyData.eqv, PyData.eqvAll]
  | [], q :: qs => by simp [PyData.eqv, PyData.eqvAll]
  | p :: ps, [] => by simp [PyData.eqv, PyData.eqvAll]
  | p :: ps, q :: qs => by
    show (PyData.eqv (enc p) (enc q) && PyData.eqv (.list (ps.map enc)) (.list (qs.map enc))) = _
    rw [h, eqvL h ps qs]
    by_cases h1 : p = q
    · by_cases h2 : ps = qs
      · simp [h1, h2]
      · simp [h1, h2]
    · simp [h1]
theorem eqvS (a b : Str) : PyData.eqv (.str a) (.str b) = decide (a = b) := by
  show (a == b) = _
  by_cases h : a = b <;> simp [h]
theorem strsP : ∀ {xs : List Str}, (∀ x ∈ xs, nmB x = true) → DPyL (xs.map D.str) (xs.map PyData.str) ∧ PyData.canLayAll0 (xs.map PyData.str) = true ∧ PyData.depthAll (xs.map PyData.str) = 0 := by
  intro xs
  induction xs with
  | nil => intro _; exact ⟨.nil, by simp [PyData.canLayAll0], by simp [PyData.depthAll]⟩
  | cons x xs ih =>
    intro h
    obtain ⟨h1, h2, h3⟩ := ih fun y hy => h y (by simp [hy])
    refine ⟨.cons (.str x) h1, ?_, ?_⟩
    · show (PyData.canLay0 (.str x) && PyData.canLayAll0 (xs.map PyData.str)) = true
      rw [h2, (pln_str (h x (by simp))).lay]
      rfl
    · rw [List.map_cons, PyData.depthAll, h3]
      simp [PyData.depth]
theorem ShOk.nl {T : Cfg} (h : ShOk T) : ShOk T.nl := ⟨h.cl, h.nt, h.nb, h.ic, h.kb, h.ko⟩
open PySem PySem.Spec PyProof.Rows L2 Pw Cg
open FM (Bq)
def c_check_depth (T : Cfg) : PC := fun ds P _ => ∃ (k m : Nat), ds = [.int (k : Int), .int (m : Int)] ∧ k ≤ m ∧ P .non
structure Tb (f : Rat) (m1 m2 N k : Nat) (t : Nat → Nat → Rat) : Prop where
  u : ∀ x y, x < m1 → y < m2 → U01 (t x y)
  d : ∀ x y, x < m1 → y < m2 → (t x y).den ∣ Mk f N k
theorem len_check_depth {T : Cfg} : ∀ ds μ P XP, pu (c_check_depth T) ds μ P XP → ds.length = 2 := by
  rintro ds μ P XP ⟨rfl, Pf, Xf, ⟨k, m, rfl, _⟩, _⟩; rfl
def t_check_depth (T : Cfg) (E : XK) : TS := (tIfS (tNot (tB (tCall (spOf T (pu (c_is_between T))) [] E0 (tCons (tVar 0) (tCons (tC (.int 0)) (tCons (tVar 1) tNil)))))) tNevS tNext)
theorem pure_check_depth {T : Cfg} (hT : ShOk T) : ∀ E ds μ P XP, pu (c_check_depth T) ds μ P XP → SV T (t_check_depth T E) (fun cls dd _ H => E cls dd H) ⟨slots 2 ds, μ⟩ (fnK P XP) := Hd.o (by
 simp (disch :=
 with_unfolding_all
 exact by
  rintro E ds μ P XP ⟨rfl, Pf, Xf, ⟨k, m, rfl, h, p⟩, hP, hX⟩
  unfold t_check_depth
  walk_at "pks"
  refine betwT (th_int hT _) ?_
  have e : betw (.int (k : Int)) 0 (m : Int) = true := by
    show (decide (0 ≤ (k : Int)) && decide ((k : Int) ≤ (m : Int))) = true
    rw [decide_eq_true (by omega), decide_eq_true (by omega)]
    rfl
  rw [e]
  walk_at "pks"
  exact hP _ p
 ) only [↓hE])
theorem Opt.congr {n m : Nat} {c c' : Nat → Nat → Rat} {f f' s s' : Nat → Rat} {π : Nat → Nat → Rat} {p q : Nat → Rat} (h : Opt n m c f s π p q) (hc : ∀ x y, x < n → y < m → c x y = c' x y) (hf : ∀ x, x < n → f x = f' x) (hs : ∀ y, y < m → s y = s' y) : Opt n m c' f' s' π p q where
  nn := h.nn
  row := fun x hx => by rw [h.row x hx, hf x hx]
  col := fun y hy => by rw [h.col y hy, hs y hy]
  le := fun x y hx hy => by rw [← hc x y hx hy]; exact h.le x y hx hy
  tight := fun x y hx hy hz => by rw [← hc x y hx hy]; exact h.tight x y hx hy hz
theorem heap_gon {m : Nat} {ss : List Stp} (hg : Good m ss) {r : Nat} {a : Str} (h : a ∈ menuS ss r) : heapD (lookS ss r a) = shL (heapQ (gonW ss r a)) ∧ (gonW ss r a).length = m ∧ 0 < (gonW ss r a).sum ∧ ∃ s ∈ ss, s.2.2 = gonW ss r a := by
  obtain ⟨s, hs, e1, e2⟩ := menu_iff.1 h
  have ok := hg.ok s hs
  have eg : gonW ss r a = s.2.2 := by rw [← e1, ← e2]; exact gon_mem hg.nd hs
  rw [look_gon h, eg]
  exact ⟨rfl, ok.ln, ok.ps, s, hs, rfl⟩
section
variable {α β : Type}
def alt (f : α → List α → Int) : List α → Int
  | [] => 0
  | x :: xs => f x xs - alt (fun y ys => f y (x :: ys)) xs
theorem alt_congr {f g : α → List α → Int} : ∀ {l : List α}, (∀ x ys, f x ys = g x ys) → alt f l = alt g l
  | [], _ => rfl
  | x :: xs, h => by
    rw [alt, alt, h x xs, alt_congr (f := fun y ys => f y (x :: ys)) (g := fun y ys => g y (x :: ys)) fun y ys => h y (x :: ys)]
theorem alt_zero : ∀ l : List α, alt (fun _ _ => 0) l = 0
  | [] => rfl
  | x :: xs => by rw [alt, alt_zero xs]; rfl
theorem alt_add (f g : α → List α → Int) : ∀ l : List α, alt (fun x ys => f x ys + g x ys) l = alt f l + alt g l := by
  intro l
  induction l generalizing f g with
  | nil => rfl
  | cons x xs ih => rw [alt, alt, alt, ih (fun y ys => f y (x :: ys)) fun y ys => g y (x :: ys)]; omega
theorem alt_neg (f : α → List α → Int) : ∀ l : List α, alt (fun x ys => - f x ys) l = - alt f l := by
  intro l
  induction l generalizing f with
  | nil => rfl
  | cons x xs ih => rw [alt, alt, ih fun y ys => f y (x :: ys)]; omega
theorem alt_sub (f g : α → List α → Int) (l : List α) : alt (fun x ys => f x ys - g x ys) l = alt f l - alt g l := by
  have h := alt_add f (fun x ys => - g x ys) l
  rw [alt_neg] at h
  rw [Int.sub_eq_add_neg, ← h]
  exact alt_congr fun x ys => Int.sub_eq_add_neg
theorem alt_mul (c : Int) (f : α → List α → Int) : ∀ l : List α, alt (fun x ys => c * f x ys) l = c * alt f l := by
  intro l
  induction l generalizing f with
  | nil => rw [alt, alt, Int.mul_zero]
  | cons x xs ih => rw [alt, alt, ih fun y ys => f y (x :: ys), Int.mul_sub]
theorem alt_anti (h : α → α → List α → Int) : ∀ l : List α, alt (fun x ys => alt (fun y zs => h x y zs) ys) l = - alt (fun x ys => alt (fun y zs => h y x zs) ys) l := by
  intro l
  induction l generalizing h with
  | nil => rfl
  | cons x xs ih =>
    have e1 : ∀ h : α → α → List α → Int, alt (fun y ys => alt (fun z zs => h y z zs) (x :: ys)) xs = alt (fun y ys => h y x ys) xs - alt (fun y ys => alt (fun z zs => h y z (x :: zs)) ys) xs := fun h => by
      rw [← alt_sub]
      exact alt_congr fun y ys => by rw [alt]
    rw [alt, alt, e1 h, e1 fun a b => h b a, ih fun a b zs => h a b (x :: zs)]
    omega
theorem alt_swap (h : α → List α → β → List β → Int) : ∀ (l : List α) (m : List β), alt (fun x xs => alt (fun y ys => h x xs y ys) m) l = alt (fun y ys => alt (fun x xs => h x xs y ys) l) m := by
  intro l
  induction l generalizing h with
  | nil => intro m; exact (alt_zero m).symm
  | cons x xs ih =>
    intro m
    rw [alt, ih (fun a as b bs => h a (x :: as) b bs), ← alt_sub]
    exact alt_congr fun y ys => by rw [alt]
end
section
variable {α β : Type} (A : α → β → Int)
def det : List β → List α → Int
  | [], [] => 1
  | [], _ :: _ => 0
  | c :: cs, rows => alt (fun r rest => A r c * det cs rest) rows
theorem det_cons (c : β) (cs : List β) (rows : List α) : det A (c :: cs) rows = alt (fun r rest => A r c * det A cs rest) rows := by rw [det]
theorem det_two (a b : β) (cs : List β) (rows : List α) : det A (a :: b :: cs) rows = alt (fun r ys => alt (fun s zs => A r a * A s b * det A cs zs) ys) rows := by
  rw [det_cons]
  refine alt_congr fun r ys => ?_
  rw [det_cons, ← alt_mul]
  exact alt_congr fun s zs => by rw [Int.mul_assoc]
theorem det_turn (a b : β) (cs : List β) (rows : List α) : det A (a :: b :: cs) rows = - det A (b :: a :: cs) rows := by
  rw [det_two, det_two, alt_anti]
  congr 1
  refine alt_congr fun r ys => alt_congr fun s zs => ?_
  rw [Int.mul_comm (A s a)]
theorem det_rep {j : β} : ∀ {cs : List β} (rows : List α), j ∈ cs → det A (j :: cs) rows = 0
  | c :: cs, rows, h => by
    by_cases e : j = c
    · subst e
      have := det_turn A j j cs rows
      omega
    · have hj : j ∈ cs := by
        rcases List.mem_cons.1 h with h | h
        · exact absurd h e
        · exact h
      rw [det_turn, det_cons]
      have e2 : alt (fun r rest => A r c * det A (j :: cs) rest) rows = alt (fun _ _ => 0) rows := alt_congr fun r rest => by rw [det_rep rest hj, Int.mul_zero]
      rw [e2, alt_zero]
      rfl
theorem det_row (r : α) : ∀ (cs : List β) (rows : List α), cs ≠ [] → det A cs (r :: rows) = alt (fun c rest => A r c * det A rest rows) cs
  | [], _, h => absurd rfl h
  | c :: cs, rows, _ => by
    rw [det_cons, alt, alt]
    refine congrArg (A r c * det A cs rows - ·) ?_
    by_cases e : cs = []
    · subst e
      have e1 : alt (fun s rest => A s c * det A [] (r :: rest)) rows = alt (fun _ _ => 0) rows := alt_congr fun s rest => by rw [det, Int.mul_zero]
      rw [e1, alt_zero]
      rfl
    · have e1 : alt (fun s rest => A s c * det A cs (r :: rest)) rows = alt (fun s rest => alt (fun c' cs' => A s c * (A r c' * det A cs' rest)) cs) rows := alt_congr fun s rest => by rw [det_row r cs rest e, alt_mul]
      rw [e1, alt_swap]
      refine alt_congr fun c' cs' => ?_
      rw [det_cons, ← alt_mul]
      exact alt_congr fun s rest => by rw [← Int.mul_assoc, ← Int.mul_assoc, Int.mul_comm (A s c)]
theorem det_rows (r s : α) : ∀ (cs : List β) (rows : List α), det A cs (r :: s :: rows) = - det A cs (s :: r :: rows)
  | [], _ => by rw [det, det]; rfl
  | [c], rows => by
    rw [det_row A r _ _ (by simp), det_row A s _ _ (by simp), alt, alt, alt, alt, det, det]
    simp
  | a :: b :: cs, rows => by
    have e1 : ∀ r s : α, det A (a :: b :: cs) (r :: s :: rows) = alt (fun c m => alt (fun c' m' => A r c * A s c' * det A m' rows) m) (a :: b :: cs) := fun r s => by
      rw [det_row A r _ _ (by simp)]
      have h : ∀ c m, A r c * det A m (s :: rows) = if m = [] then 0 else alt (fun c' m' => A r c * A s c' * det A m' rows) m := fun c m => by
        by_cases e : m = []
        · subst e
          rw [det, if_pos rfl, Int.mul_zero]
        · rw [if_neg e, det_row A s _ _ e, ← alt_mul]
          exact alt_congr fun c' m' => by rw [Int.mul_assoc]
      refine alt_congr fun c m => ?_
      rw [h c m]
      by_cases e : m = []
      · subst e
        rfl
      · rw [if_neg e]
    rw [e1, e1, alt_anti]
    congr 1
    exact alt_congr fun c m => alt_congr fun c' m' => by rw [Int.mul_comm (A s c)]
theorem det_repR {r : α} : ∀ {rows : List α} (cs : List β), r ∈ rows → det A cs (r :: rows) = 0
  | s :: rows, cs, h => by
    by_cases e : r = s
    · subst e
      have := det_rows A r r cs rows
      omega
    · have hr : r ∈ rows := by
        rcases List.mem_cons.1 h with h | h
        · exact absurd h e
        · exact h
      rw [det_rows]
      by_cases e2 : cs = []
      · subst e2
        rw [det]
        rfl
      · rw [det_row A s _ _ e2]
        have e3 : alt (fun c rest => A s c * det A rest (r :: rows)) cs = alt (fun _ _ => 0) cs := alt_congr fun c rest => by rw [det_repR rest hr, Int.mul_zero]
        rw [e3, alt_zero]
        rfl
end
section
variable {α β : Type}
theorem alt_congrM {f g : α → List α → Int} : ∀ {l : List α}, (∀ x ys, x ∈ l → f x ys = g x ys) → alt f l = alt g l
  | [], _ => rfl
  | x :: xs, h => by
    rw [alt, alt, h x xs (by simp), alt_congrM (f := fun y ys => f y (x :: ys)) (g := fun y ys => g y (x :: ys)) fun y ys hy => h y (x :: ys) (List.mem_cons_of_mem _ hy)]
def cl (r : α) (c : α → Int) : Int := c r
theorem cramer {cs : List (α → Int)} {P : List α} (a : α → Int) {r : α} (hr : r ∈ P) : det cl cs P * a r = alt (fun c cs' => c r * det cl (a :: cs') P) cs := by
  have h := det_repR cl (rows := P) (a :: cs) hr
  rw [det_row cl r _ _ (by simp), alt] at h
  have e : a r * det cl cs P = alt (fun c cs' => c r * det cl (a :: cs') P) cs := by
    have h2 : cl r a * det cl cs P - alt (fun c cs' => cl r c * det cl (a :: cs') P) cs = 0 := h
    have h3 : cl r a = a r := rfl
    rw [h3] at h2
    have h4 : alt (fun c cs' => cl r c * det cl (a :: cs') P) cs = alt (fun c cs' => c r * det cl (a :: cs') P) cs := rfl
    rw [h4] at h2
    omega
  rw [Int.mul_comm]
  exact e
theorem indep {cs : List (α → Int)} {P : List α} {w : List α → Int} (h : ∀ c ∈ cs, alt (fun r rest => c r * w rest) P = 0) (hD : det cl cs P ≠ 0) (a : α → Int) : alt (fun r rest => a r * w rest) P = 0 := by
  have e : det cl cs P * alt (fun r rest => a r * w rest) P = 0 := by
    rw [← alt_mul]
    have e1 : alt (fun r rest => det cl cs P * (a r * w rest)) P = alt (fun r rest => alt (fun c cs' => det cl (a :: cs') P * (c r * w rest)) cs) P := alt_congrM fun r rest hr => by
      rw [← Int.mul_assoc, cramer a hr, Int.mul_comm, ← alt_mul]
      exact alt_congr fun c cs' => by rw [Int.mul_comm (w rest), Int.mul_comm (c r), Int.mul_assoc]
    rw [e1, alt_swap]
    have e2 : alt (fun c cs' => alt (fun r rest => det cl (a :: cs') P * (c r * w rest)) P) cs = alt (fun _ _ => 0) cs := alt_congrM fun c cs' hc => by rw [alt_mul, h c hc, Int.mul_zero]
    rw [e2, alt_zero]
  rcases Int.mul_eq_zero.1 e with h | h
  · exact absurd h hD
  · exact h
theorem det_first (a : α → Int) (cs : List (α → Int)) (r : α) (P : List α) : det cl (a :: cs) (r :: P) = a r * det cl cs P - alt (fun s rest => a s * det cl cs (r :: rest)) P := by
  rw [det_cons, alt]
  rfl
theorem det_first2 (a : α → Int) (cs : List (α → Int)) (r s : α) (P : List α) : det cl (a :: cs) (r :: s :: P) = a r * det cl cs (s :: P) - a s * det cl cs (r :: P) + alt (fun q rest => a q * det cl cs (r :: s :: rest)) P := by
  rw [det_first, alt]
  omega
theorem step_below {cs : List (α → Int)} {P : List α} (hD : det cl cs P ≠ 0) (a t : α → Int) (u v : α) : det cl (t :: cs) (u :: P) * det cl (a :: cs) (v :: P) - det cl (t :: cs) (v :: P) * det cl (a :: cs) (u :: P) = det cl cs P * det cl (a :: t :: cs) (v :: u :: P) := by
  let w : List α → Int := fun rest => det cl (t :: cs) (v :: P) * det cl cs (u :: rest) - det cl (t :: cs) (u :: P) * det cl cs (v :: rest) - det cl cs P * det cl (t :: cs) (v :: u :: rest)
  have key : ∀ a : α → Int, det cl (t :: cs) (u :: P) * det cl (a :: cs) (v :: P) - det cl (t :: cs) (v :: P) * det cl (a :: cs) (u :: P) - det cl cs P * det cl (a :: t :: cs) (v :: u :: P) = alt (fun r rest => a r * w rest) P := fun a => by
    have e : alt (fun r rest => a r * w rest) P = det cl (t :: cs) (v :: P) * alt (fun r rest => a r * det cl cs (u :: rest)) P - det cl (t :: cs) (u :: P) * alt (fun r rest => a r * det cl cs (v :: rest)) P - det cl cs P * alt (fun r rest => a r * det cl (t :: cs) (v :: u :: rest)) P := by
      rw [← alt_mul, ← alt_mul, ← alt_mul, ← alt_sub, ← alt_sub]
      exact alt_congr fun r rest => by
        show a r * (_ - _ - _) = _
        grind
    rw [e, det_first a cs v P, det_first a cs u P, det_first2 a (t :: cs) v u P]
    grind
  have h0 : ∀ c ∈ cs, alt (fun r rest => c r * w rest) P = 0 := fun c hc => by
    rw [← key c, det_rep cl _ hc, det_rep cl _ hc, det_rep cl _ (List.mem_cons_of_mem _ hc)]
    grind
  have := key a
  rw [indep h0 hD a] at this
  omega
theorem step_above {c : α → Int} {cs : List (α → Int)} {P : List α} (hD : det cl (c :: cs) P ≠ 0) (a t : α → Int) (u : α) : det cl (t :: c :: cs) (u :: P) * det cl (a :: cs) P - det cl (t :: cs) P * det cl (a :: c :: cs) (u :: P) = det cl (c :: cs) P * det cl (t :: a :: cs) (u :: P) := by
  let w : List α → Int := fun rest => det cl (t :: c :: cs) (u :: P) * det cl cs rest + det cl (t :: cs) P * det cl (c :: cs) (u :: rest) - det cl (c :: cs) P * det cl (t :: cs) (u :: rest)
  have key : ∀ a : α → Int, det cl (t :: c :: cs) (u :: P) * det cl (a :: cs) P - det cl (t :: cs) P * det cl (a :: c :: cs) (u :: P) - det cl (c :: cs) P * det cl (t :: a :: cs) (u :: P) = alt (fun r rest => a r * w rest) P := fun a => by
    have e : alt (fun r rest => a r * w rest) P = det cl (t :: c :: cs) (u :: P) * alt (fun r rest => a r * det cl cs rest) P + det cl (t :: cs) P * alt (fun r rest => a r * det cl (c :: cs) (u :: rest)) P - det cl (c :: cs) P * alt (fun r rest => a r * det cl (t :: cs) (u :: rest)) P := by
      rw [← alt_mul, ← alt_mul, ← alt_mul, ← alt_add, ← alt_sub]
      exact alt_congr fun r rest => by
        show a r * (_ + _ - _) = _
        grind
    have e2 : det cl (a :: cs) P = alt (fun r rest => a r * det cl cs rest) P := det_cons cl a cs P
    rw [e, e2, det_turn cl t a, det_first a (c :: cs) u P, det_first a (t :: cs) u P]
    grind
  have h0 : ∀ d ∈ c :: cs, alt (fun r rest => d r * w rest) P = 0 := fun d hd => by
    rw [← key d]
    rcases List.mem_cons.1 hd with rfl | hd
    · rw [det_rep cl (j := d) (cs := d :: cs) _ (by simp)]
      grind
    · rw [det_rep cl _ hd, det_rep cl _ (List.mem_cons_of_mem _ hd), det_turn cl t d, det_rep cl _ (List.mem_cons_of_mem _ hd)]
      grind
  have := key a
  rw [indep h0 hD a] at this
  omega
end
section
variable (A : Nat → Nat → Int)
def cA (j : Nat) : Nat → Int := fun r => A r j
def colsT : Nat → List (Nat → Int)
  | 0 => []
  | t + 1 => cA A t :: colsT t
def colsR (i : Nat) (a : Nat → Int) : Nat → List (Nat → Int)
  | 0 => []
  | t + 1 => (if t = i then a else cA A t) :: colsR i a t
def colsD (i : Nat) : Nat → List (Nat → Int)
  | 0 => []
  | t + 1 => if t = i then colsT A t else cA A t :: colsD i t
def pre (σ : Nat → Nat) : Nat → List Nat
  | 0 => []
  | t + 1 => σ t :: pre σ t
theorem colsR_T {i : Nat} {a : Nat → Int} : ∀ {t : Nat}, t ≤ i → colsR A i a t = colsT A t
  | 0, _ => rfl
  | t + 1, h => by rw [colsR, colsT, if_neg (by omega), colsR_T (t := t) (by omega)]
theorem colsR_self {i : Nat} : ∀ (t : Nat), colsR A i (cA A i) t = colsT A t
  | 0 => rfl
  | t + 1 => by
    rw [colsR, colsT, colsR_self t]
    split
    · rename_i e
      rw [e]
    · rfl
theorem det_mulR {b : Nat → Int} {s : Int} {X Y : List (Nat → Int)} (h : ∀ rows : List Nat, det cl X rows = s * det cl Y rows) (rows : List Nat) : det cl (b :: X) rows = s * det cl (b :: Y) rows := by
  rw [det_cons, det_cons, ← alt_mul]
  exact alt_congr fun r rest => by rw [h]; grind
theorem det_front {i : Nat} : ∀ {t : Nat}, i < t → ∃ s : Int, s * s = 1 ∧ ∀ (a : Nat → Int) (rows : List Nat), det cl (colsR A i a t) rows = s * det cl (a :: colsD A i t) rows
  | t + 1, h => by
    by_cases e : t = i
    · refine ⟨1, rfl, fun a rows => ?_⟩
      rw [colsR, colsD, if_pos e, if_pos e, colsR_T A (by omega), Int.one_mul]
    · obtain ⟨s, h1, h2⟩ := det_front (i := i) (t := t) (by omega)
      refine ⟨-s, by grind, fun a rows => ?_⟩
      rw [colsR, colsD, if_neg e, if_neg e, det_mulR (h2 a), det_turn]
      grind
structure Bar (n : Nat) (σ : Nat → Nat) (t : Nat) (C : Nat → Nat → Int) (last : Int) : Prop where
  le : t ≤ n
  l : last = det cl (colsT A t) (pre σ t)
  l0 : last ≠ 0
  lo : ∀ i j, t ≤ i → i < n → C i j = det cl (cA A j :: colsT A t) (σ i :: pre σ t)
  up : ∀ i j, i < t → C i j = det cl (colsR A i (cA A j) t) (pre σ t)
theorem Bar.start {n : Nat} : Bar A n id 0 A 1 := ⟨Nat.zero_le _, rfl, by decide, fun i j _ _ => by
  show _ = A (id i) j * 1 - 0
  rw [Int.mul_one]
  exact (Int.sub_zero _).symm, fun i j h => by omega⟩
def sw (t k : Nat) {α : Type} (f : Nat → α) : Nat → α := fun i => if i = t then f k else if i = k then f t else f i
theorem pre_sw {σ : Nat → Nat} {a k : Nat} : ∀ {t : Nat}, t ≤ a → a ≤ k → pre (sw a k σ) t = pre σ t
  | 0, _, _ => rfl
  | t + 1, h1, h2 => by
    rw [pre, pre, pre_sw (t := t) (by omega) h2]
    congr 1
    unfold sw
    rw [if_neg (by omega), if_neg (by omega)]
theorem Bar.swap {n t k : Nat} {σ : Nat → Nat} {C : Nat → Nat → Int} {last : Int} (h : Bar A n σ t C last) (h1 : t ≤ k) (h2 : k < n) : Bar A n (sw t k σ) t (sw t k C) last := by
  refine ⟨h.le, ?_, h.l0, fun i j i1 i2 => ?_, fun i j hi => ?_⟩
  · rw [pre_sw (Nat.le_refl t) h1]; exact h.l
  · rw [pre_sw (Nat.le_refl t) h1]
    unfold sw
    by_cases e : i = t
    · rw [if_pos e, if_pos e]
      exact h.lo k j h1 h2
    · rw [if_neg e, if_neg e]
      by_cases e2 : i = k
      · rw [if_pos e2, if_pos e2]
        exact h.lo t j (Nat.le_refl t) (by omega)
      · rw [if_neg e2, if_neg e2]
        exact h.lo i j i1 i2
  · rw [pre_sw (Nat.le_refl t) h1]
    unfold sw
    rw [if_neg (by omega), if_neg (by omega)]
    exact h.up i j hi
theorem Bar.exact {n t : Nat} {σ : Nat → Nat} {C : Nat → Nat → Int} {last : Int} (h : Bar A n σ t C last) (ht : t < n) {i j : Nat} (hi : i < n) (hit : i ≠ t) :
    C t t * C i j - C i t * C t j = last * (if t < i then det cl (cA A j :: colsT A (t + 1)) (σ i :: pre σ (t + 1)) else det cl (colsR A i (cA A j) (t + 1)) (pre σ (t + 1))) := by
  have hl := h.l0
  rw [h.l] at hl
  by_cases e : t < i
  · rw [if_pos e, h.l, h.lo t t (Nat.le_refl t) ht, h.lo i j (by omega) hi, h.lo i t (by omega) hi, h.lo t j (Nat.le_refl t) ht]
    exact step_below hl (cA A j) (cA A t) (σ t) (σ i)
  · rw [if_neg e]
    obtain ⟨s, s1, s2⟩ := det_front A (i := i) (t := t) (by omega)
    have eT : ∀ rows, det cl (colsT A t) rows = s * det cl (cA A i :: colsD A i t) rows := fun rows => by
      rw [← colsR_self A (i := i) t]
      exact s2 _ rows
    have eD : det cl (cA A i :: colsD A i t) (pre σ t) ≠ 0 := fun z => hl (by rw [eT, z, Int.mul_zero])
    have key := step_above eD (cA A j) (cA A t) (σ t)
    rw [h.l, h.lo t t (Nat.le_refl t) ht, h.up i j (by omega), h.up i t (by omega), h.lo t j (Nat.le_refl t) ht, colsR, if_neg (by omega), s2, s2, eT, det_mulR eT, det_mulR eT, det_mulR (s2 (cA A j)), pre]
    grind
theorem Bar.step {n t : Nat} {σ : Nat → Nat} {C C' : Nat → Nat → Int} {last : Int} (h : Bar A n σ t C last) (ht : t < n) (hp : C t t ≠ 0) (e1 : ∀ j, C' t j = C t j) (e2 : ∀ i j, i < n → i ≠ t → C' i j = (C t t * C i j - C i t * C t j).fdiv last) : Bar A n σ (t + 1) C' (C t t) := by
  have q : ∀ i j, i < n → i ≠ t → C' i j = if t < i then det cl (cA A j :: colsT A (t + 1)) (σ i :: pre σ (t + 1)) else det cl (colsR A i (cA A j) (t + 1)) (pre σ (t + 1)) := fun i j hi hit => by
    rw [e2 i j hi hit, h.exact A ht hi hit, Int.mul_fdiv_cancel_left _ h.l0]
  refine ⟨ht, h.lo t t (Nat.le_refl t) ht, hp, fun i j i1 i2 => ?_, fun i j hi => ?_⟩
  · rw [q i j i2 (by omega), if_pos (by omega)]
  · by_cases e : i = t
    · subst e
      rw [e1, h.lo i j (Nat.le_refl i) ht, colsR, if_pos rfl, colsR_T A (Nat.le_refl i), pre]
    · rw [q i j (by omega) e, if_neg (by omega)]
end
def sI : Nat → (Nat → Int) → Int
  | 0, _ => 0
  | n + 1, f => sI n f + f n
theorem sI_congr {f g : Nat → Int} : ∀ {n : Nat}, (∀ i, i < n → f i = g i) → sI n f = sI n g
  | 0, _ => rfl
  | n + 1, h => by rw [sI, sI, sI_congr fun i hi => h i (by omega), h n (by omega)]
def Turn (g : List (Nat → Int) → Int) : Prop := ∀ (L : List (Nat → Int)) (a b : Nat → Int) (X : List (Nat → Int)), g (L ++ a :: b :: X) = - g (L ++ b :: a :: X)
theorem Turn.behind {g : List (Nat → Int) → Int} (h : Turn g) (b : Nat → Int) : Turn fun X => g (b :: X) := fun L a c X => h (b :: L) a c X
theorem turn_det : ∀ (L : List (Nat → Int)) (a b : Nat → Int) (X : List (Nat → Int)) (P : List Nat), det cl (L ++ a :: b :: X) P = - det cl (L ++ b :: a :: X) P
  | [], a, b, X, P => det_turn cl a b X P
  | c :: L, a, b, X, P => by
    rw [List.cons_append, List.cons_append, det_cons, det_cons, ← alt_neg]
    exact alt_congr fun r rest => by rw [turn_det L a b X rest, Int.mul_neg]
section
variable {A : Nat → Nat → Int}
theorem exp_T (a : Nat → Int) (r : Nat) : ∀ (t : Nat) (g : List (Nat → Int) → Int), Turn g → alt (fun c cs' => c r * g (a :: cs')) (colsT A t) = sI t fun i => A r i * g (colsR A i a t)
  | 0, g, _ => rfl
  | t + 1, g, h => by
    rw [colsT, alt, sI]
    have e1 : alt (fun c cs' => c r * g (a :: cA A t :: cs')) (colsT A t) = - alt (fun c cs' => c r * g (cA A t :: a :: cs')) (colsT A t) := by
      rw [← alt_neg]
      exact alt_congr fun c cs' => by
        have h2 : g (a :: cA A t :: cs') = - g (cA A t :: a :: cs') := h [] a (cA A t) cs'
        rw [h2, Int.mul_neg]
    rw [e1, exp_T a r t (fun X => g (cA A t :: X)) (h.behind _)]
    have e2 : (sI t fun i => A r i * g (colsR A i a (t + 1))) = sI t fun i => A r i * g (cA A t :: colsR A i a t) := sI_congr fun i hi => by rw [colsR, if_neg (by omega)]
    have e3 : g (colsR A t a (t + 1)) = g (a :: colsT A t) := by rw [colsR, if_pos rfl, colsR_T A (Nat.le_refl t)]
    rw [e2, e3]
    show A r t * _ - - _ = _
    omega
theorem mem_pre {σ : Nat → Nat} {i : Nat} : ∀ {t : Nat}, i < t → σ i ∈ pre σ t
  | t + 1, h => by
    rw [pre]
    by_cases e : i = t
    · rw [e]; simp
    · exact List.mem_cons_of_mem _ (mem_pre (by omega))
theorem Bar.by {n t : Nat} {σ : Nat → Nat} {C : Nat → Nat → Int} {last : Int} (h : Bar A n σ t C last) {i : Nat} (hi : i < t) (j : Nat) : last * A (σ i) j = sI t fun k => A (σ i) k * C k j := by
  rw [h.l]
  have e := cramer (cs := colsT A t) (P := pre σ t) (cA A j) (mem_pre (σ := σ) hi)
  rw [exp_T (cA A j) (σ i) t (fun X => det cl X (pre σ t)) fun L a b X => turn_det L a b X _] at e
  refine Eq.trans e (sI_congr fun k hk => ?_)
  rw [h.up k j hk]
theorem Bar.behind {n t : Nat} {σ : Nat → Nat} {C : Nat → Nat → Int} {last : Int} (h : Bar A n σ t C last) {i : Nat} (h1 : t ≤ i) (h2 : i < n) (j : Nat) : C i j = A (σ i) j * last - sI t fun k => A (σ i) k * C k j := by
  rw [h.lo i j h1 h2, det_row cl (σ i) _ _ (by simp), alt, h.l]
  have e := exp_T (A := A) (cA A j) (σ i) t (fun X => det cl X (pre σ t)) fun L a b X => turn_det L a b X _
  have e2 : alt (fun c rest => cl (σ i) c * det cl (cA A j :: rest) (pre σ t)) (colsT A t) = sI t fun k => A (σ i) k * C k j := Eq.trans e (sI_congr fun k hk => by rw [h.up k j hk])
  rw [e2]
  rfl
end
section
variable {n m n' m' : Nat} {c c' : Nat → Nat → Rat} {f s f' s' : Nat → Rat} {π π' : Nat → Nat → Rat} {p q p' q' : Nat → Rat}
def src (t i : Nat) : Nat := if i ≤ t then i else i - 1
theorem wider (n0 : 0 < n) (m0 : 0 < m) (h : Opt n m c f s π p q) (h' : Opt (n + 1) (m + 1) c' f' s' π' p' q') (e : ∀ x y, x < n → y < m → c' x y = c x y) (e0 : ∀ x y, x < n + 1 → y < m + 1 → ¬ (x < n ∧ y < m) → 0 ≤ c' x y) (f1 : ∀ x, x < n → f' x = f x) (f2 : f' n = 0) (s1 : ∀ y, y < m → s' y = s y) (s2 : s' m = 0) : cost (n + 1) (m + 1) c' π' = cost n m c π := by
  have bw : ∀ P Q : Nat → Rat, brou (n + 1) (m + 1) f' s' P Q = brou n m f s P Q := fun P Q => by
    unfold brou
    rw [sm_succ, sm_succ, f2, s2, Rat.mul_zero, Rat.mul_zero, Rat.add_zero, Rat.add_zero]
    congr 1
    · exact sm_congr fun x hx => by rw [f1 x hx]
    · exact sm_congr fun y hy => by rw [s1 y hy]
  refine Rat.le_antisymm ?_ ?_
  · rw [h'.ceq, bw]
    refine h.most fun x y hx hy => ?_
    have := h'.le x y (by omega) (by omega)
    rw [e x y hx hy] at this
    exact this
  · obtain ⟨R, hR, _⟩ := max_ex n p n0
    obtain ⟨R', hR', _⟩ := max_ex m (fun y => - q y) m0
    have key := h'.most (p' := fun x => if x < n then p x else if - R' ≤ R then - R' else R) (q' := fun y => if y < m then q y else R) fun x y hx hy => by
      show (if x < n then _ else _) - (if y < m then _ else _) ≤ _
      by_cases hx1 : x < n
      · rw [if_pos hx1]
        by_cases hy1 : y < m
        · rw [if_pos hy1, e x y hx1 hy1]
          exact h.le x y hx1 hy1
        · rw [if_neg hy1]
          have g1 := hR x hx1
          have g2 := e0 x y hx hy (fun z => hy1 z.2)
          grind
      · rw [if_neg hx1]
        have g2 := e0 x y hx hy (fun z => hx1 z.1)
        by_cases hy1 : y < m
        · rw [if_pos hy1]
          have g1 : - q y ≤ R' := hR' y hy1
          split <;> grind
        · rw [if_neg hy1]
          split <;> grind
    rw [h.ceq]
    refine Rat.le_trans ?_ key
    rw [bw]
    unfold brou
    have k1 : sm n (fun x => (if x < n then p x else if - R' ≤ R then - R' else R) * f x) = sm n fun x => p x * f x := sm_congr fun x hx => by rw [if_pos hx]
    have k2 : sm m (fun y => (if y < m then q y else R) * s y) = sm m fun y => q y * s y := sm_congr fun y hy => by rw [if_pos hy]
    rw [k1, k2]
    exact Rat.le_refl
end
section
variable {α : Type}
def tk (f : α → List α → Nat) : List α → Nat
  | [] => 0
  | x :: xs => f x xs + tk (fun y ys => f y (x :: ys)) xs
theorem alt_abs (f : α → List α → Int) : ∀ l : List α, (alt f l).natAbs ≤ tk (fun x ys => (f x ys).natAbs) l := by
  intro l
  induction l generalizing f with
  | nil => exact Nat.le_refl _
  | cons x xs ih =>
    rw [alt, tk]
    have h := ih fun y ys => f y (x :: ys)
    omega
theorem tk_mono {f g : α → List α → Nat} : ∀ {l : List α}, (∀ x ys, f x ys ≤ g x ys) → tk f l ≤ tk g l := by
  intro l
  induction l generalizing f g with
  | nil => intro _; exact Nat.le_refl _
  | cons x xs ih =>
    intro h
    rw [tk, tk]
    exact Nat.add_le_add (h x xs) (ih fun y ys => h y (x :: ys))
theorem tk_mul (c : Nat) (f : α → List α → Nat) : ∀ l : List α, tk (fun x ys => c * f x ys) l = c * tk f l := by
  intro l
  induction l generalizing f with
  | nil => rfl
  | cons x xs ih => rw [tk, tk, ih fun y ys => f y (x :: ys), Nat.mul_add]
theorem tk_congr {f g : α → List α → Nat} (h : ∀ x ys, f x ys = g x ys) (l : List α) : tk f l = tk g l := by
  rw [show f = g from funext fun x => funext fun ys => h x ys]
def pr (S : α → Nat) : List α → Nat
  | [] => 1
  | x :: xs => S x * pr S xs
theorem pr_mono {S R : α → Nat} (h : ∀ r, S r ≤ R r) : ∀ l : List α, pr S l ≤ pr R l
  | [] => Nat.le_refl _
  | x :: xs => Nat.mul_le_mul (h x) (pr_mono h xs)
theorem tk_pr (a S : α → Nat) : ∀ l : List α, tk (fun r rest => a r * pr S rest) l + pr S l ≤ pr (fun r => a r + S r) l := by
  intro l
  induction l with
  | nil => exact Nat.le_refl _
  | cons x xs ih =>
    rw [tk, pr, pr]
    have e : tk (fun y ys => a y * pr S (x :: ys)) xs = S x * tk (fun y ys => a y * pr S ys) xs := by
      rw [← tk_mul]
      exact tk_congr (fun y ys => by rw [pr, Nat.mul_left_comm]) xs
    rw [e]
    have h0 := pr_mono (S := S) (R := fun r => a r + S r) (fun r => Nat.le_add_left _ _) xs
    have h1 := Nat.mul_le_mul_left (a x) h0
    have h2 := Nat.mul_le_mul_left (S x) ih
    rw [Nat.mul_add] at h2
    rw [Nat.add_mul]
    omega
theorem pr_le {S : α → Nat} {B : Nat} : ∀ {l : List α}, (∀ r ∈ l, S r ≤ B) → pr S l ≤ B ^ l.length
  | [], _ => Nat.le_refl _
  | x :: xs, h => by
    rw [pr, List.length_cons, Nat.pow_succ, Nat.mul_comm]
    exact Nat.mul_le_mul (pr_le fun r hr => h r (List.mem_cons_of_mem _ hr)) (h x (by simp))
def rs (cs : List (α → Int)) (r : α) : Nat := (cs.map fun c => (c r).natAbs).sum
theorem det_le : ∀ (cs : List (α → Int)) (rows : List α), (det cl cs rows).natAbs ≤ pr (rs cs) rows
  | [], [] => Nat.le_refl _
  | [], _ :: _ => Nat.zero_le _
  | c :: cs, rows => by
    rw [det_cons]
    refine Nat.le_trans (alt_abs _ _) ?_
    refine Nat.le_trans (tk_mono (g := fun r rest => (c r).natAbs * pr (rs cs) rest) fun r rest => ?_) ?_
    · show (c r * det cl cs rest).natAbs ≤ _
      rw [Int.natAbs_mul]
      exact Nat.mul_le_mul_left _ (det_le cs rest)
    · refine Nat.le_trans (Nat.le_add_right _ _) (Nat.le_trans (tk_pr (fun r => (c r).natAbs) (rs cs) rows) (Nat.le_of_eq ?_))
      congr 1
end
section
variable {A : Nat → Nat → Int}
theorem rs_T (r : Nat) : ∀ t, rs (colsT A t) r = ((List.range t).map fun j => (A r j).natAbs).sum
  | 0 => rfl
  | t + 1 => by
    rw [List.range_succ, List.map_append, List.sum_append, ← rs_T r t]
    show (A r t).natAbs + rs (colsT A t) r = _
    simp [Nat.add_comm]
theorem rs_R (i r : Nat) (a : Nat → Int) : ∀ t, rs (colsR A i a t) r ≤ (if i < t then (a r).natAbs else 0) + rs (colsT A t) r
  | 0 => Nat.zero_le _
  | t + 1 => by
    have h := rs_R i r a t
    show ((if t = i then a else cA A t) r).natAbs + rs (colsR A i a t) r ≤ _ + ((A r t).natAbs + rs (colsT A t) r)
    by_cases e : t = i
    · rw [if_pos e, if_pos (by omega)]
      rw [if_neg (by omega)] at h
      omega
    · rw [if_neg e]
      show (A r t).natAbs + _ ≤ _
      by_cases e2 : i < t
      · rw [if_pos e2] at h
        rw [if_pos (by omega)]
        omega
      · rw [if_neg e2] at h
        rw [if_neg (by omega)]
        omega
theorem pre_len (σ : Nat → Nat) : ∀ t, (pre σ t).length = t
  | 0 => rfl
  | t + 1 => by rw [pre, List.length_cons, pre_len σ t]
theorem pre_memV {σ : Nat → Nat} {r : Nat} : ∀ {t}, r ∈ pre σ t → ∃ i, i < t ∧ σ i = r
  | t + 1, h => by
    rw [pre] at h
    rcases List.mem_cons.1 h with h | h
    · exact ⟨t, Nat.lt_succ_self t, h.symm⟩
    · obtain ⟨i, hi, e⟩ := pre_memV h
      exact ⟨i, by omega, e⟩
theorem sum_le_range {f : Nat → Nat} {t n : Nat} (h : t ≤ n) : ((List.range t).map f).sum ≤ ((List.range n).map f).sum := by
  obtain ⟨k, rfl⟩ : ∃ k, n = t + k := ⟨n - t, by omega⟩
  rw [List.range_add, List.map_append, List.sum_append]
  omega
theorem le_range_sum {f : Nat → Nat} {j n : Nat} (h : j < n) : f j ≤ ((List.range n).map f).sum := by
  have h1 := sum_le_range (f := f) (t := j + 1) (n := n) h
  rw [List.range_succ, List.map_append, List.sum_append] at h1
  simp at h1
  omega
theorem Bar.size {n t R : Nat} {σ : Nat → Nat} {C : Nat → Nat → Int} {last : Int} (h : Bar A n σ t C last) (hR : ∀ r, r < n → ((List.range (n + 1)).map fun j => (A r j).natAbs).sum ≤ R) (hσ : ∀ i, i < n → σ i < n) (R1 : 1 ≤ R) :
    last.natAbs ≤ (2 * R) ^ n ∧ ∀ i j, i < n → j ≤ n → (C i j).natAbs ≤ (2 * R) ^ n := by
  have hp : ∀ k, k ≤ n → (2 * R) ^ k ≤ (2 * R) ^ n := fun k hk => Nat.pow_le_pow_right (by omega) hk
  have le := h.le
  have hT : ∀ r, r < n → rs (colsT A t) r ≤ R := fun r hr => by
    rw [rs_T]
    exact Nat.le_trans (sum_le_range (by omega)) (hR r hr)
  have hj : ∀ r j, r < n → j ≤ n → (A r j).natAbs ≤ R := fun r j hr hj => Nat.le_trans (le_range_sum (f := fun j => (A r j).natAbs) (Nat.lt_succ_of_le hj)) (hR r hr)
  have mem : ∀ r ∈ pre σ t, r < n := fun r hr => by
    obtain ⟨i, hi, rfl⟩ := pre_memV hr
    exact hσ i (by omega)
  refine ⟨?_, fun i j hi hjn => ?_⟩
  · rw [h.l]
    refine Nat.le_trans (det_le _ _) (Nat.le_trans (pr_le (B := 2 * R) fun r hr => ?_) (by rw [pre_len]; exact hp t le))
    have := hT r (mem r hr)
    omega
  · by_cases e : i < t
    · rw [h.up i j e]
      refine Nat.le_trans (det_le _ _) (Nat.le_trans (pr_le (B := 2 * R) fun r hr => ?_) (by rw [pre_len]; exact hp t le))
      have h1 := hT r (mem r hr)
      have h2 := hj r j (mem r hr) hjn
      have h3 := rs_R (A := A) i r (cA A j) t
      rw [if_pos e] at h3
      have : (cA A j r).natAbs = (A r j).natAbs := rfl
      omega
    · rw [h.lo i j (by omega) hi]
      refine Nat.le_trans (det_le _ _) (Nat.le_trans (pr_le (B := 2 * R) fun r hr => ?_) (by rw [List.length_cons, pre_len]; exact hp (t + 1) (by omega)))
      have hrn : r < n := by
        rcases List.mem_cons.1 hr with rfl | hr
        · exact hσ i hi
        · exact mem r hr
      have h1 := hT r hrn
      have h2 := hj r j hrn hjn
      show (A r j).natAbs + rs (colsT A t) r ≤ _
      omega
end
end Far
namespace Pw
open PySem PySem.Spec PyProof.Rows L2
open Evl (Ex ex_l ex_t fresh_back)
end Pw
namespace Far
open PySem PySem.Spec PyProof.Rows L2 Pw Cg
open FM (Bq)
def prsV (m1 m2 : Nat) : List (Nat × Nat) := (List.range m1).flatMap fun x => (List.range m2).map fun y => (x, y)
theorem prsV_mem {m1 m2 : Nat} {p : Nat × Nat} : p ∈ prsV m1 m2 ↔ p.1 < m1 ∧ p.2 < m2 := by
  unfold prsV
  rw [List.mem_flatMap]
  constructor
  · rintro ⟨x, hx, h⟩
    obtain ⟨y, hy, rfl⟩ := List.mem_map.1 h
    exact ⟨List.mem_range.1 hx, List.mem_range.1 hy⟩
  · rintro ⟨h1, h2⟩
    exact ⟨p.1, List.mem_range.2 h1, List.mem_map.2 ⟨p.2, List.mem_range.2 h2, rfl⟩⟩
theorem prsV_succ (k m2 : Nat) : prsV (k + 1) m2 = prsV k m2 ++ (List.range m2).map fun y => (k, y) := by
  unfold prsV
  rw [List.range_succ, List.flatMap_append]
  simp
theorem prsV_len (k m2 : Nat) : (prsV k m2).length = k * m2 := by
  induction k with
  | zero => simp [prsV]
  | succ k ih =>
    rw [prsV_succ, List.length_append, ih, List.length_map, List.length_range, Nat.succ_mul]
def aks (m1 m2 : Nat) (s1 s2 : List Stp) : List (Nat × Nat × Str) := (prsV m1 m2).flatMap fun p => if menuS s1 p.1 = menuS s2 p.2 then (menuS s1 p.1).map fun a => (p.1, p.2, a) else []
theorem aks_mem {m1 m2 : Nat} {s1 s2 : List Stp} {z : Nat × Nat × Str} : z ∈ aks m1 m2 s1 s2 ↔ z.1 < m1 ∧ z.2.1 < m2 ∧ menuS s1 z.1 = menuS s2 z.2.1 ∧ z.2.2 ∈ menuS s1 z.1 := by
  unfold aks
  rw [List.mem_flatMap]
  constructor
  · rintro ⟨p, hp, h⟩
    obtain ⟨h1, h2⟩ := prsV_mem.1 hp
    by_cases e : menuS s1 p.1 = menuS s2 p.2
    · rw [if_pos e] at h
      obtain ⟨a, ha, rfl⟩ := List.mem_map.1 h
      exact ⟨h1, h2, e, ha⟩
    · rw [if_neg e] at h
      cases h
  · rintro ⟨h1, h2, e, ha⟩
    refine ⟨(z.1, z.2.1), prsV_mem.2 ⟨h1, h2⟩, ?_⟩
    rw [if_pos e]
    exact List.mem_map.2 ⟨z.2.2, ha, rfl⟩
open PySem PySem.Spec PyProof.Rows L2 Pw
section
variable {m1 m2 : Nat} {S : List (Nat × Nat)} {f : Rat} {v0 : Nat → Nat → Rat} {P : Nat → Nat → Nat → Rat}
def gS (S : List (Nat × Nat)) (j : Nat) : Nat × Nat := S.getD j (0, 0)
def ab (q : Rat) : Rat := if q < 0 then -q else q
end
def k3 (z : Nat × Nat × Str) : List Key := [.inl (z.1 : Int), .inl (z.2.1 : Int), .inr z.2.2]
def CsOk (m1 m2 : Nat) (s1 s2 : List Stp) (cs : List (Nat × Nat)) : Prop := cs.Nodup ∧ ∀ q, q ∈ cs ↔ q.1 < m1 ∧ q.2 < m2 ∧ menuS s1 q.1 = menuS s2 q.2 ∧ menuS s1 q.1 ≠ []
section
variable {m1 m2 N g : Nat} {s1 s2 : List Stp} {f : Rat} {π : Pls} {ch : Nat → Nat → Str} {S cs : List (Nat × Nat)}
def dn (k l : Nat) (q : Nat × Nat) : Prop := q.1 < k ∨ (q.1 = k ∧ q.2 < l)
instance (k l : Nat) (q : Nat × Nat) : Decidable (dn k l q) := by unfold dn; infer_instance
end
theorem nd_lenV : ∀ {l l' : List (Nat × Nat)}, l.Nodup → (∀ q ∈ l, q ∈ l') → l.length ≤ l'.length
  | [], _, _, _ => Nat.zero_le _
  | q :: l, l', nd, h => by
    obtain ⟨hn, nd⟩ := List.nodup_cons.1 nd
    have hq := h q (by simp)
    have := nd_lenV (l' := l'.erase q) nd fun r hr => (List.mem_erase_of_ne (fun e => hn (by rw [← e]; exact hr))).2 (h r (List.mem_cons_of_mem _ hr))
    rw [List.length_erase_of_mem hq] at this
    have := List.length_pos_of_mem hq
    rw [List.length_cons]
    omega
end Far
namespace Pw
open PySem PySem.Spec PyProof.Rows L2
end Pw
namespace Far
open PySem PySem.Spec PyProof.Rows L2 Pw Cg
open FM (Bq)
section
variable {m1 m2 N g : Nat} {s1 s2 : List Stp} {f : Rat} {π : Pls} {ch : Nat → Nat → Str} {cs : List (Nat × Nat)} {v : Nat → Nat → Rat}
def ranks (M B : Nat) : List Rat := (List.range (B + 1)).flatMap fun d => (List.range (M * d + 1)).map fun p : Nat => Rat.divInt (p : Int) (d : Int)
def above (M B : Nat) (q : Rat) : Nat := ((ranks M B).filter fun r => decide (q < r)).length
end
structure ChS (Z : List (Nat × Nat × Str)) (cs : List (Nat × Nat)) (ch : Nat → Nat → Str) : Prop where
  nd : cs.Nodup
  mem : ∀ q, q ∈ cs ↔ ∃ z ∈ Z, (z.1, z.2.1) = q
  sg : ∀ q ∈ cs, ∃ z ∈ Z, (z.1, z.2.1) = q ∧ z.2.2 = ch q.1 q.2
theorem ChS.nil {ch : Nat → Nat → Str} : ChS [] [] ch := ⟨List.nodup_nil, fun q => ⟨fun h => (by cases h), fun ⟨z, h, _⟩ => (by cases h)⟩, fun q h => (by cases h)⟩
theorem ChS.old {Z : List (Nat × Nat × Str)} {cs : List (Nat × Nat)} {ch : Nat → Nat → Str} {z : Nat × Nat × Str} (h : ChS Z cs ch) (hz : (z.1, z.2.1) ∈ cs) : ChS (Z ++ [z]) cs ch := by
  refine ⟨h.nd, fun q => ?_, fun q hq => ?_⟩
  · rw [h.mem]
    constructor
    · rintro ⟨y, hy, e⟩
      exact ⟨y, by simp [hy], e⟩
    · rintro ⟨y, hy, e⟩
      rcases List.mem_append.1 hy with hy | hy
      · exact ⟨y, hy, e⟩
      · obtain rfl := List.mem_singleton.1 hy
        rw [← e]
        exact (h.mem _).1 hz
  · obtain ⟨y, hy, e⟩ := h.sg q hq
    exact ⟨y, by simp [hy], e⟩
theorem ChS.new {Z : List (Nat × Nat × Str)} {cs : List (Nat × Nat)} {ch : Nat → Nat → Str} {z : Nat × Nat × Str} (h : ChS Z cs ch) (hz : (z.1, z.2.1) ∉ cs) : ChS (Z ++ [z]) (cs ++ [(z.1, z.2.1)]) (fun u w => if (u, w) = (z.1, z.2.1) then z.2.2 else ch u w) := by
  refine ⟨?_, fun q => ?_, fun q hq => ?_⟩
  · rw [List.nodup_append]
    exact ⟨h.nd, by simp, fun a ha b hb e => hz (by rw [List.mem_singleton.1 hb] at e; rw [← e]; exact ha)⟩
  · rw [List.mem_append, h.mem]
    constructor
    · rintro (⟨y, hy, e⟩ | hq)
      · exact ⟨y, by simp [hy], e⟩
      · exact ⟨z, by simp, (List.mem_singleton.1 hq).symm⟩
    · rintro ⟨y, hy, e⟩
      rcases List.mem_append.1 hy with hy | hy
      · exact .inl ⟨y, hy, e⟩
      · obtain rfl := List.mem_singleton.1 hy
        exact .inr (by rw [← e]; simp)
  · rcases List.mem_append.1 hq with hq | hq
    · obtain ⟨y, hy, e, e2⟩ := h.sg q hq
      refine ⟨y, by simp [hy], e, ?_⟩
      have : ¬ (q.1, q.2) = (z.1, z.2.1) := fun e => hz (by rw [← e]; exact hq)
      rw [if_neg this]
      exact e2
    · have e := List.mem_singleton.1 hq
      refine ⟨z, by simp, e.symm, ?_⟩
      rw [if_pos (show (q.1, q.2) = (z.1, z.2.1) from e)]
theorem ChS.le {m1 m2 : Nat} {s1 s2 : List Stp} {Z : List (Nat × Nat × Str)} {cs : List (Nat × Nat)} {ch : Nat → Nat → Str} (h : ChS Z cs ch) (hZ : ∀ z ∈ Z, z ∈ aks m1 m2 s1 s2) : cs.length ≤ m1 * m2 := by
  rw [← prsV_len]
  refine nd_lenV h.nd fun q hq => ?_
  obtain ⟨z, hz, rfl⟩ := (h.mem q).1 hq
  have := aks_mem.1 (hZ z hz)
  exact prsV_mem.2 ⟨this.1, this.2.1⟩
theorem ChS.ok {m1 m2 : Nat} {s1 s2 : List Stp} {cs : List (Nat × Nat)} {ch : Nat → Nat → Str} (h : ChS (aks m1 m2 s1 s2) cs ch) : CsOk m1 m2 s1 s2 cs ∧ ∀ q ∈ cs, ch q.1 q.2 ∈ menuS s1 q.1 := by
  refine ⟨⟨h.nd, fun q => ?_⟩, fun q hq => ?_⟩
  · rw [h.mem]
    constructor
    · rintro ⟨z, hz, rfl⟩
      obtain ⟨a, b, c, d⟩ := aks_mem.1 hz
      exact ⟨a, b, c, List.ne_nil_of_mem d⟩
    · rintro ⟨a, b, c, d⟩
      obtain ⟨x, hx⟩ := List.exists_mem_of_ne_nil _ d
      exact ⟨(q.1, q.2, x), aks_mem.2 ⟨a, b, c, hx⟩, rfl⟩
  · obtain ⟨z, hz, rfl, e⟩ := h.sg q hq
    dsimp only at e ⊢
    rw [← e]
    exact (aks_mem.1 hz).2.2.2
structure Bet (f : Rat) (m1 m2 : Nat) (π : Pls) (v : Nat → Nat → Rat) (Z : List (Nat × Nat × Str)) (Bs : List (Nat × Nat)) (nm : Nat → Nat → Rat) (sg : Nat → Nat → Str) : Prop where
  nd : Bs.Nodup
  ok : ∀ q ∈ Bs, ∃ z ∈ Z, (z.1, z.2.1) = q ∧ z.2.2 = sg q.1 q.2 ∧ nm q.1 q.2 = f * cost m1 m2 v (π z.1 z.2.1 z.2.2) ∧ v q.1 q.2 < nm q.1 q.2
  all : ∀ z ∈ Z, f * cost m1 m2 v (π z.1 z.2.1 z.2.2) ≤ if (z.1, z.2.1) ∈ Bs then nm z.1 z.2.1 else v z.1 z.2.1
def updF {α : Type} (F : Nat → Nat → α) (q : Nat × Nat) (x : α) (u w : Nat) : α := if (u, w) = q then x else F u w
theorem updF_same {α : Type} (F : Nat → Nat → α) (q : Nat × Nat) (x : α) : updF F q x q.1 q.2 = x := if_pos rfl
theorem updF_ne {α : Type} {F : Nat → Nat → α} {q r : Nat × Nat} {x : α} (h : r ≠ q) : updF F q x r.1 r.2 = F r.1 r.2 := if_neg h
section
variable {f : Rat} {m1 m2 : Nat} {π : Pls} {v : Nat → Nat → Rat} {Z : List (Nat × Nat × Str)} {Bs : List (Nat × Nat)} {nm : Nat → Nat → Rat} {sg : Nat → Nat → Str} {z : Nat × Nat × Str}
theorem Bet.nil : Bet f m1 m2 π v [] [] nm sg := ⟨List.nodup_nil, fun q h => (by cases h), fun z h => (by cases h)⟩
theorem Bet.keep (h : Bet f m1 m2 π v Z Bs nm sg) (hz : f * cost m1 m2 v (π z.1 z.2.1 z.2.2) ≤ if (z.1, z.2.1) ∈ Bs then nm z.1 z.2.1 else v z.1 z.2.1) : Bet f m1 m2 π v (Z ++ [z]) Bs nm sg := by
  refine ⟨h.nd, fun q hq => ?_, fun y hy => ?_⟩
  · obtain ⟨y, hy, e⟩ := h.ok q hq
    exact ⟨y, by simp [hy], e⟩
  · rcases List.mem_append.1 hy with hy | hy
    · exact h.all y hy
    · obtain rfl := List.mem_singleton.1 hy
      exact hz
theorem Bet.put (h : Bet f m1 m2 π v Z Bs nm sg) (hz : (if (z.1, z.2.1) ∈ Bs then nm z.1 z.2.1 else v z.1 z.2.1) < f * cost m1 m2 v (π z.1 z.2.1 z.2.2)) :
    Bet f m1 m2 π v (Z ++ [z]) (if (z.1, z.2.1) ∈ Bs then Bs else Bs ++ [(z.1, z.2.1)]) (updF nm (z.1, z.2.1) (f * cost m1 m2 v (π z.1 z.2.1 z.2.2))) (updF sg (z.1, z.2.1) z.2.2) := by
  have hv : v z.1 z.2.1 < f * cost m1 m2 v (π z.1 z.2.1 z.2.2) := by
    by_cases hm : (z.1, z.2.1) ∈ Bs
    · rw [if_pos hm] at hz
      obtain ⟨y, _, _, _, _, e⟩ := h.ok _ hm
      dsimp only at e
      grind
    · rwa [if_neg hm] at hz
  have mem : ∀ q, q ∈ (if (z.1, z.2.1) ∈ Bs then Bs else Bs ++ [(z.1, z.2.1)]) ↔ q ∈ Bs ∨ q = (z.1, z.2.1) := fun q => by
    by_cases hm : (z.1, z.2.1) ∈ Bs
    · rw [if_pos hm]
      exact ⟨.inl, fun e => e.elim id fun e => by rw [e]; exact hm⟩
    · rw [if_neg hm, List.mem_append, List.mem_singleton]
  refine ⟨?_, fun q hq => ?_, fun y hy => ?_⟩
  · by_cases hm : (z.1, z.2.1) ∈ Bs
    · rw [if_pos hm]; exact h.nd
    · rw [if_neg hm, List.nodup_append]
      exact ⟨h.nd, by simp, fun a ha b hb e => hm (by rw [List.mem_singleton.1 hb] at e; rw [← e]; exact ha)⟩
  · by_cases e : q = (z.1, z.2.1)
    · subst e
      refine ⟨z, by simp, rfl, ?_, ?_, ?_⟩
      · exact (updF_same sg (z.1, z.2.1) z.2.2).symm
      · exact updF_same nm (z.1, z.2.1) _
      · rw [updF_same nm (z.1, z.2.1)]
        exact hv
    · rcases (mem q).1 hq with hq | hq
      · obtain ⟨y, hy, e1, e2, e3, e4⟩ := h.ok q hq
        rw [updF_ne (F := nm) e, updF_ne (F := sg) e]
        exact ⟨y, by simp [hy], e1, e2, e3, e4⟩
      · exact absurd hq e
  · by_cases e : (y.1, y.2.1) = (z.1, z.2.1)
    · rw [if_pos ((mem _).2 (.inr e))]
      have e3 : updF nm (z.1, z.2.1) (f * cost m1 m2 v (π z.1 z.2.1 z.2.2)) y.1 y.2.1 = f * cost m1 m2 v (π z.1 z.2.1 z.2.2) := if_pos e
      rw [e3]
      rcases List.mem_append.1 hy with hy | hy
      · have h1 := h.all y hy
        rw [e] at h1
        have e1 : y.1 = z.1 := (Prod.mk.inj e).1
        have e2 : y.2.1 = z.2.1 := (Prod.mk.inj e).2
        rw [e1, e2] at h1 ⊢
        grind
      · obtain rfl := List.mem_singleton.1 hy
        exact Rat.le_refl
    · rcases List.mem_append.1 hy with hy | hy
      · have h1 := h.all y hy
        have e3 : updF nm (z.1, z.2.1) (f * cost m1 m2 v (π z.1 z.2.1 z.2.2)) y.1 y.2.1 = nm y.1 y.2.1 := if_neg e
        rw [e3]
        by_cases hm : (y.1, y.2.1) ∈ Bs
        · rw [if_pos hm] at h1
          rw [if_pos ((mem _).2 (.inl hm))]
          exact h1
        · rw [if_neg hm] at h1
          rw [if_neg fun z => ((mem _).1 z).elim hm e]
          exact h1
      · obtain rfl := List.mem_singleton.1 hy
        exact absurd rfl e
end
end Far
namespace Pw
open PySem PySem.Spec PyProof.Rows L2
end Pw
namespace Far
open PySem PySem.Spec PyProof.Rows L2 Pw Cg
open FM (Bq)
section
variable {m1 m2 N g : Nat} {s1 s2 : List Stp} {f : Rat} {π π' : Pls} {v v' : Nat → Nat → Rat} {Z : List (Nat × Nat × Str)}
def below (M B : Nat) (q : Rat) : Nat := ((ranks M B).filter fun r => decide (r < q)).length
end
end Far
namespace MxT
open PySem PySem.Spec PyProof.Rows L2
def tx (e : Int × Value) : Str := match e.2 with | .str x _ => x | _ => ""
section
variable {P : Program} {w : World}
def Te (P : Program) (w : World) (e : Int × Value) : Prop := ∃ x tk, e = ((strKind P w).hash x, Value.str x tk)
theorem Te.tx {e : Int × Value} (h : Te P w e) (x : Str) : (strKind P w).is x e.2 = true ↔ MxT.tx e = x := by
  obtain ⟨y, tk, rfl⟩ := h
  constructor
  · intro i
    obtain ⟨u, e⟩ := Value.isStrOf_shape (show Value.isStrOf x (Value.str y tk) = true from i)
    cases e
    rfl
  · rintro rfl
    exact strKind_is P w y tk
theorem te_el {l : List (Int × Value)} (h : ∀ e ∈ l, Te P w e) : ElemsOf (strKind P w) l := fun e he => by
  obtain ⟨x, tk, rfl⟩ := h e he
  exact ⟨⟨x, strKind_is P w x tk, rfl⟩, rfl⟩
structure St (P : Program) (w : World) (h : Heap) (a : Addr) (es : Array (Int × Value)) (ep : Nat) (t : SetTable) : Prop where
  obj : ∃ o, o.ExactSet ∧ o.data = .set es ep t ∧ h.get? a = some o
  te : ∀ e ∈ es.toList, Te P w e
  one : (es.toList.map tx).Nodup
  ris : Ris t.place.toList
  lead : w.params.followText "set-order" = true ∨ t.led = true
  fit : t.fits es.size = true
theorem St.keep {h h' : Heap} {a : Addr} {es : Array (Int × Value)} {ep : Nat} {t : SetTable} (S : St P w h a es ep t) (k : ∀ o, h.get? a = some o → h'.get? a = some o) : St P w h' a es ep t := by
  obtain ⟨o, h1, h2, h3⟩ := S.obj
  exact ⟨⟨o, h1, h2, k o h3⟩, S.te, S.one, S.ris, S.lead, S.fit⟩
end
section
variable {P : Program} {w : World} {A : Around} {E : Value → Shared → Prop} {s : Shared} {a : Addr} {es : Array (Int × Value)} {ep : Nat} {t : SetTable}
theorem laid {mark : Bool → Sem Unit} (quiet : ∀ (b : Bool) (y : Shared) (Z : Unit → Shared → Prop), Z () y → wpAny (model P w) A (mark b) Z E y) {o : Obj} (ob : s.heap.get? a = some o) (ex : o.ExactSet) (dt : o.data = .set es ep t)
    {es1 : Array (Int × Value)} {t1 : SetTable} (te1 : ∀ e ∈ es1.toList, Te P w e) (one1 : (es1.toList.map tx).Nodup) (few : es1.size < scanBound) (fit1 : t1.fits es1.size = true) (ris1 : Ris t1.place.toList) (lead1 : w.params.followText "set-order" = true ∨ t1.led = true) {dum : Bool} {Z : Option Bool → Shared → Prop}
    (hZ : ∀ h' es' ep' t', Heap.SameBut a s.heap h' → St P w h' a es' ep' t' → es'.toList.Perm es1.toList → Z (some true) { s with heap := h' }) :
    wpAny (model P w) A (do
        storeSet a es1 t1
        if (!dum && t1.tooFull) = true then do
            mark (relayAll t1 es1 (SetTable.grown es1.size)).2.2
            storeSet a (relayAll t1 es1 (SetTable.grown es1.size)).1 (relayAll t1 es1 (SetTable.grown es1.size)).2.1
            pure (some true)
          else pure (some true)) Z E s := by
  refine wpAny_bind (wpAny_storeSet_of ob dt ?_ (fits_of_scanBound few))
  have ob1 := store_at (es' := es1) (t' := t1) ob dt
  have one_ := Heap.SameBut.update s.heap a (Obj.putSet es1 t1)
  by_cases full : (!dum && t1.tooFull) = true
  · refine L2.wp_if_pos full ?_
    have q1 := relayAll_perm t1 es1 (SetTable.grown es1.size)
    have q2 := relayAll_fits t1 es1 (SetTable.grown es1.size)
    have q3 := relayAll_ris t1 es1 (SetTable.grown es1.size)
    have q4 := relayAll_led t1 es1 (SetTable.grown es1.size)
    generalize relayAll t1 es1 (SetTable.grown es1.size) = Y at q1 q2 q3 q4 ⊢
    obtain ⟨es2, t2, gone⟩ := Y
    dsimp only at q1 q2 q3 q4 ⊢
    have sz : es2.size = es1.size := by rw [← Array.length_toList, q1.length_eq, Array.length_toList]
    refine wpAny_bind (quiet _ _ _ (wpAny_bind (wpAny_storeSet_of ob1 rfl ?_ (fits_of_scanBound (by rw [sz]; exact few)))))
    refine wpAny_pure (hZ _ es2 _ t2 (one_.trans (Heap.SameBut.update _ a _)) ⟨⟨_, ?_, rfl, store_at (es' := es2) (t' := t2) ob1 rfl⟩, fun e he => te1 e (q1.mem_iff.mp he), (q1.map tx).nodup_iff.mpr one1, q3, lead1.imp id fun z => q4.trans z, q2⟩ q1)
    exact ⟨ex.1, ex.2.1, ex.2.2⟩
  · refine L2.wp_if_neg full ?_
    exact wpAny_pure (hZ _ es1 _ t1 one_ ⟨⟨{ o with data := .set es1 (ep + 1) t1 }, ⟨ex.1, ex.2.1, ex.2.2⟩, rfl, ob1⟩, te1, one1, ris1, lead1, fit1⟩ (.refl _))
theorem more (S : St P w s.heap a es ep t) (few : es.size + 1 < scanBound) {x : Str} {tk : Tok} {Z : Bool → Shared → Prop}
    (hZ : ∀ b h' es' ep' t', Heap.SameBut a s.heap h' → St P w h' a es' ep' t' → (x ∈ es.toList.map tx → es' = es) → (x ∉ es.toList.map tx → (es'.toList.map tx).Perm (x :: es.toList.map tx)) → Z b { s with heap := h' }) :
    wpAny (model P w) A (setAddHashed a (.str x tk) ((strKind P w).hash x)) Z E s := by
  obtain ⟨o, ex, dt, ob⟩ := S.obj
  have el := te_el S.te
  have few0 : es.size < scanBound := Nat.lt_of_succ_lt few
  have is0 : (strKind P w).is x (.str x tk) = true := strKind_is P w x tk
  have sc : (Value.str x tk).scannable = true := rfl
  unfold setAddHashed setAddHashedIn
  refine wpAny_holding (wpAny_bind (wpAny_setState_of ob dt S.fit ?_))
  dsimp only
  refine L2.wp_if_pos (byScan_of sc few0 el) ?_
  unfold setAddByScan
  refine wpAny_bind (wpAny_bind (wpAny_rule (wpAny_bind (wpAny_setScan_of is0 ob dt S.fit el ?_))))
  cases look : List.findIdx? (fun e => (strKind P w).is x e.2) es.toList with
  | some j =>
    dsimp only
    obtain ⟨lt, at_, _⟩ := List.findIdx?_eq_some_iff_getElem.mp look
    have mem : x ∈ es.toList.map tx := List.mem_map.2 ⟨_, List.getElem_mem lt, ((S.te _ (List.getElem_mem lt)).tx x).1 at_⟩
    exact wpAny_pure (wpAny_pure (hZ _ s.heap es ep t (Heap.SameBut.refl a s.heap) S (fun _ => rfl) fun n => absurd mem n))
  | none =>
    dsimp only
    have new : x ∉ es.toList.map tx := fun mem => by
      obtain ⟨e, he, q⟩ := List.mem_map.1 mem
      have := List.findIdx?_eq_none_iff.mp look e he
      rw [((S.te e he).tx x).2 q] at this
      cases this
    have quiet : ∀ (b : Bool) {y : Shared} {Z' : Unit → Shared → Prop}, Z' () y → wpAny (model P w) A (match b with | true => rule "set.scan.the-table-gave-way" | false => pure ()) Z' E y := fun b y Z' q => by
      cases b
      · exact wpAny_pure q
      · exact wpAny_rule q
    have q1 := layNew_perm t es ((strKind P w).hash x) (.str x tk)
    have q2 := layNew_fits t es ((strKind P w).hash x) (.str x tk)
    have q3 := layNew_ris t es ((strKind P w).hash x) (.str x tk) S.ris
    have q4 := layNew_led t es ((strKind P w).hash x) (.str x tk)
    generalize layNew t es ((strKind P w).hash x) (.str x tk) = Y at q1 q2 q3 q4 ⊢
    obtain ⟨es1, t1, dum, gone⟩ := Y
    dsimp only at q1 q2 q3 q4 ⊢
    rw [Array.toList_push] at q1
    have pm : es1.toList.Perm (((strKind P w).hash x, Value.str x tk) :: es.toList) := q1.trans (List.perm_append_singleton _ _)
    have pt : (es1.toList.map tx).Perm (x :: es.toList.map tx) := pm.map tx
    have te1 : ∀ e ∈ es1.toList, Te P w e := fun e he => by
      rcases List.mem_cons.mp (pm.mem_iff.mp he) with rfl | z
      · exact ⟨x, tk, rfl⟩
      · exact S.te e z
    have one1 : (es1.toList.map tx).Nodup := pt.nodup_iff.mpr (List.nodup_cons.mpr ⟨new, S.one⟩)
    have sz : es1.size = es.size + 1 := by rw [← Array.length_toList, pm.length_eq, List.length_cons, Array.length_toList]
    have few1 : es1.size < scanBound := by rw [sz]; exact few
    have lead1 : w.params.followText "set-order" = true ∨ t1.led = true := S.lead.imp id fun z => q4.trans z
    have fin : ∀ h' es' ep' t', Heap.SameBut a s.heap h' → St P w h' a es' ep' t' → es'.toList.Perm es1.toList → Z true { s with heap := h' } := fun h' es' ep' t' sb S' p => hZ true h' es' ep' t' sb S' (fun m => absurd m new) fun _ => (p.map tx).trans pt
    refine wpAny_bind (quiet _ ?_)
    split
    · refine wpAny_bind ?_
      rw [hashByValue_scannable 8 sc]
      refine wpAny_pure ?_
      refine laid (fun b y Z' q => ?_) ob ex dt te1 one1 few1 ?_ ?_ ?_ (fun h' es' ep' t' sb S' p => ?_)
      · cases b
        · exact wpAny_pure q
        · exact wpAny_rule q
      · first | exact q2 | (split <;> first | exact q2 | exact SetTable.fits_plain_off q2)
      · first | exact q3 | (split <;> exact q3)
      · first | exact lead1 | (split <;> exact lead1)
      · dsimp only
        exact wpAny_pure (fin h' es' ep' t' sb S' p)
    · refine wpAny_bind (wpAny_pure ?_)
      simp only [↓reduceIte]
      refine laid (fun b y Z' q => ?_) ob ex dt te1 one1 few1 q2 q3 lead1 (fun h' es' ep' t' sb S' p => ?_)
      · cases b
        · exact wpAny_pure q
        · exact wpAny_rule q
      · dsimp only
        exact wpAny_pure (fin h' es' ep' t' sb S' p)
end
structure In (xs : List Str) (i : Nat) (l : List Str) : Prop where
  has : ∀ k, k ∈ l ↔ k ∈ xs.take i
  le : l.length ≤ i
theorem taken {A : Around} {P : Program} {w : World} {I : Addr} {fp wr : List Addr} {G : Array GenState → Array GenState → Prop} {n : Nat} {Pv : Nat → Value → Prop} {Sx : Nat → Shared → Prop} {Rs : Result → Shared → Prop} (W : WalksS P w A.in1 I fp wr G n Pv Sx) (S : Addr) (notIn : S ∉ fp) (xs : List Str) (len : n = xs.length) (few : xs.length < 4000)
    (val : ∀ i v, Pv i v → ∃ x tk, xs[i]? = some x ∧ v = .str x tk) (h0 : Heap) (fresh : h0.get? S = none) (wfresh : ∀ b ∈ wr, h0.get? b = none) : ∀ (m i : Nat) (s : Shared), i + m = n → Sx i s → (∀ b o, h0.get? b = some o → s.heap.get? b = some o) →
      (∃ es ep t, St P w s.heap S es ep t ∧ In xs i (es.toList.map tx)) → (∀ s' es ep t, Moved (S :: wr) G s s' → St P w s'.heap S es ep t → In xs n (es.toList.map tx) → (∀ b o, h0.get? b = some o → s'.heap.get? b = some o) → Rs (.ok (.ret .none)) s') → codeAny (model P w) A (.builtin "set.update.loop" ⟨[.ref S, .ref I], []⟩) Rs s := by
  have sw : S ∉ wr := fun h => notIn (W.sub _ h)
  have up : ∀ b ∈ wr, b ∈ S :: wr := fun b hb => List.mem_cons_of_mem _ hb
  have stays : ∀ {y y' : Shared}, Moved wr G y y' → (∀ b o, h0.get? b = some o → y.heap.get? b = some o) → ∀ b o, h0.get? b = some o → y'.heap.get? b = some o := fun mv kp b o e =>
    mv.heap b o (fun hb => by rw [wfresh b hb] at e; cases e) (kp b o e)
  intro m
  induction m with
  | zero =>
    intro i s im st kp ⟨es, ep, t, R, g⟩ done
    obtain rfl : i = n := by omega
    refine codeAny_builtin F.entry_set_update_loop ?_
    rw [Around.under_plainId F.plain_set_update_loop _]
    show wpAny _ A.in1 (pyNext (.ref I) >>= _) _ _ s
    refine wpAny_bind (W.done s _ _ st fun s' mv => ?_)
    exact wpAny_pure (done s' es ep t (mv.mono up) (R.keep fun o e => mv.heap S o sw e) g (stays mv kp))
  | succ m ih =>
    intro i s im st kp ⟨es, ep, t, R, g⟩ done
    have lt : i < n := by omega
    refine codeAny_builtin F.entry_set_update_loop ?_
    rw [Around.under_plainId F.plain_set_update_loop _]
    show wpAny _ A.in1 (pyNext (.ref I) >>= _) _ _ s
    refine wpAny_bind (W.item i s _ _ lt st fun v s' pv st' mv => ?_)
    obtain ⟨x, tk, hp, rfl⟩ := val i v pv
    have kp' := stays mv kp
    have R' : St P w s'.heap S es ep t := R.keep fun o e => mv.heap S o sw e
    show wpAny _ A.in1 (holding [Value.str x tk] (setAdd S (.str x tk)) >>= _) _ _ s'
    refine wpAny_bind (wpAny_holding ?_)
    unfold setAdd
    refine wpAny_holding (wpAny_bind ((strKind P w).pyHash (strKind_is P w x tk) ?_))
    have sz : es.size ≤ i := by
      have := g.le
      rwa [List.length_map, Array.length_toList] at this
    refine more (s := { s' with toks := s'.toks + 1 }) R' (by unfold scanBound; omega) fun b h' es' ep' t' sb R2 c1 c2 => ?_
    have tk' : xs.take (i + 1) = xs.take i ++ [x] := by rw [List.take_succ, hp]; rfl
    have g' : In xs (i + 1) (es'.toList.map tx) := by
      by_cases c : x ∈ es.toList.map tx
      · rw [c1 c]
        refine ⟨fun k => ?_, by have := g.le; omega⟩
        rw [tk', List.mem_append, ← g.has k]
        constructor
        · exact .inl
        · rintro (z | z)
          · exact z
          · rw [List.mem_singleton.1 z]; exact c
      · have pm := c2 c
        refine ⟨fun k => ?_, ?_⟩
        · rw [pm.mem_iff, List.mem_cons, tk', List.mem_append, ← g.has k, List.mem_singleton]
          exact Or.comm
        · rw [pm.length_eq, List.length_cons]
          have := g.le
          omega
    have kp2 : ∀ b o, h0.get? b = some o → h'.get? b = some o := fun b o e => (sb.2 b (fun z => by rw [z, fresh] at e; cases e)).trans (kp' b o e)
    refine wpAny_pure ⟨plainId_quiet F.plain_set_update_loop _, ih (i + 1) _ (by omega) (W.frame _ s' _ _ st' (Nat.le_add_right _ _) fun b hb o e => ?_) kp2 ⟨es', ep', t', R2, g'⟩ fun s'' es2 ep2 t2 mv2 R3 g3 kp3 => ?_⟩
    · rw [sb.2 b (fun z : b = S => notIn (z ▸ hb))]; exact e
    · refine done s'' es2 ep2 t2 (Moved.trans W.gtrans ((mv.mono up).then_heap (Nat.le_add_right _ _) fun b o hb e => ?_) mv2) R3 g3 kp3
      rw [sb.2 b (fun z : b = S => hb (by rw [z]; exact List.mem_cons_self))]; exact e
theorem st_new {P : Program} {w : World} {h : Heap} {a : Addr} (ob : h.get? a = some (MxS.nu w)) : St P w h a #[] 0 (.fresh 0 0 (!w.params.followText "set-order")) where
  obj := ⟨_, ⟨rfl, rfl, rfl⟩, rfl, ob⟩
  te := fun e he => (by cases he)
  one := List.nodup_nil
  ris := List.Pairwise.nil
  lead := by
    show _ ∨ (!w.params.followText "set-order") = true
    cases w.params.followText "set-order"
    · exact .inr rfl
    · exact .inl rfl
  fit := rfl
theorem make_set {P : Program} {w : World} {A : Around} {E : Value → Shared → Prop} {s : Shared} {l : Addr} {xs : Array Value} (ks : List Str) {Z : Value → Shared → Prop} (calm : A.handled = none) (hl : s.heap.IsList l xs) (len : xs.size = ks.length) (val : ∀ (i : Nat) (v : Value), xs[i]? = some v → ∃ x tk, ks[i]? = some x ∧ v = .str x tk) (few : ks.length < 4000)
    (hZ : ∀ (h' : Heap) (tk : Nat) es ep t, St P w h' s.heap.objs.size es ep t → In ks ks.length (es.toList.map tx) → (∀ b o, s.heap.get? b = some o → h'.get? b = some o) → Z (.ref s.heap.objs.size) { s with heap := h', toks := tk }) : wpAny (model P w) A (call (.type "set") [.ref l]) Z E s := by
  obtain ⟨mc, mt, m1⟩ := F.called_set.mro
  have m2 := F.called_set.made
  have m3 := F.called_set.sub
  refine wpAny_call (codeAny_of_tree ?_)
  show wpAny _ _ (callAny (.type "set") _) _ _ _
  refine wpAny_pure ⟨Code.quiet_builtin _ (by decide +kernel), codeAny_builtin F.entry_type_call ?_⟩
  rw [Around.under_plain (weight_type_call_type "set" [.ref l] []) rfl]
  have m4 := F.called_set.notType
  have m5 := F.called_set.canCreate
  have m6 := F.typeCall_set_1 (.ref l)
  repeat (any_goals (first | assumption | wp_step))
  refine codeAny_mono (L2.code_set_led1 (.ref l) (E := E) (Q₁ := fun v z => v = .ref s.heap.objs.size ∧ z = { s with heap := s.heap.push (MxS.nu w) }) ⟨rfl, rfl⟩) fun r z hr => ?_
  cases r with
  | error e => exact hr
  | ok fl =>
    cases fl with
    | ret v =>
      obtain ⟨rfl, rfl⟩ := hr
      have gS : (s.heap.push (MxS.nu w)).get? s.heap.objs.size = some (MxS.nu w) := Heap.get?_push_size _ rfl
      have tS : Shared.TypeIs { s with heap := s.heap.push (MxS.nu w) } (.ref s.heap.objs.size) "set" := ⟨_, gS, rfl⟩
      have i1 := F.called_set.init.lookup
      have i2 := F.called_set.init.bind (.ref s.heap.objs.size)
      repeat (any_goals (first | assumption | wp_step))
      refine codeAny_mono (codeAny_call_builtin (R := wants (fun v y => v = .none ∧ ∃ h' tk es ep t, y = { s with heap := h', toks := tk } ∧ St P w h' s.heap.objs.size es ep t ∧ In ks ks.length (es.toList.map tx) ∧ ∀ b o, s.heap.get? b = some o → h'.get? b = some o) E) F.called_set.init.plain F.entry_set_init (check_set_init_1 tS ?_)) fun r2 y hr2 => ?_
      · obtain ⟨⟨c1, c2, c3, c4⟩, gl, e1, nl, e2⟩ := hl
        simp only at e1 e2
        subst e1 e2
        have gl' : (s.heap.push (MxS.nu w)).get? l = some { cls := .type "list", dict := c2, data := .seq xs nl, slots := c4 } := Heap.get?_push_of_some _ gl
        have n1 := F.sub_list_set
        have n2 := F.sub_list_frozenset
        have n3 : (Value.type "list" == Value.type "dict") = false := by decide
        have il : (s.heap.push (MxS.nu w)).IsList l xs := ⟨_, gl', rfl, nl, rfl⟩
        unfold Builtin.«set.__init__» noKeywords Builtin.Frozenset.updateFrom
        generalize hold : pyIter = it0
        wp_walk
        subst hold
        refine wpAny_pyIter_list il ?_
        refine wpAny_bind (wpAny_runValue ?_)
        have lS : l < s.heap.objs.size := Heap.lt_size gl
        have calm3 : A.in1.in1.in1.handled = none := by simp [calm]
        have lI : l ≠ (s.heap.push (MxS.nu w)).objs.size := by
          rw [Heap.size_push]
          exact Nat.ne_of_lt (Nat.lt_of_lt_of_le lS (Nat.le_succ _))
        have SI : s.heap.objs.size ∉ [(s.heap.push (MxS.nu w)).objs.size, l] := by
          rw [Heap.size_push]
          intro mem
          rcases List.mem_cons.mp mem with e | e
          · exact absurd e (Nat.ne_of_lt (Nat.lt_succ_self _))
          · exact absurd (List.mem_singleton.mp e) (Nat.ne_of_gt lS)
        have gone : ∀ b, s.heap.objs.size ≤ b → s.heap.get? b = none := fun b hb => by
          cases g : s.heap.get? b with
          | none => rfl
          | some o => exact absurd (Nat.lt_of_lt_of_le (Heap.lt_size g) hb) (Nat.lt_irrefl b)
        refine taken ((Walks.list calm3 _ l lI xs).toS) s.heap.objs.size SI ks len few val s.heap (gone _ (Nat.le_refl _)) (fun b hb => gone b (by
          rw [List.mem_singleton.mp hb, Heap.size_push]
          exact Nat.le_add_right _ 1)) xs.size 0 _ (by omega) ⟨⟨_, Heap.get?_push_size _ rfl, rfl, rfl⟩, (il.push _)⟩ (fun b o e => Heap.get?_push_of_some _ (Heap.get?_push_of_some _ e)) ?first ?last
        case first =>
          refine ⟨#[], 0, _, st_new (Heap.get?_push_of_some _ gS), fun k => ?_, Nat.le_refl _⟩
          simp
        case last =>
          intro y es ep t mv R g kp
          obtain ⟨h', g2, d2, tk, os2⟩ := y
          have z1 : g2 = s.gens := mv.gens
          have z2 : d2 = s.drawn := mv.drawn
          have z3 : os2 = s.os := mv.os
          subst z1 z2 z3
          rw [len] at g
          refine wpAny_pure ?_
          exact wpAny_pure ⟨rfl, h', tk, es, ep, t, rfl, R, g, kp⟩
      · cases r2 with
        | error e => exact hr2
        | ok fl2 =>
          cases fl2 with
          | ret v2 =>
            obtain ⟨rfl, h', tk, es, ep, t, rfl, R, g, kp⟩ := hr2
            repeat (any_goals (first | assumption | wp_step))
            exact hZ _ _ _ _ _ R g kp
          | _ => exact hr2.elim
    | _ => exact hr.elim
theorem sorted_set {P : Program} {w : World} {A : Around} {E : Value → Shared → Prop} {s : Shared} {a : Addr} {es : Array (Int × Value)} {ep : Nat} {t : SetTable} (S : St P w s.heap a es ep t) (calm : A.handled = none) (few : es.size < 4000) (hu : A.units + 64 < cLine) {Z : Value → Shared → Prop}
    (hZ : ∀ s' p (out : List Value) (c : Nat) (ls : List Str), (∀ b o, s.heap.get? b = some o → s'.heap.get? b = some o) → s'.gens = s.gens → s'.os = s.os → s.heap.objs.size ≤ p → s'.heap.get? p = some (seqObj "list" out.toArray c) → PySem.W.EachIs (fun v x => ∃ tk, v = Value.str x tk) out ls → ls.Perm (es.toList.map tx) →
      (ls.Pairwise fun x y => PySem.W.dataLe false PyData.str x y = true) → Z (.ref p) s') : wpAny (model P w) A (call (.builtin "sorted") [.ref a]) Z E s := by
  obtain ⟨o, ex, dt, ob⟩ := S.obj
  have few2 : es.size < scanBound := by unfold scanBound; omega
  refine Calls.call_function_entry kind_sorted plain_sorted entry_sorted (args_sorted1 _) ?_
  unfold Builtin.«sorted»
  refine wpAny_bind (m := checkCount "sorted" 1 1 _) (wpAny_pure ?_)
  refine wpAny_bind (collect_set (A := A.in1) calm ⟨o, ob, ex.1, dt⟩ S.fit few2 S.ris S.lead fun s1 vs k1 z1 g1 o1 pm => ?_)
  have vl : vs.length = es.size := by rw [pm.length_eq, List.length_map, Array.length_toList]
  let tv : Value → Str := fun v => match v with | .str x _ => x | _ => ""
  have each : ∀ v ∈ vs, ∃ tk, v = Value.str (tv v) tk := fun v hv => by
    obtain ⟨e, he, rfl⟩ := List.mem_map.1 (pm.mem_iff.1 hv)
    obtain ⟨x, tk, rfl⟩ := S.te e he
    exact ⟨tk, rfl⟩
  have each2 : ∀ (R : Value → Str → Prop) (us : List Value), (∀ v ∈ us, R v (tv v)) → PySem.W.EachIs R us (us.map tv) := fun R us => by
    induction us with
    | nil => exact fun _ => .nil
    | cons v us ih => exact fun h => .cons (h v (by simp)) (ih fun u hu => h u (List.mem_cons_of_mem _ hu))
  have tp : (vs.map tv).Perm (es.toList.map tx) := by
    have := pm.map tv
    rw [List.map_map] at this
    exact this
  refine wpAny_bind (wpAny_newList ?_ (by rw [vl, sizeLine_eq]; omega))
  have at1 : (s1.heap.push (seqObj "list" vs.toArray 0)).get? s1.heap.objs.size = some (seqObj "list" vs.toArray 0) := Heap.get?_push_size _ rfl
  refine wpAny_bind (wpAny_holding (PySem.W.list_sort_data (s := { s1 with heap := s1.heap.push (seqObj "list" vs.toArray 0) }) (enc := PyData.str) (bs := vs.map tv) at1 (each2 (fun v x => ∃ tk, v = Value.str x tk) vs each) ?er (PySem.W.AllAlike.of fun b b' => rfl) (PySem.W.Sortable.others fun b => ⟨fun z => (nomatch z), fun xs z => (nomatch z)⟩) (by rw [List.length_map, vl, sizeLine_eq]; omega) (fun b hb => ?dep) fun out lo eo => ?fin))
  case er =>
    refine each2 _ vs fun v hv => ?_
    obtain ⟨tk, e⟩ := each v hv
    refine ⟨[], ?_, by simp⟩
    rw [e]
    exact .str (tv v) tk
  case dep =>
    show A.in1.units + 1 + 0 < cLine
    have : A.in1.units = A.units + 1 := rfl
    omega
  case fin =>
    obtain ⟨c, hc⟩ := sortedHeap_at (vs := vs) (out := out.toArray) at1
    have ps := List.mergeSort_perm (vs.map tv) (PySem.W.dataLe false PyData.str)
    refine wpAny_pure ⟨_, rfl, hZ _ s1.heap.objs.size out c _ (fun b u e => ?_) g1 o1 z1 (by simpa using hc) eo (ps.trans tp) ?_⟩
    · have q := k1 b u e
      have lt := Heap.lt_size q
      show (sortedHeap (s1.heap.push (seqObj "list" vs.toArray 0)) s1.heap.objs.size vs out.toArray).get? b = some u
      rw [sortedHeap_old (Nat.ne_of_lt lt) (by rw [size_push']; exact Nat.lt_succ_of_lt lt)]
      exact Heap.get?_push_of_some _ q
    · exact PySem.W.sort_pairwise (le := PySem.W.dataLe false PyData.str) (PySem.W.sortLe_total (PyProof.Rows.listOrd PyProof.Rows.itemOrd) false fun z : Str => PySem.W.keyToks (.str z)) _
end MxT
namespace Pw
open PySem PySem.Spec PyProof.Rows L2
open Evl (Ex ex_l ex_t)
section
variable {X : Cx}
theorem txt_vals : ∀ {xs : List Str} {us : List Value}, Vals (xs.map V.str) us → us.length = xs.length ∧ ∀ (i : Nat) (v : Value), us[i]? = some v → ∃ x tk, xs[i]? = some x ∧ v = .str x tk
  | [], _, .nil => ⟨rfl, fun i v h => (by simp at h)⟩
  | x :: xs, _, .cons r h => by
    obtain ⟨tk, rfl⟩ := r
    obtain ⟨l, p⟩ := txt_vals h
    refine ⟨by simp [l], fun i v e => ?_⟩
    cases i with
    | zero => exact ⟨x, tk, rfl, (by simpa using e.symm)⟩
    | succ i => exact p i v (by simpa using e)
theorem txt_rel : ∀ {out : List Value} {ls : List Str}, PySem.W.EachIs (fun v x => ∃ tk, v = Value.str x tk) out ls → Vals (ls.map V.str) out
  | _, _, .nil => .nil
  | _, _, .cons ⟨tk, e⟩ h => .cons (by rw [e]; exact ⟨tk, rfl⟩) (txt_rel h)
def tLenSetT (K : PySem.W.Frag) (ta : TE) : TE := fun σ H Q => ta σ H fun x H1 => ∃ (l : Addr) (xs : List Str), x = V.ref l ∧ SqL K H1 l (xs.map V.str) ∧ xs.length < 4000 ∧
  ∀ L : List Str, L.Nodup → (∀ k, k ∈ L ↔ k ∈ xs) → Q (.int L.length) H1
theorem pe_lenSetT {a : Expr} {ta : TE} {p p2 q pos : Pos} (hc : X.calm = true) (hu : X.A.units + 64 < cLine) (hg : Gl X "len") (hm : X.mg "len" = none) (hg2 : Gl X "set") (hm2 : X.mg "set" = none) (ha : PE X a ta)
    (na : starEach [a] X.env = (false, eval a X.env) :: starEach [] X.env := by rfl) : PE X (.Call (.Name "len" p) [.Call (.Name "set" p2) [a] [] q] [] pos) (tLenSetT X.K ta) := by
  refine ⟨fun pins s σ H Q I h => ?_⟩
  refine Call_ (ld_blt I hg hm PySem.boot_len ?_)
  refine PyProof.Rows.callWith_builtin1 (PyProof.Rows.args_cons ?_ rfl) rfl rfl
  refine Call_ (ld_blt I hg2 hm2 PyProof.Rows.boot_set ?_)
  refine PyProof.Rows.callWith_type1 (PyProof.Rows.args_cons (thn (ha.run pins s σ H _ I h) fun v s1 ⟨x, H1, I1, r1, w1⟩ => PyProof.Rows.args_nil ?_) na) na rfl
  obtain ⟨l, xs, rfl, sq, few, w1⟩ := w1
  cases r1
  obtain ⟨its, r, pl, _⟩ := I1.list sq
  obtain ⟨ln, val⟩ := txt_vals r
  refine MxT.make_set xs (I1.ok.hd hc) pl.isList (by simpa using ln) (fun i v e => val i v (by simpa using e)) few fun h' tk es ep t R g kp => ?_
  refine PyProof.Rows.args_nil ?_
  obtain ⟨o, ex, dt, ob⟩ := R.obj
  have sz : es.size ≤ xs.length := by
    have := g.le
    rwa [List.length_map, Array.length_toList] at this
  have I2 : Inv X pins σ H1 { s1 with heap := h', toks := tk } := I1.kept fun b o e => kp b o e
  refine call_len_set ob ex dt R.fit (by omega) ⟨.int (es.toList.map MxT.tx).length, H1, I2.tok _, ⟨_, by rw [List.length_map, Array.length_toList]⟩, w1 (es.toList.map MxT.tx) R.one fun k => ?_⟩
  rw [g.has k, List.take_length]
theorem inv_new {pins : List (Addr × Obj)} {σ : L2.St} {H : Hp} {s2 s' : Shared} {p : Addr} {o : HO} (I : Inv X pins σ H s2) (k1 : ∀ b u, s2.heap.get? b = some u → s'.heap.get? b = some u) (z1 : s2.heap.objs.size ≤ p) (g1 : s'.gens = s2.gens) (o1 : s'.os = s2.os) (new : ObjOk X.prog X.w (upd H p o) s'.heap p o) : Inv X pins σ (upd H p o) s' := by
  have J : Inv X pins σ (upd H p o) { s2 with heap := s'.heap, gens := s'.gens, drawn := s'.drawn, toks := s'.toks } :=
    I.call (ch := []) (Un.laid k1 z1 (I.hok.fresh z1)) (I.hok.laid k1 z1 new) (by rw [g1]; exact I.bare) (fun _ z => nomatch z)
  obtain ⟨y1, y2, y3, y4, y5⟩ := s'
  have : y5 = s2.os := o1
  subst this
  exact J
def TxtLe (x y : Str) : Prop := PySem.W.dataLe false PyData.str x y = true
def tSortSetT (K : PySem.W.Frag) (ta : TE) : TE := fun σ H Q => ta σ H fun x H1 => ∃ (l : Addr) (xs : List Str), x = V.ref l ∧ SqL K H1 l (xs.map V.str) ∧ xs.length < 4000 ∧
  ∀ (L : List Str) (a : Addr), L.Nodup → (∀ k, k ∈ L ↔ k ∈ xs) → L.Pairwise TxtLe → H1 a = none → Q (.ref a) (upd H1 a (.lst (L.map V.str)))
theorem pe_sortSetT {a : Expr} {ta : TE} {p p2 q pos : Pos} (hc : X.calm = true) (hu : X.A.units + 64 < cLine) (hg : Gl X "sorted") (hm : X.mg "sorted" = none) (hg2 : Gl X "set") (hm2 : X.mg "set" = none) (ha : PE X a ta)
    (na : starEach [a] X.env = (false, eval a X.env) :: starEach [] X.env := by rfl) : PE X (.Call (.Name "sorted" p) [.Call (.Name "set" p2) [a] [] q] [] pos) (tSortSetT X.K ta) := by
  refine ⟨fun pins s σ H Q I h => ?_⟩
  refine Call_ (ld_blt I hg hm PyProof.Rows.boot_sorted ?_)
  refine PyProof.Rows.callWith_builtin1 (PyProof.Rows.args_cons ?_ rfl) rfl rfl
  refine Call_ (ld_blt I hg2 hm2 PyProof.Rows.boot_set ?_)
  refine PyProof.Rows.callWith_type1 (PyProof.Rows.args_cons (thn (ha.run pins s σ H _ I h) fun v s1 ⟨x, H1, I1, r1, w1⟩ => PyProof.Rows.args_nil ?_) na) na rfl
  obtain ⟨l, xs, rfl, sq, few, w1⟩ := w1
  cases r1
  obtain ⟨its, r, pl, _⟩ := I1.list sq
  obtain ⟨ln, val⟩ := txt_vals r
  refine MxT.make_set xs (I1.ok.hd hc) pl.isList (by simpa using ln) (fun i v e => val i v (by simpa using e)) few fun h' tk es ep t R g kp => ?_
  refine PyProof.Rows.args_nil ?_
  have sz : es.size ≤ xs.length := by
    have := g.le
    rwa [List.length_map, Array.length_toList] at this
  have I2 : Inv X pins σ H1 { s1 with heap := h', toks := tk } := I1.kept fun b o e => kp b o e
  refine MxT.sorted_set (s := { s1 with heap := h', toks := tk }) R (I1.ok.hd hc) (by omega) hu fun s' p out c ls k1 g1 o1 z1 hp ev pm so => ?_
  have hn : H1 p = none := I2.hok.fresh z1
  have ll : ls.length = es.size := by rw [pm.length_eq, List.length_map, Array.length_toList]
  have J := inv_new (o := .lst (ls.map V.str)) I2 k1 z1 g1 o1 ⟨by rw [List.length_map, ll, sizeLine_eq]; omega, out, c, txt_rel ev, by simpa using hp⟩
  refine ⟨.ref p, _, J, rfl, w1 ls p (pm.nodup_iff.mpr R.one) (fun k => ?_) so hn⟩
  rw [pm.mem_iff, g.has k, List.take_length]
end
section
variable {T : Cfg} {W : WX} {ρ : List (Option D)} {m0 : Mu} {XP : XW} {te : TE} {P : D → Mu → Prop}
theorem rep_txts {Hb : Hp} : ∀ {xs : List Str} {vs : List V}, RepL T Hb (xs.map D.str) vs → vs = xs.map V.str
  | [], vs, r => r.nil_inv
  | x :: xs, vs, r => by
    obtain ⟨v, ys, rfl, h1, h2⟩ := RepL.cons_inv (d := D.str x) (ds := xs.map D.str) r
    cases h1
    rw [rep_txts h2]
    rfl
theorem txts_rep {Hb : Hp} : ∀ {xs : List Str}, RepL T Hb (xs.map D.str) (xs.map V.str)
  | [] => .nil
  | x :: xs => .cons (.str x) txts_rep
theorem ev_lenSetT (h : EV T te W ⟨ρ, m0⟩ (fun d μ => ∃ xs : List Str, Seqd d (xs.map D.str) ∧ xs.length < 4000 ∧ ∀ L : List Str, L.Nodup → (∀ k, k ∈ L ↔ k ∈ xs) → P (.int L.length) μ) XP) : EV T (tLenSetT T.K te) W ⟨ρ, m0⟩ P XP := fun σ Hb H Q S q x =>
  h σ Hb H _ S (fun d μ v Hb1 H1 g r p => by
    obtain ⟨xs, hd, hl, p⟩ := p
    obtain ⟨a, vs, rfl, hs, rx⟩ := hd.inv r
    obtain rfl := rep_txts rx
    exact ⟨a, xs, rfl, ex_l g.sub hs, hl, fun L hL hm => q _ _ _ _ _ g (.int _) (p L hL hm)⟩) x
theorem ev_sortSetT (h : EV T te W ⟨ρ, m0⟩ (fun d μ => ∃ xs : List Str, Seqd d (xs.map D.str) ∧ xs.length < 4000 ∧ ∀ L : List Str, L.Nodup → (∀ k, k ∈ L ↔ k ∈ xs) → L.Pairwise TxtLe → P (.lst (L.map D.str)) μ) XP) : EV T (tSortSetT T.K te) W ⟨ρ, m0⟩ P XP := fun σ Hb H Q S q x =>
  h σ Hb H _ S (fun d μ v Hb1 H1 g r p => by
    obtain ⟨xs, hd, hl, p⟩ := p
    obtain ⟨a, vs, rfl, hs, rx⟩ := hd.inv r
    obtain rfl := rep_txts rx
    refine ⟨a, xs, rfl, ex_l g.sub hs, hl, fun L b hL hm so hb => ?_⟩
    have gl := Go.lay g.sub g.mu (o := .lst (L.map V.str)) hb
    have r1 : RepL T Hb1 (L.map D.str) (L.map V.str) := txts_rep
    exact q _ _ _ _ _ (g.trans gl) (.lst (by rw [upd_same]) r1.1 (r1.mono gl.ex).2) (p L hL hm so)) x
end
end Pw
namespace Far
open PySem PySem.Spec PyProof.Rows L2 Pw Cg
open FM (Bq)
structure GngOk (T : Cfg) : Prop where
  ma : MaOk T
  cl : Cls T.K (T.cls 7)
  n1 : NoAttr T.K (T.cls 7) "many"
  n2 : NoAttr T.K (T.cls 7) "by"
  n3 : NoAttr T.K (T.cls 7) "rows"
def goF (m : Nat) (b r : Addr) : List (Str × D) := [("many", .int (m : Int)), ("by", .ptr b), ("rows", .ptr r)]
def lcD (a w : Nat) : Nat := a / Nat.gcd a w * w
def byM (ss : List Stp) : Str → Nat := ss.foldl (fun B s => fun x => if x = s.2.1 then lcD (B x) s.2.2.sum else B x) fun _ => 1
theorem lcD_pos {a w : Nat} (ha : 0 < a) (hw : 0 < w) : 0 < lcD a w := by
  unfold lcD
  refine Nat.mul_pos (Nat.div_pos (Nat.le_of_dvd ha (Nat.gcd_dvd_left a w)) (Nat.gcd_pos_of_pos_left w ha)) hw
theorem lcD_lcm (a w : Nat) : lcD a w = Nat.lcm a w := by
  unfold lcD Nat.lcm
  rw [Nat.div_mul_right_comm (Nat.gcd_dvd_left a w)]
theorem byM_snoc (ss : List Stp) (s : Stp) (x : Str) : byM (ss ++ [s]) x = if x = s.2.1 then lcD (byM ss x) s.2.2.sum else byM ss x := by
  unfold byM
  rw [List.foldl_append]
  rfl
theorem byM_props {N : Nat} (N0 : 0 < N) : ∀ ss : List Stp, (∀ s ∈ ss, 0 < s.2.2.sum ∧ s.2.2.sum ∣ N) → (∀ x, 0 < byM ss x ∧ byM ss x ∣ N) ∧ ∀ s ∈ ss, s.2.2.sum ∣ byM ss s.2.1 := by
  intro ss
  induction h : ss.reverse generalizing ss with
  | nil =>
    have : ss = [] := by simpa using h
    subst this
    exact fun _ => ⟨fun x => ⟨Nat.one_pos, Nat.one_dvd _⟩, fun s hs => (by cases hs)⟩
  | cons z l ih =>
    have e : ss = l.reverse ++ [z] := by
      have := congrArg List.reverse h
      simpa using this
    subst e
    intro hd
    obtain ⟨h1, h2⟩ := ih l.reverse (by simp) fun s hs => hd s (List.mem_append_left _ hs)
    obtain ⟨z0, zd⟩ := hd z (by simp)
    refine ⟨fun x => ?_, fun s hs => ?_⟩
    · rw [byM_snoc]
      split
      · refine ⟨lcD_pos (h1 x).1 z0, ?_⟩
        rw [lcD_lcm]
        exact Nat.lcm_dvd (h1 x).2 zd
      · exact h1 x
    · rw [byM_snoc]
      split
      · rename_i ex
        rw [lcD_lcm]
        rcases List.mem_append.1 hs with hs | hs
        · exact Nat.dvd_trans (h2 s hs) (Nat.dvd_lcm_left _ _)
        · rw [List.mem_singleton.1 hs]
          exact Nat.dvd_lcm_right _ _
      · rename_i ex
        rcases List.mem_append.1 hs with hs | hs
        · exact h2 s hs
        · exact absurd (by rw [List.mem_singleton.1 hs]) ex
def goL (ws : List Nat) (p : Nat) : List D := (List.range ws.length).filterMap fun i => if 0 < ws.getD i 0 then some (.tup [.int (i : Int), .int ((ws.getD i 0 * p : Nat) : Int)]) else none
def kRS (s : Stp) : List Key := [.inl (s.1 : Int), .inr s.2.1]
def goR (B : Str → Nat) (ss : List Stp) : List (List Key × D) := ss.map fun s => (kRS s, .lst (goL s.2.2 (B s.2.1 / s.2.2.sum)))
structure GM (μ : Mu) (s b r : Addr) (m : Nat) (ss : List Stp) : Prop where
  self : μ s = some (.ins 7 (goF m b r))
  by_ : ∃ kvs, μ b = some (.dK kvs) ∧ ∀ x, (lookD kvs (.inr x)).getD (.int 1) = .int (byM ss x : Nat)
  rows : μ r = some (.dT (goR (byM ss) ss))
theorem GM.imp {μ μ' : Mu} {s b r : Addr} {m : Nat} {ss : List Stp} (g : GM μ s b r m ss) (h : ∀ a z, μ a = some z → μ' a = some z) : GM μ' s b r m ss := by
  obtain ⟨kvs, h1, h2⟩ := g.by_
  exact ⟨h _ _ g.self, ⟨kvs, h _ _ h1, h2⟩, h _ _ g.rows⟩
structure SumN (ss : List Stp) (N hb : Nat) : Prop where
  n0 : 0 < N
  nb : N < 2 ^ hb
  h6 : hb ≤ 600
  dv : ∀ s ∈ ss, s.2.2.sum ∣ N
def c_Going___init__ (T : Cfg) : Ct := fun ds μ P _ => ∃ (s : Addr) (m N hb : Nat) (ss : List Stp), ds = [.ptr s, maD m ss] ∧ μ s = some (.ins 7 []) ∧ Good m ss ∧ SumN ss N hb ∧
  ∀ (μ' : Mu) (b r : Addr), GM μ' s b r m ss → (∀ a z, a ≠ s → μ a = some z → μ' a = some z) → P .non μ'
theorem len_Going___init__ {T : Cfg} : ∀ ds μ P XP, c_Going___init__ T ds μ P XP → ds.length = 2 := by
  rintro ds μ P XP ⟨s, m, N, hb, ss, rfl, _⟩; rfl
def t_Going___init__ (T : Cfg) (E : XK) : TS := (tSeq (sFld T.K (tVar 0) (tFld T.K (tVar 1) "many") "many")
    (tSeq (sFld T.K (tVar 0) tDNewK "by")
    (tSeq (sFld T.K (tVar 0) tDNewT "rows")
    (tSeq (tFor (iList T.K (tFld T.K (tVar 1) "steps")) (gTup T.K 3 (gCons (gName 2) (gCons (gName 3) (gCons (gName 4) gNil)))) (tSeq (tAsg (tCB (rSumT T.K) (tCons (tVar 4) tNil)) (gName 5))
    (tSeq (tAsg (tDGet2 (tFld T.K (tVar 0) "by") (tVar 3) (tC (.int 1))) (gName 6))
    (sDPut (tFld T.K (tVar 0) "by") (tVar 3) (tOp (rI IntMulOk fun i j => .int (i * j)) (tOp (rI CFd fun i j => .int (i.fdiv j)) (tVar 6) (tCall (spOf T (pu (c_common T))) [] E0 (tCons (tVar 6) (tCons (tVar 5) tNil)))) (tVar 5))))))
    (tFor (iList T.K (tFld T.K (tVar 1) "steps")) (gTup T.K 3 (gCons (gName 2) (gCons (gName 3) (gCons (gName 4) gNil)))) (tSeq (tAsg (tOp (rI CFd fun i j => .int (i.fdiv j)) (tDGet (tFld T.K (tVar 0) "by") (tVar 3)) (tCB (rSumT T.K) (tCons (tVar 4) tNil))) (gName 7))
    (sDPut (tFld T.K (tVar 0) "rows") (tTup (tCons (tVar 2) (tCons (tVar 3) tNil))) (tLc (iEnumT T.K (tCons (tVar 4) tNil)) (gTup T.K 2 (gCons (gName 8) (gCons (gName 9) gNil))) (tTest (tOp (rI0 fun i j => .bl (decide (j < i))) (tVar 9) (tC (.int 0)))) (tTup (tCons (tVar 8) (tCons (tOp (rI IntMulOk fun i j => .int (i * j)) (tVar 9) (tVar 7)) tNil))) [8, 9]))))))))
theorem ev_gf {T : Cfg} {W : WX} {ρ : List (Option D)} {m0 : Mu} {P : D → Mu → Prop} {XP : XW} {f : Str} {e : D} {s : Addr} {i : Nat} {gs : List (Str × D)} (hT : GngOk T) (hv : ρ[i]? = some (some (.ptr s))) (hs : m0 s = some (.ins 7 gs)) (hl : gs.lookup f = some e) (hf : NoAttr T.K (T.cls 7) f) (p : P e m0) : EV T (tFld T.K (tVar i) f) W ⟨ρ, m0⟩ P XP :=
  ev_fldM (ev_var hv ⟨s, 7, gs, e, rfl, hs, hT.cl, hf, hl, p⟩)
theorem bt_dvd {a N hb : Nat} (sn : N < 2 ^ hb) (h6 : hb ≤ 600) (n0 : 0 < N) (h : a ∣ N) : Bt 600 (a : Int) := by
  show a < 2 ^ 600
  exact Nat.lt_of_le_of_lt (Nat.le_of_dvd n0 h) (Nat.lt_of_lt_of_le sn (Nat.pow_le_pow_right (by decide) h6))
theorem pure_Going___init__ {T : Cfg} (hG : GngOk T) : ∀ E ds μ P XP, c_Going___init__ T ds μ P XP → SV T (t_Going___init__ T E) (fun cls dd _ H => E cls dd H) ⟨slots 10 ds, μ⟩ (fnK P XP) := Hd.o (by
 simp (disch :=
 with_unfolding_all
 exact by
  rintro E ds μ P XP ⟨s, m, N, hb, ss, rfl, hs, hg, sn, hP⟩
  have hT := hG.ma
  have hS := hT.sh
  have props := byM_props sn.n0 ss fun z hz => ⟨(hg.ok z hz).ps, sn.dv z hz⟩
  unfold t_Going___init__
  walk_at "pks"
  refine ev_many hT ?_
  walk_at "pks"
  refine ⟨m, ss, rfl, ?_⟩
  walk_at "pks"
  refine ⟨s, 7, _, rfl, hs, hG.cl, hG.n1, by simp, ?_⟩
  rw [show putG "many" (.int (m : Int)) [] = ([("many", .int (m : Int))] : List (Str × D)) from rfl]
  walk_at "pks"
  refine ev_dnewM fun b hb1 => ?_
  have sb : s ≠ b := fun e => by rw [← e, put_same] at hb1; cases hb1
  walk_at "pks"
  refine ⟨s, 7, _, rfl, by rw [put_ne sb, put_same], hG.cl, hG.n2, by simp, ?_⟩
  rw [show putG "by" (.ptr b) [("many", .int (m : Int))] = ([("many", .int (m : Int)), ("by", .ptr b)] : List (Str × D)) from rfl]
  walk_at "pks"
  refine ev_dnewTM fun r hr1 => ?_
  have sr : s ≠ r := fun e => by rw [← e, put_same] at hr1; cases hr1
  have br : b ≠ r := fun e => by rw [← e, put_ne sb.symm, put_same] at hr1; cases hr1
  walk_at "pks"
  refine ⟨s, 7, _, rfl, by rw [put_ne sr, put_same], hG.cl, hG.n3, by simp, ?_⟩
  rw [show putG "rows" (.ptr r) [("many", .int (m : Int)), ("by", .ptr b)] = goF m b r from rfl]
  have bt : ∀ {a : Nat}, a ∣ N → Bt 600 (a : Int) := fun h => bt_dvd sn.nb sn.h6 sn.n0 h
  have dvk : ∀ k, (∀ z ∈ ss.take k, 0 < z.2.2.sum ∧ z.2.2.sum ∣ N) := fun k z hz => by
    have hm := List.mem_of_mem_take hz
    exact ⟨(hg.ok z hm).ps, sn.dv z hm⟩
  have nb : μ b = none := by rw [put_ne sb.symm] at hb1; exact hb1
  have nr : μ r = none := by rw [put_ne sr.symm, put_ne br.symm, put_ne sr.symm] at hr1; exact hr1
  generalize hμ1 : put (put (put (put (put μ s (.ins 7 [("many", .int (m : Int))])) b (.dK [])) s (.ins 7 [("many", .int (m : Int)), ("by", .ptr b)])) r (.dT [])) s (.ins 7 (goF m b r)) = μ1
  have f1 : μ1 s = some (.ins 7 (goF m b r)) := by rw [← hμ1, put_same]
  have f2 : μ1 b = some (.dK []) := by rw [← hμ1, put_ne sb.symm, put_ne br, put_ne sb.symm, put_same]
  have f3 : μ1 r = some (.dT []) := by rw [← hμ1, put_ne sr.symm, put_same]
  have f4 : ∀ a z, a ≠ s → μ a = some z → μ1 a = some z := fun a z ha e => by
    have ab : a ≠ b := fun q => by rw [q, nb] at e; cases e
    have ar : a ≠ r := fun q => by rw [q, nr] at e; cases e
    rw [← hμ1, put_ne ha, put_ne ar, put_ne ha, put_ne ab, put_ne ha]
    exact e
  clear hμ1
  refine seqK_nx (sv_seq (sv_for (is := [2] ++ ([3] ++ ([4] ++ []))) (iv_list ?_)))
  refine ev_steps hT (ev_var rfl ⟨m, ss, rfl, ?_⟩)
  refine ⟨_, .inl rfl, fun k s' => leR [some (.ptr s), some (maD m ss), none, none, none, none, none, none, none, none] s'.r ∧ s'.m s = some (.ins 7 (goF m b r)) ∧ (∃ kvs, s'.m b = some (.dK kvs) ∧ kvs.length ≤ k ∧ (∀ x, (lookD kvs (.inr x)).getD (.int 1) = .int (byM (ss.take k) x : Nat)) ∧ ∀ z ∈ ss.take k, lookD kvs (.inr z.2.1) = some (.int (byM (ss.take k) z.2.1 : Nat))) ∧ s'.m r = some (.dT []) ∧ ∀ a z, a ≠ s → μ a = some z → s'.m a = some z, ⟨by walk_at "le", f1, ⟨[], f2, Nat.le_refl _, fun x => rfl, fun z hz => (by cases hz)⟩, f3, f4⟩, fun k s' hk hI => ?_, fun s' hI => ?_⟩
  · obtain ⟨hr, e1, ⟨kvs, e2, hl, hB, hS2⟩, e3, e4⟩ := hI
    have hk : k < ss.length := by simpa using hk
    have hz : ss[k]? = some ss[k] := List.getElem?_eq_getElem hk
    have hzm := List.getElem_mem hk
    have et : ss.take (k + 1) = ss.take k ++ [ss[k]] := by rw [List.take_succ, hz]; rfl
    rw [nth_of (d := stpD ss[k]) (by rw [List.getElem?_map, hz]; rfl)]
    generalize ss[k] = z at hz hzm et
    have zok := hg.ok z hzm
    have zd := sn.dv z hzm
    have pk := (byM_props sn.n0 (ss.take k) (dvk k)).1 z.2.1
    obtain ⟨ρ, μ2⟩ := s'
    have e1 : μ2 s = _ := e1
    have e2 : μ2 b = _ := e2
    have e3 : μ2 r = _ := e3
    have e4 : ∀ a y, a ≠ s → μ a = some y → μ2 a = some y := e4
    refine gv_tup rfl (gvs_cons (gv_name (gvs_cons (gv_name (gvs_cons (gv_name (gvs_nil ?_)))))))
    refine sv_wk (ρ' := [some (.ptr s), some (maD m ss), some (.int (z.1 : Int)), some (.str z.2.1), some (wtsD z.2.2), none, none, none, none, none]) (((hr.set 2 _).set 3 _).set 4 _) sub_refl ?_
    refine sv_seq (sv_asg (ev_cb (ea_cons (ev_var rfl (ea_nil ?_)))))
    rw [show wtsD z.2.2 = .tup ((z.2.2.map fun w : Nat => (w : Int)).map D.int) by unfold wtsD; rw [List.map_map]; rfl]
    refine cv_sumT ?_
    rw [sum_castH]
    refine seqK_nx (sv_seq (sv_asg (ev_get2O (ev_gf hG rfl e1 rfl hG.n2 ⟨b, _, rfl, e2, ev_var rfl ?_⟩))))
    refine ev_int ⟨kvs, .inr z.2.1, rfl, e2, ?_⟩
    rw [show valD kvs (.inr z.2.1) = lookD kvs (.inr z.2.1) from rfl, hB z.2.1]
    refine seqK_nx (sv_dputU ?_)
    walk_at "pks"
    refine ⟨_, _, rfl, ?_⟩
    have g0 := Nat.gcd_pos_of_pos_left z.2.2.sum pk.1
    have gd : Nat.gcd (byM (ss.take k) z.2.1) z.2.2.sum ∣ N := Nat.dvd_trans (Nat.gcd_dvd_left _ _) pk.2
    refine ov_fdiv ⟨by omega, Nat.lt_trans ((bt gd).log (n := 600) (by decide)) (by decide)⟩ ?_
    rw [← Int.ofNat_fdiv]
    walk_at "pks"
    have qd : byM (ss.take k) z.2.1 / Nat.gcd (byM (ss.take k) z.2.1) z.2.2.sum ∣ N := Nat.dvd_trans (Nat.div_dvd_of_dvd (Nat.gcd_dvd_left _ _)) pk.2
    refine ov_mul (Bt.ok (bt qd) (bt zd) (by decide)) ?_
    refine ev_gf hG rfl e1 rfl hG.n2 (ev_var rfl ⟨b, kvs, .inr z.2.1, rfl, e2, rfl, by have := hg.ln; omega, ?_⟩)
    have ev : ((byM (ss.take k) z.2.1 / Nat.gcd (byM (ss.take k) z.2.1) z.2.2.sum : Nat) : Int) * (z.2.2.sum : Int) = ((lcD (byM (ss.take k) z.2.1) z.2.2.sum : Nat) : Int) := by
      rw [← Int.natCast_mul]; rfl
    rw [ev]
    refine ⟨by walk_at "le", ?_, ⟨_, put_same, Nat.le_trans putD_len (by omega), fun x => ?_, fun y hy => ?_⟩, ?_, fun a y ha e => ?_⟩
    · show put _ _ _ _ = _
      rw [put_ne sb]
      exact e1
    · rw [lookD_put, et, byM_snoc]
      by_cases hx : x = z.2.1
      · rw [if_pos (by rw [hx]), if_pos hx, hx]; rfl
      · rw [if_neg (fun q => hx (Sum.inr.inj q)), if_neg hx]
        exact hB x
    · rw [lookD_put, et, byM_snoc]
      by_cases hx : y.2.1 = z.2.1
      · rw [if_pos (by rw [hx]), if_pos hx, hx]
      · rw [if_neg (fun q => hx (Sum.inr.inj q)), if_neg hx]
        rw [et] at hy
        rcases List.mem_append.1 hy with hy | hy
        · exact hS2 y hy
        · exact absurd (by rw [List.mem_singleton.1 hy]) hx
    · show put _ _ _ _ = _
      rw [put_ne br.symm]
      exact e3
    · show put _ _ _ _ = _
      rw [put_ne (fun q => by rw [q, nb] at e; cases e)]
      exact e4 a y ha e
  obtain ⟨hr, e1, ⟨kvs, e2, hl, hB, hS2⟩, e3, e4⟩ := hI
  rw [List.length_map] at hl hB hS2
  rw [List.take_length] at hB hS2
  obtain ⟨ρ, μ2⟩ := s'
  have e1 : μ2 s = _ := e1
  have e2 : μ2 b = _ := e2
  have e3 : μ2 r = _ := e3
  have e4 : ∀ a y, a ≠ s → μ a = some y → μ2 a = some y := e4
  refine seqK_nx (sv_wkR (s := ⟨_, _⟩) hr ?_)
  dsimp only
  refine sv_for (is := [2] ++ ([3] ++ ([4] ++ []))) (iv_list ?_)
  refine ev_steps hT (ev_var rfl ⟨m, ss, rfl, ?_⟩)
  refine ⟨_, .inl rfl, fun k s' => leR [some (.ptr s), some (maD m ss), none, none, none, none, none, none, none, none] s'.r ∧ s'.m s = some (.ins 7 (goF m b r)) ∧ s'.m b = some (.dK kvs) ∧ s'.m r = some (.dT (goR (byM ss) (ss.take k))) ∧ ∀ a z, a ≠ s → μ a = some z → s'.m a = some z, ⟨by walk_at "le", e1, e2, e3, e4⟩, fun k s' hk hI => ?_, fun s' hI => ?_⟩
  · clear e1 e2 e3 e4 hr
    obtain ⟨hr, e1, e2, e3, e4⟩ := hI
    have hk : k < ss.length := by simpa using hk
    have hz : ss[k]? = some ss[k] := List.getElem?_eq_getElem hk
    have hzm := List.getElem_mem hk
    have et : ss.take (k + 1) = ss.take k ++ [ss[k]] := by rw [List.take_succ, hz]; rfl
    have hnew : kRS ss[k] ∉ (goR (byM ss) (ss.take k)).map Prod.fst := fun hm => by
      unfold goR at hm
      rw [List.map_map] at hm
      obtain ⟨y, hy, e⟩ := List.mem_map.1 hm
      obtain ⟨j, hj, ej⟩ := List.mem_iff_getElem.1 hy
      have hj1 : j < k := by rw [List.length_take] at hj; omega
      rw [List.getElem_take] at ej
      have e5 : keyS y = keyS ss[k] := by
        have e6 : kRS y = kRS ss[k] := e
        unfold kRS at e6
        have e7 := List.cons.inj e6
        have e8 := List.cons.inj e7.2
        exact Prod.ext (Int.ofNat.inj (Sum.inl.inj e7.1)) (Sum.inr.inj e8.1)
      have h1 : (ss.map keyS)[j]'(by simp; omega) = (ss.map keyS)[k]'(by simp; omega) := by
        rw [List.getElem_map, List.getElem_map, ej, e5]
      have := (List.getElem_inj hg.nd).1 h1
      omega
    rw [nth_of (d := stpD ss[k]) (by rw [List.getElem?_map, hz]; rfl)]
    generalize ss[k] = z at hz hzm et hnew
    have zok := hg.ok z hzm
    have zd := sn.dv z hzm
    have pk := props.1 z.2.1
    have lenr : (goR (byM ss) (ss.take k)).length < 1000 := by
      unfold goR
      rw [List.length_map, List.length_take]
      have := hg.ln
      omega
    obtain ⟨ρ, μ3⟩ := s'
    have e1 : μ3 s = _ := e1
    have e2 : μ3 b = _ := e2
    have e3 : μ3 r = _ := e3
    have e4 : ∀ a y, a ≠ s → μ a = some y → μ3 a = some y := e4
    refine gv_tup rfl (gvs_cons (gv_name (gvs_cons (gv_name (gvs_cons (gv_name (gvs_nil ?_)))))))
    refine sv_wk (ρ' := [some (.ptr s), some (maD m ss), some (.int (z.1 : Int)), some (.str z.2.1), some (wtsD z.2.2), none, none, none, none, none]) (((hr.set 2 _).set 3 _).set 4 _) sub_refl ?_
    refine sv_seq (sv_asg ?_)
    refine ev_op (ev_dgetO (ev_gf hG rfl e1 rfl hG.n2 (ev_var rfl ⟨b, kvs, .inr z.2.1, _, rfl, e2, rfl, hS2 z hzm, ?_⟩)))
    refine ev_cb (ea_cons (ev_var rfl (ea_nil ?_)))
    rw [show wtsD z.2.2 = .tup ((z.2.2.map fun w : Nat => (w : Int)).map D.int) by unfold wtsD; rw [List.map_map]; rfl]
    refine cv_sumT ?_
    rw [sum_castH]
    have z0 := zok.ps
    refine ov_fdiv ⟨by omega, Nat.lt_trans ((bt zd).log (n := 600) (by decide)) (by decide)⟩ ?_
    rw [← Int.ofNat_fdiv]
    have qd : byM ss z.2.1 / z.2.2.sum ∣ N := Nat.dvd_trans (Nat.div_dvd_of_dvd (props.2 z hzm)) pk.2
    generalize hpart : byM ss z.2.1 / z.2.2.sum = part at qd
    refine seqK_nx (sv_dputT ?_)
    refine ev_lcX2 (iv_enumT (ea_cons (ev_var rfl (ea_nil ⟨_, rfl, ?_⟩))))
    refine ⟨by simp; have := zok.ln; have := hg.m12; omega, fun i => if 0 < z.2.2.getD i 0 then some (.tup [.int (i : Int), .int ((z.2.2.getD i 0 * part : Nat) : Int)]) else none, fun i hi => ?_, ?_⟩
    · have hi : i < z.2.2.length := by simpa using hi
      have hl := hg.m12
      refine ⟨_, _, rfl, ?_⟩
      have eg : z.2.2[i]? = some (z.2.2.getD i 0) := by
        rw [List.getElem?_eq_getElem hi, List.getD_eq_getElem?_getD, List.getElem?_eq_getElem hi]
        rfl
      rw [nth_of (d := .int ((z.2.2.getD i 0 : Nat) : Int)) (by rw [List.getElem?_map, List.getElem?_map, eg]; rfl)]
      have wb : Bt 600 ((z.2.2.getD i 0 : Nat) : Int) := by
        refine Nat.lt_of_le_of_lt ?_ (bt zd)
        exact le_sumH _ _ (List.mem_of_getElem? eg)
      walk_at "pks"
      refine ⟨rfl, fun h => ?_, fun h => ?_⟩
      · have h : 0 < z.2.2.getD i 0 := by
          have := of_decide_eq_true h
          omega
        walk_at "pks"
        refine ov_mul (Bt.ok wb (bt qd) (by decide)) ?_
        walk_at "pks"
        refine ⟨?_, rfl⟩
        dsimp only
        rw [if_pos h, Int.natCast_mul]
      · have h := of_decide_eq_false h
        exact if_neg (by omega)
    · refine ev_gf hG rfl e1 rfl hG.n3 (ev_tupK ?_)
      walk_at "pks"
      refine ⟨kRS z, rfl, by simp [kRS], ?_⟩
      refine ⟨r, _, _, rfl, e3, rfl, lenr, ?_⟩
      have ep : putD (goR (byM ss) (ss.take k)) (kRS z) (.lst ((List.range ((z.2.2.map fun w : Nat => (w : Int)).map D.int).length).filterMap fun i => if 0 < z.2.2.getD i 0 then some (.tup [.int (i : Int), .int ((z.2.2.getD i 0 * part : Nat) : Int)]) else none)) = goR (byM ss) (ss.take (k + 1)) := by
        unfold putD
        rw [if_neg hnew, et]
        unfold goR
        rw [List.map_append, List.map_cons, List.map_nil, hpart]
        unfold goL
        rw [List.length_map, List.length_map]
      rw [ep]
      refine ⟨by walk_at "le", ?_, ?_, put_same, fun a y ha e => ?_⟩
      · show put _ _ _ _ = _
        rw [put_ne sr]
        exact e1
      · show put _ _ _ _ = _
        rw [put_ne br]
        exact e2
      · show put _ _ _ _ = _
        rw [put_ne (fun q => by rw [q, nr] at e; cases e)]
        exact e4 a y ha e
  obtain ⟨hr, e1, e2, e3, e4⟩ := hI
  rw [List.length_map, List.take_length] at e3
  exact hP _ b r ⟨e1, ⟨kvs, e2, hB⟩, e3⟩ e4
 ) only [↓hE])
def gnD (m : Nat) (n : Nat → Nat) : List D := (List.range m).map fun i => .int (n i : Nat)
def sprD (m : Nat) (n : Nat → Nat) (b : Nat) : D := .tup [.lst (gnD m n), .int (b : Nat)]
def sumNt (m : Nat) (n : Nat → Nat) : Nat := ((List.range m).map n).sum
theorem sN_succ (k : Nat) (n : Nat → Nat) : sumNt (k + 1) n = sumNt k n + n k := by
  unfold sumNt
  rw [List.range_succ, List.map_append, List.sum_append]
  simp
def gonN (ss : List Stp) (k : Nat) (x : Str) (n : Nat → Nat) (to : Nat) : Nat := sumNt k fun r => n r * ((gonW ss r x).getD to 0 * (byM ss x / (gonW ss r x).sum))
def c_Going_begun (T : Cfg) : Ct := fun ds μ P _ => ∃ (s b r : Addr) (m : Nat) (ss : List Stp), ds = [.ptr s] ∧ GM μ s b r m ss ∧ m ≤ 12 ∧ P (sprD m (fun i => if i = 0 then 1 else 0) 1) μ
def c_Going_gone (T : Cfg) : Ct := fun ds μ P _ => ∃ (s b r : Addr) (m N hb b0 : Nat) (ss : List Stp) (n : Nat → Nat) (x : Str), ds = [.ptr s, sprD m n b0, .str x] ∧ GM μ s b r m ss ∧ Good m ss ∧ SumN ss N hb ∧ (∀ i, i < m → n i < 2 ^ 4000) ∧ b0 < 2 ^ 4000 ∧
  P (sprD m (gonN ss m x n) (b0 * byM ss x)) μ
def c_share_of (T : Cfg) : PC := fun ds P _ => ∃ (m b : Nat) (n : Nat → Nat), ds = [sprD m n b] ∧ m ≤ 12 ∧ 0 < b ∧ b < 2 ^ 4000 ∧ sumNt m n < 2 ^ 4000 ∧ P (shD (Rat.divInt (sumNt m n : Nat) (b : Nat)))
theorem len_Going_begun {T : Cfg} : ∀ ds μ P XP, c_Going_begun T ds μ P XP → ds.length = 1 := by
  rintro ds μ P XP ⟨s, b, r, m, ss, rfl, _⟩; rfl
theorem len_Going_gone {T : Cfg} : ∀ ds μ P XP, c_Going_gone T ds μ P XP → ds.length = 3 := by
  rintro ds μ P XP ⟨s, b, r, m, N, hb, b0, ss, n, x, rfl, _⟩; rfl
theorem len_share_of {T : Cfg} : ∀ ds μ P XP, pu (c_share_of T) ds μ P XP → ds.length = 1 := by
  rintro ds μ P XP ⟨rfl, Pf, Xf, ⟨m, b, n, rfl, _⟩, _⟩; rfl
def t_Going_begun (T : Cfg) (E : XK) : TS := (tRet (tTup (tCons (tLc (iRng1 (tCons (tFld T.K (tVar 0) "many") tNil)) (gName 1) tYes (tCB rInt1 (tCons (tOp rEq (tVar 1) (tC (.int 0))) tNil)) [1]) (tCons (tC (.int 1)) tNil))))
def t_Going_gone (T : Cfg) (E : XK) : TS := (tSeq (tAsg (tVar 1) (gTup T.K 2 (gCons (gName 4) (gCons (gName 5) gNil))))
    (tSeq (tAsg (tOp rRep (tLst (tCons (tC (.int 0)) tNil)) (tFld T.K (tVar 0) "many")) (gName 3))
    (tSeq (tFor (iEnum T.K (tCons (tVar 4) tNil)) (gTup T.K 2 (gCons (gName 6) (gCons (gName 7) gNil))) (tIfS (tTest (tOp (rI0 fun i j => .bl (decide (j < i))) (tVar 7) (tC (.int 0)))) (tFor (iList T.K (tDGet2 (tFld T.K (tVar 0) "rows") (tTup (tCons (tVar 6) (tCons (tVar 2) tNil))) (tLst tNil))) (gTup T.K 2 (gCons (gName 8) (gCons (gName 9) gNil))) (tAugS (tVar 3) (tVar 8) (tOp (rI IntMulOk fun i j => .int (i * j)) (tVar 7) (tVar 9)) (rIxL T.K) (ipI fun i j => i + j) rSetL)) tNext))
    (tRet (tTup (tCons (tVar 3) (tCons (tOp (rI IntMulOk fun i j => .int (i * j)) (tVar 5) (tDGet2 (tFld T.K (tVar 0) "by") (tVar 2) (tC (.int 1)))) tNil)))))))
def t_share_of (T : Cfg) (E : XK) : TS := (tSeq (tAsg (tVar 0) (gTup T.K 2 (gCons (gName 1) (gCons (gName 2) gNil))))
    (tRet (tMake (T.cls 0) (spOf T (ini 0 (c_Share___init__ T))) [] E0 (tCons (tCB (rSum T.K) (tCons (tVar 1) tNil)) (tCons (tVar 2) tNil)))))
theorem gnD_sum (m : Nat) (n : Nat → Nat) : (gnD m n) = ((List.range m).map fun i => ((n i : Nat) : Int)).map D.int := by
  unfold gnD
  rw [List.map_map]
  rfl
theorem sN_int (m : Nat) (n : Nat → Nat) : ((List.range m).map fun i => ((n i : Nat) : Int)).sum = (sumNt m n : Nat) := by
  induction m with
  | zero => rfl
  | succ m ih =>
    rw [List.range_succ, List.map_append, List.sum_append, ih, sN_succ]
    simp
theorem pure_Going_begun {T : Cfg} (hG : GngOk T) : ∀ E ds μ P XP, c_Going_begun T ds μ P XP → SV T (t_Going_begun T E) (fun cls dd _ H => E cls dd H) ⟨slots 2 ds, μ⟩ (fnK P XP) := Hd.o (by
 simp (disch :=
 with_unfolding_all
 exact by
  rintro E ds μ P XP ⟨s, b, r, m, ss, rfl, g, hm, p⟩
  unfold t_Going_begun
  refine sv_ret (ev_tup (ea_cons (ev_lcX (iv_rng1 (ea_cons (ev_gf hG rfl g.self rfl hG.n1 (ea_nil ?_)))))))
  refine ⟨_, rfl, by omega, by omega, by omega, fun i => some (.int ((if i = 0 then 1 else 0 : Nat) : Int)), fun i hi => ?_, ?_⟩
  · simp only [Int.zero_add]
    refine tv_yes ⟨rfl, fun _ => ?_, fun h => nomatch h⟩
    walk_at "pks"
    refine ⟨?_, rfl⟩
    by_cases h : i = 0
    · subst h; rfl
    · rw [if_neg h, if_neg (by rw [decide_eq_true_iff]; omega)]; rfl
  · rw [show (fun i : Nat => some (D.int ((if i = 0 then 1 else 0 : Nat) : Int))) = some ∘ fun i : Nat => D.int ((if i = 0 then 1 else 0 : Nat) : Int) from rfl, List.filterMap_eq_map]
    exact ea_cons (ev_int (ea_nil ⟨by simp, p⟩))
 ) only [↓hE])
theorem pure_share_of {T : Cfg} (hS : ShOk T) : ∀ E ds μ P XP, pu (c_share_of T) ds μ P XP → SV T (t_share_of T E) (fun cls dd _ H => E cls dd H) ⟨slots 3 ds, μ⟩ (fnK P XP) := Hd.o (by
 simp (disch :=
 with_unfolding_all
 exact by
  rintro E ds μ P XP ⟨rfl, Pf, Xf, ⟨m, b, n, rfl, hm, b0, bb, nb, p⟩, hP, hX⟩
  unfold t_share_of
  refine sv_seq (sv_asgG (is := [1] ++ ([2] ++ [])) (ev_var rfl (gv_tup rfl (gvs_cons (gv_name (gvs_cons (gv_name (gvs_nil ?_))))))))
  refine seqK_nx (sv_wkR (s := ⟨_, _⟩) (ρ' := [none, some (.lst (gnD m n)), some (.int (b : Nat))]) (by walk_at "le") ?_)
  dsimp only
  rw [gnD_sum]
  walk_at "pks"
  refine cv_sum (.inl rfl) ?_
  rw [sN_int]
  walk_at "pks"
  refine ⟨by omega, show b < 2 ^ 9000 from Nat.lt_of_lt_of_le bb (Nat.pow_le_pow_right (by decide) (by decide)), ?_⟩
  exact hP _ p
 ) only [↓hE])
def addPl (c : Nat) (l : List (Nat × Nat)) (F : Nat → Nat) : Nat → Nat := l.foldl (fun F e => fun i => if i = e.1 then F i + c * e.2 else F i) F
def gpL (ws : List Nat) (p : Nat) : List (Nat × Nat) := (List.range ws.length).filterMap fun i => if 0 < ws.getD i 0 then some (i, ws.getD i 0 * p) else none
theorem goL_gp (ws : List Nat) (p : Nat) : goL ws p = (gpL ws p).map fun e => .tup [.int (e.1 : Nat), .int (e.2 : Nat)] := by
  unfold goL gpL
  rw [List.map_filterMap]
  refine congrArg (fun f => (List.range ws.length).filterMap f) (funext fun i => ?_)
  split <;> rfl
theorem addP_app (c : Nat) (l l' : List (Nat × Nat)) (F : Nat → Nat) : addPl c (l ++ l') F = addPl c l' (addPl c l F) := by
  unfold addPl
  rw [List.foldl_append]
theorem gp_mem {ws : List Nat} {p : Nat} {e : Nat × Nat} (h : e ∈ gpL ws p) : e.1 < ws.length ∧ e.2 = ws.getD e.1 0 * p := by
  obtain ⟨i, hi, he⟩ := List.mem_filterMap.1 h
  split at he
  · cases he
    exact ⟨List.mem_range.1 hi, rfl⟩
  · cases he
theorem addP_gp (c : Nat) (ws : List Nat) (p : Nat) (F : Nat → Nat) : ∀ i, addPl c (gpL ws p) F i = F i + c * (ws.getD i 0 * p) := by
  have key : ∀ k, k ≤ ws.length → ∀ i, addPl c ((List.range k).filterMap fun i => if 0 < ws.getD i 0 then some (i, ws.getD i 0 * p) else none) F i = F i + if i < k then c * (ws.getD i 0 * p) else 0 := fun k => by
    induction k with
    | zero => exact fun _ i => rfl
    | succ k ih =>
      intro hk i
      have h1 := ih (by omega) i
      rw [List.range_succ, List.filterMap_append, addP_app]
      by_cases w : 0 < ws.getD k 0
      · rw [show ([k] : List Nat).filterMap (fun i => if 0 < ws.getD i 0 then some (i, ws.getD i 0 * p) else none) = [(k, ws.getD k 0 * p)] by rw [List.filterMap_cons, if_pos w]; rfl]
        show (if i = k then _ + c * (ws.getD k 0 * p) else _) = _
        rw [h1]
        by_cases e : i = k
        · subst e
          rw [if_pos rfl, if_neg (by omega), if_pos (by omega)]
          omega
        · rw [if_neg e]
          by_cases h : i < k
          · rw [if_pos h, if_pos (by omega)]
          · rw [if_neg h, if_neg (by omega)]
      · rw [show ([k] : List Nat).filterMap (fun i => if 0 < ws.getD i 0 then some (i, ws.getD i 0 * p) else none) = [] by rw [List.filterMap_cons, if_neg w]; rfl]
        show addPl c _ F i = _
        rw [h1]
        by_cases e : i = k
        · subst e
          rw [if_neg (by omega), if_pos (by omega), show ws.getD i 0 = 0 by omega]
          simp
        · by_cases h : i < k
          · rw [if_pos h, if_pos (by omega)]
          · rw [if_neg h, if_neg (by omega)]
  intro i
  have h := key ws.length (Nat.le_refl _) i
  unfold gpL
  rw [h]
  by_cases hi : i < ws.length
  · rw [if_pos hi]
  · rw [if_neg hi, List.getD_eq_getElem?_getD, List.getElem?_eq_none (by omega)]
    simp
theorem look_goR (B : Str → Nat) (r : Nat) (x : Str) : ∀ ss : List Stp, lookD (goR B ss) [.inl (r : Int), .inr x] = (lookS ss r x).map fun ws => .lst (goL ws (B x / ws.sum))
  | [] => rfl
  | s :: ss => by
    have ih := look_goR B r x ss
    show lookD ((kRS s, _) :: goR B ss) _ = _
    rw [lookD_cons]
    unfold lookS
    rw [List.find?_cons]
    by_cases h : keyS s = (r, x)
    · have h1 : s.1 = r := congrArg Prod.fst h
      have h2 : s.2.1 = x := congrArg Prod.snd h
      rw [if_pos (show kRS s = _ by unfold kRS; rw [h1, h2]), decide_eq_true h, ← h2]
      rfl
    · rw [if_neg (fun e => h (by
        unfold kRS at e
        have e1 := List.cons.inj e
        have e2 := List.cons.inj e1.2
        exact Prod.ext (Int.ofNat.inj (Sum.inl.inj e1.1)) (Sum.inr.inj e2.1))), decide_eq_false h, ih]
      rfl
theorem gonW_len {m : Nat} {ss : List Stp} (hg : Good m ss) (r : Nat) (x : Str) : (gonW ss r x).length ≤ m ∧ (gonW ss r x = [] ∨ ∃ s ∈ ss, s.2.1 = x ∧ s.2.2 = gonW ss r x) := by
  unfold gonW
  cases h : lookS ss r x with
  | none => exact ⟨Nat.zero_le _, .inl rfl⟩
  | some ws =>
    obtain ⟨s, hs, h1, h2, h3⟩ := look_mem h
    refine ⟨?_, .inr ⟨s, hs, h2, h3⟩⟩
    show ws.length ≤ m
    rw [← h3, (hg.ok s hs).ln]
    exact Nat.le_refl _
theorem set_nats {m : Nat} {F : Nat → Nat} {t v : Nat} (ht : t < m) : (gnD m F).set t (.int (v : Nat)) = gnD m fun i => if i = t then v else F i := by
  unfold gnD
  refine List.ext_getElem? fun j => ?_
  rw [List.getElem?_set]
  simp only [List.getElem?_map, List.length_map, List.length_range]
  by_cases hj : j < m
  · rw [List.getElem?_range hj]
    by_cases e : t = j
    · subst e; simp [hj]
    · rw [if_neg e]
      simp only [Option.map_some]
      rw [if_neg (fun z => e z.symm)]
  · rw [List.getElem?_eq_none (by simp; omega)]
    rw [if_neg (by omega)]
    rfl
theorem gonN_succ (ss : List Stp) (k : Nat) (x : Str) (n : Nat → Nat) (to : Nat) : gonN ss (k + 1) x n to = gonN ss k x n to + n k * ((gonW ss k x).getD to 0 * (byM ss x / (gonW ss k x).sum)) := sN_succ _ _
theorem rep_gnD (m : Nat) (ss : List Stp) (x : Str) (n : Nat → Nat) : List.replicate m (D.int 0) = gnD m (gonN ss 0 x n) := by
  have h : (List.range m).map (fun _ => D.int 0) = List.replicate (List.range m).length (D.int 0) := List.map_const'
  rw [List.length_range] at h
  exact h.symm
theorem addP_snoc (c : Nat) (l : List (Nat × Nat)) (e : Nat × Nat) (F : Nat → Nat) : addPl c (l ++ [e]) F = fun i => if i = e.1 then addPl c l F e.1 + c * e.2 else addPl c l F i := by
  rw [addP_app]
  funext i
  show (if i = e.1 then addPl c l F i + c * e.2 else addPl c l F i) = _
  by_cases h : i = e.1
  · rw [if_pos h, if_pos h, h]
  · rw [if_neg h, if_neg h]
theorem pure_Going_gone {T : Cfg} (hG : GngOk T) : ∀ E ds μ P XP, c_Going_gone T ds μ P XP → SV T (t_Going_gone T E) (fun cls dd _ H => E cls dd H) ⟨slots 10 ds, μ⟩ (fnK P XP) := Hd.o (by
 simp (disch :=
 with_unfolding_all
 exact by
  rintro E ds μ P XP ⟨s, b, r, m, N, hb, b0, ss, n, x, rfl, g, hg, sn, nb, bb, p⟩
  have m12 := hg.m12
  have props := byM_props sn.n0 ss fun z hz => ⟨(hg.ok z hz).ps, sn.dv z hz⟩
  obtain ⟨kvs, gb, hB⟩ := g.by_
  unfold t_Going_gone
  refine sv_seq (sv_asgG (is := [4] ++ ([5] ++ [])) (ev_var rfl (gv_tup rfl (gvs_cons (gv_name (gvs_cons (gv_name (gvs_nil ?_))))))))
  refine seqK_nx (sv_wkR (s := ⟨_, _⟩) (ρ' := [some (.ptr s), none, some (.str x), none, some (.lst (gnD m n)), some (.int (b0 : Nat)), none, none, none, none]) (by walk_at "le") ?_)
  dsimp only
  refine sv_seq (sv_asg (ev_op ?_))
  walk_at "pks"
  refine ev_gf hG rfl g.self rfl hG.n1 ?_
  refine ov_repM1 (by omega) fun L hL => ?_
  rw [rep_gnD m ss x n]
  have Lr : r ≠ L := fun e => by rw [← e, g.rows] at hL; cases hL
  have Ls : s ≠ L := fun e => by rw [← e, g.self] at hL; cases hL
  have Lb : b ≠ L := fun e => by rw [← e, gb] at hL; cases hL
  refine seqK_nx (sv_seq (sv_forX2 (X := Unit) (fun _ _ => [some (.ptr s), none, some (.str x), some (.ptr L), some (.lst (gnD m n)), some (.int (b0 : Nat)), none, none, none, none]) (fun k _ μ' => μ' = put μ L (.lst (gnD m (gonN ss k x n)))) (iv_enum (ea_cons (ev_var rfl (ea_nil ?_))))))
  refine ⟨_, _, rfl, .inl rfl, (), by walk_at "le", rfl, fun k _ μ' hk hJ => ?_, fun s' _ hr hJ => ?_⟩
  · subst hJ
    have hk : k < m := by simpa [gnD] using hk
    refine ⟨_, _, rfl, ?_⟩
    rw [nth_of (d := .int (n k : Nat)) (by unfold gnD; rw [List.getElem?_map, List.getElem?_range hk]; rfl)]
    dsimp only [List.set]
    refine sv_if ?_
    walk_at "pks"
    refine ⟨fun h => ?_, fun h => ?_⟩
    · have m1 : put μ L (.lst (gnD m (gonN ss k x n))) s = some (.ins 7 (goF m b r)) := by rw [put_ne Ls]; exact g.self
      have m2 : put μ L (.lst (gnD m (gonN ss k x n))) r = some (.dT (goR (byM ss) ss)) := by rw [put_ne Lr]; exact g.rows
      obtain ⟨wl, wc⟩ := gonW_len hg k x
      refine sv_forX2 (X := Unit) (fun _ _ => [some (.ptr s), none, some (.str x), some (.ptr L), some (.lst (gnD m n)), some (.int (b0 : Nat)), some (.int (k : Nat)), some (.int (n k : Nat)), none, none]) (fun j _ μ' => μ' = put μ L (.lst (gnD m (addPl (n k) ((gpL (gonW ss k x) (byM ss x / (gonW ss k x).sum)).take j) (gonN ss k x n))))) (iv_list ?_)
      refine ev_get2OT (ev_gf hG rfl m1 rfl hG.n3 ⟨r, _, rfl, m2, ev_tupK ?_⟩)
      walk_at "pks"
      refine ⟨[.inl (k : Int), .inr x], rfl, by simp, ?_⟩
      refine ev_lst (ea_nil ⟨by simp, ?_⟩)
      refine ⟨_, _, rfl, m2, ?_⟩
      have eV : (lookD (goR (byM ss) ss) [.inl (k : Int), .inr x]).getD (.lst []) = .lst ((gpL (gonW ss k x) (byM ss x / (gonW ss k x).sum)).map fun e => .tup [.int (e.1 : Nat), .int (e.2 : Nat)]) := by
        rw [look_goR, ← goL_gp]
        unfold gonW
        cases lookS ss k x <;> rfl
      rw [eV]
      generalize hl : gpL (gonW ss k x) (byM ss x / (gonW ss k x).sum) = l
      refine ⟨_, .inl rfl, (), by walk_at "le", rfl, fun j _ μ' hj hJ => ?_, fun s' _ hr hJ => ?_⟩
      · subst hJ
        have hj : j < l.length := by simpa using hj
        have hle : l[j]? = some l[j] := List.getElem?_eq_getElem hj
        have hlm := List.getElem_mem hj
        have et : l.take (j + 1) = l.take j ++ [l[j]] := by rw [List.take_succ, hle]; rfl
        rw [nth_of (d := .tup [.int (l[j].1 : Nat), .int (l[j].2 : Nat)]) (by rw [List.getElem?_map, hle]; rfl)]
        generalize l[j] = e at hle hlm et
        rw [← hl] at hlm
        obtain ⟨e1, e2⟩ := gp_mem hlm
        have em : e.1 < m := Nat.lt_of_lt_of_le e1 wl
        have vb : Bt 700 ((e.2 : Nat) : Int) := by
          rw [e2]
          rcases wc with w0 | ⟨z, hz, zx, zw⟩
          · rw [w0] at e1; simp at e1
          · have h1 : (gonW ss k x).getD e.1 0 ≤ (gonW ss k x).sum := by
              rw [List.getD_eq_getElem?_getD, List.getElem?_eq_getElem e1]
              exact le_sumH _ _ (List.getElem_mem e1)
            have h2 : (gonW ss k x).sum ∣ byM ss x := by rw [← zw, ← zx]; exact props.2 z hz
            have h3 : (gonW ss k x).getD e.1 0 * (byM ss x / (gonW ss k x).sum) ≤ byM ss x := Nat.le_trans (Nat.mul_le_mul_right _ h1) (Nat.le_of_eq (Nat.mul_div_cancel' h2))
            show _ < 2 ^ 700
            exact Nat.lt_of_le_of_lt h3 (Nat.lt_of_lt_of_le (bt_dvd sn.nb sn.h6 sn.n0 (props.1 x).2) (Nat.pow_le_pow_right (by decide) (by decide)))
        refine ⟨_, _, rfl, ?_⟩
        dsimp only [List.set]
        refine sv_augL (ev_var rfl (ev_var rfl ?_))
        refine ⟨L, _, _, e.1, _, rfl, put_same, rfl, ixn (by unfold gnD; rw [List.length_map, List.length_range]; exact em), at_n (a := .int (addPl (n k) (l.take j) (gonN ss k x n) e.1 : Nat)) (by unfold gnD; rw [List.getElem?_map, List.getElem?_range em]; rfl), ?_⟩
        walk_at "pks"
        have nbk : Bt 4000 ((n k : Nat) : Int) := nb k hk
        refine ov_mul (Bt.ok nbk vb (by decide)) ?_
        refine ⟨_, _, e.1, put_same, rfl, ixn (by unfold gnD; rw [List.length_map, List.length_range]; exact em), (), by walk_at "le", ?_⟩
        dsimp only
        rw [put_put, ← Int.natCast_mul, ← Int.natCast_add, set_nats em, et, addP_snoc]
      · refine ⟨(), leR.trans (by walk_at "le") hr, ?_⟩
        dsimp only
        have hJ : s'.m = _ := hJ
        rw [List.length_map, List.take_length] at hJ
        rw [hJ]
        refine congrArg (fun f => put μ L (.lst (gnD m f))) (funext fun to => ?_)
        rw [← hl, addP_gp, gonN_succ]
    · have h : n k = 0 := by
        have := of_decide_eq_false h
        omega
      refine sv_next ⟨(), by walk_at "le", ?_⟩
      dsimp only
      refine congrArg (fun f => put μ L (.lst (gnD m f))) (funext fun to => ?_)
      rw [gonN_succ, h]
      simp
  · obtain ⟨ρ, μ'⟩ := s'
    have hJ : μ' = put μ L (.lst (gnD m (gonN ss m x n))) := by
      have h : μ' = _ := hJ
      simpa [gnD] using h
    refine seqK_nx (sv_wkR (s := ⟨_, _⟩) hr ?_)
    dsimp only
    subst hJ
    refine sv_frz (i := 3) rfl put_same ?_
    dsimp only [List.set]
    rw [del_put hL]
    refine sv_ret (ev_tup (ea_cons (ev_var rfl (ea_cons (ev_op (ev_var rfl ?_))))))
    refine ev_get2O (ev_gf hG rfl g.self rfl hG.n2 ⟨b, _, rfl, gb, ev_var rfl ?_⟩)
    refine ev_int ⟨kvs, .inr x, rfl, gb, ?_⟩
    rw [show valD kvs (.inr x) = lookD kvs (.inr x) from rfl, hB x]
    refine ov_mul (Bt.ok (n := 4000) (m := 600) bb (bt_dvd sn.nb sn.h6 sn.n0 (props.1 x).2) (by decide)) (ea_nil ⟨by simp, ?_⟩)
    rw [← Int.natCast_mul]
    exact p
 ) only [↓hE])
def rS (m : Nat) (f : Nat → Rat) : Rat := ((List.range m).map f).sum
theorem rS_succ (m : Nat) (f : Nat → Rat) : rS (m + 1) f = rS m f + f m := sum_range_succ f m
theorem rS_congr {m : Nat} {f g : Nat → Rat} (h : ∀ i, i < m → f i = g i) : rS m f = rS m g := by
  induction m with
  | zero => rfl
  | succ m ih => rw [rS_succ, rS_succ, ih fun i hi => h i (by omega), h m (by omega)]
theorem rS_add (m : Nat) (f g : Nat → Rat) : rS m (fun i => f i + g i) = rS m f + rS m g := by
  induction m with
  | zero => show (0 : Rat) = 0 + 0; grind
  | succ m ih => rw [rS_succ, rS_succ, rS_succ, ih]; grind
theorem rS_mul (m : Nat) (c : Rat) (f : Nat → Rat) : rS m (fun i => c * f i) = c * rS m f := by
  induction m with
  | zero => show (0 : Rat) = c * 0; grind
  | succ m ih => rw [rS_succ, rS_succ, ih]; grind
theorem rS_zero (m : Nat) : rS m (fun _ => 0) = 0 := by
  induction m with
  | zero => rfl
  | succ m ih => rw [rS_succ, ih]; grind
theorem rS_swap (m n : Nat) (f : Nat → Nat → Rat) : rS m (fun i => rS n fun j => f i j) = rS n fun j => rS m fun i => f i j := by
  induction m with
  | zero => exact (rS_zero n).symm
  | succ m ih =>
    rw [rS_succ, ih, ← rS_add]
    exact rS_congr fun j _ => (rS_succ m _).symm
theorem sN_cast (m : Nat) (n : Nat → Nat) : ((sumNt m n : Nat) : Rat) = rS m fun i => ((n i : Nat) : Rat) := by
  induction m with
  | zero => rfl
  | succ m ih =>
    rw [sN_succ, rS_succ, ← ih]
    exact Rat.natCast_add _ _
def gonS (m : Nat) (ss : List Stp) (w : List Str) (n : Nat → Nat) : Nat → Nat := w.foldl (fun n x => gonN ss m x n) n
def gonB (ss : List Stp) (w : List Str) : Nat := w.foldl (fun b x => b * byM ss x) 1
def gonF (m : Nat) (ss : List Stp) (w : List Str) : Nat → Nat := gonS m ss w fun i => if i = 0 then 1 else 0
theorem gonB_mul (ss : List Stp) : ∀ (w : List Str) (b : Nat), w.foldl (fun b x => b * byM ss x) b = b * gonB ss w
  | [], b => (Nat.mul_one b).symm
  | x :: w, b => by
    have h1 := gonB_mul ss w (b * byM ss x)
    have h2 := gonB_mul ss w (1 * byM ss x)
    show w.foldl _ (b * byM ss x) = b * w.foldl _ (1 * byM ss x)
    rw [h1, h2, Nat.one_mul, Nat.mul_assoc]
theorem gonB_cons (ss : List Stp) (x : Str) (w : List Str) : gonB ss (x :: w) = byM ss x * gonB ss w := by
  have := gonB_mul ss w (1 * byM ss x)
  rw [Nat.one_mul] at this
  exact (show gonB ss (x :: w) = w.foldl (fun b x => b * byM ss x) (1 * byM ss x) from rfl).trans (by rw [Nat.one_mul]; exact this)
theorem gonB_snoc (ss : List Stp) (w : List Str) (x : Str) : gonB ss (w ++ [x]) = gonB ss w * byM ss x := by
  unfold gonB
  rw [List.foldl_append]
  rfl
theorem gonF_snoc (m : Nat) (ss : List Stp) (w : List Str) (x : Str) : gonF m ss (w ++ [x]) = gonN ss m x (gonF m ss w) := by
  unfold gonF gonS
  rw [List.foldl_append]
  rfl
section
variable {m N hb : Nat} {ss : List Stp}
theorem by_at (sn : SumN ss N hb) (hg : Good m ss) : (∀ x, 0 < byM ss x ∧ byM ss x ∣ N) ∧ ∀ s ∈ ss, s.2.2.sum ∣ byM ss s.2.1 := byM_props sn.n0 ss fun z hz => ⟨(hg.ok z hz).ps, sn.dv z hz⟩
theorem gon_one (sn : SumN ss N hb) (hg : Good m ss) (x : Str) (c : List Rat) (r : Nat) :
    rS m (fun t => (((gonW ss r x).getD t 0 * (byM ss x / (gonW ss r x).sum) : Nat) : Rat) * c.getD t 0) = (byM ss x : Rat) * stepQ ss x c r := by
  unfold stepQ gonW
  cases e : lookS ss r x with
  | none =>
    dsimp only
    rw [rS_congr (g := fun _ => 0) (fun i _ => by
      rw [show ((none : Option (List Nat)).getD []).getD i 0 = 0 from rfl, Nat.zero_mul]
      exact Rat.zero_mul _), rS_zero, Rat.mul_zero]
  | some ws =>
    obtain ⟨s, hs, h1, h2, h3⟩ := look_mem e
    have ho := hg.ok s hs
    have hd := (by_at sn hg).2 s hs
    rw [h2, h3] at hd
    have hl : ws.length = m := by rw [← h3]; exact ho.ln
    have hp : 0 < ws.sum := by rw [← h3]; exact ho.ps
    dsimp only [Option.getD_some]
    unfold ledQ
    rw [hl]
    show _ = _ * rS m _
    rw [← rS_mul]
    refine rS_congr fun i _ => ?_
    unfold wtQ
    rw [wt_cast]
    obtain ⟨k, hk⟩ := hd
    rw [hk, Nat.mul_div_cancel_left k hp, Rat.natCast_mul, Rat.natCast_mul]
    have hz : (ws.sum : Rat) ≠ 0 := by
      intro z
      have := Rat.natCast_inj.1 (z.trans (show (0 : Rat) = ((0 : Nat) : Rat) from rfl))
      omega
    grind
theorem gon_main (sn : SumN ss N hb) (hg : Good m ss) : ∀ (w : List Str) (n : Nat → Nat), rS m (fun i => ((gonS m ss w n i : Nat) : Rat)) = (gonB ss w : Rat) * rS m fun i => ((n i : Nat) : Rat) * (chL m ss w).getD i 0
  | [], n => by
    show rS m _ = ((1 : Nat) : Rat) * _
    rw [show ((1 : Nat) : Rat) = 1 from rfl, Rat.one_mul]
    refine rS_congr fun i hi => ?_
    show ((n i : Nat) : Rat) = (n i : Rat) * ((List.range m).map fun _ => (1 : Rat)).getD i 0
    rw [getD_range, if_pos hi, Rat.mul_one]
  | x :: w, n => by
    have ih := gon_main sn hg w (gonN ss m x n)
    rw [gonB_cons, show gonS m ss (x :: w) n = gonS m ss w (gonN ss m x n) from rfl, ih]
    have h1 : rS m (fun i => ((gonN ss m x n i : Nat) : Rat) * (chL m ss w).getD i 0) = (byM ss x : Rat) * rS m fun i => ((n i : Nat) : Rat) * (chL m ss (x :: w)).getD i 0 := by
      have e1 : ∀ i, ((gonN ss m x n i : Nat) : Rat) * (chL m ss w).getD i 0 = rS m fun r => (n r : Rat) * ((((gonW ss r x).getD i 0 * (byM ss x / (gonW ss r x).sum) : Nat) : Rat) * (chL m ss w).getD i 0) := fun i => by
        unfold gonN
        rw [sN_cast, Rat.mul_comm, ← rS_mul]
        refine rS_congr fun r _ => ?_
        rw [Rat.natCast_mul]
        grind
      rw [rS_congr fun i _ => e1 i, rS_swap, ← rS_mul]
      refine rS_congr fun r hr => ?_
      rw [rS_mul, gon_one sn hg x _ r]
      show _ = _ * (_ * ((List.range m).map (stepQ ss x (chL m ss w))).getD r 0)
      rw [getD_range, if_pos hr]
      grind
    rw [h1, Rat.natCast_mul]
    grind
theorem gon_ch (sn : SumN ss N hb) (hg : Good m ss) (w : List Str) : ((sumNt m (gonF m ss w) : Nat) : Rat) = (gonB ss w : Rat) * chQ m ss w := by
  rw [sN_cast]
  unfold gonF
  rw [gon_main sn hg]
  congr 1
  have m1 := hg.m1
  have key : ∀ k, 0 < k → rS k (fun i => (((if i = 0 then 1 else 0 : Nat)) : Rat) * (chL m ss w).getD i 0) = (chL m ss w).getD 0 0 := fun k => by
    induction k with
    | zero => intro h; omega
    | succ k ih =>
      intro _
      rw [rS_succ]
      by_cases h : k = 0
      · subst h
        show (0 : Rat) + ((1 : Nat) : Rat) * _ = _
        rw [show ((1 : Nat) : Rat) = 1 from rfl]
        grind
      · rw [ih (by omega), if_neg h]
        rw [show ((0 : Nat) : Rat) = 0 from rfl]
        grind
  exact key m (by omega)
theorem gonB_ok (sn : SumN ss N hb) (hg : Good m ss) : ∀ w : List Str, 0 < gonB ss w ∧ gonB ss w ∣ N ^ w.length
  | [] => ⟨Nat.one_pos, Nat.dvd_refl _⟩
  | x :: w => by
    have ih := gonB_ok sn hg w
    have hx := (by_at sn hg).1 x
    rw [gonB_cons, List.length_cons, Nat.pow_succ, Nat.mul_comm (N ^ _)]
    exact ⟨Nat.mul_pos hx.1 ih.1, Nat.mul_dvd_mul hx.2 ih.2⟩
theorem ch_u (hg : Good m ss) (w : List Str) : U01 (chQ m ss w) := by
  refine getD_u (fun q hq => (chL_ok hg w q hq).1) 0
theorem gonB_le (sn : SumN ss N hb) (hg : Good m ss) (w : List Str) : sumNt m (gonF m ss w) ≤ gonB ss w := by
  have h := gon_ch sn hg w
  have u := ch_u hg w
  have b0 : (0 : Rat) ≤ (gonB ss w : Rat) := Rat.natCast_nonneg
  have : ((sumNt m (gonF m ss w) : Nat) : Rat) ≤ (gonB ss w : Rat) := by
    rw [h]
    have := Rat.mul_le_mul_of_nonneg_left u.2 b0
    rwa [Rat.mul_one] at this
  exact Rat.natCast_le_natCast.1 this
theorem le_sN {m : Nat} {n : Nat → Nat} {i : Nat} (h : i < m) : n i ≤ sumNt m n := by
  induction m with
  | zero => omega
  | succ m ih =>
    rw [sN_succ]
    by_cases e : i = m
    · subst e; omega
    · have := ih (by omega); omega
theorem gon_q (sn : SumN ss N hb) (hg : Good m ss) (w : List Str) : Rat.divInt ((sumNt m (gonF m ss w) : Nat) : Int) ((gonB ss w : Nat) : Int) = chQ m ss w := by
  rw [wt_cast, gon_ch sn hg w]
  have := (gonB_ok sn hg w).1
  have hz : (gonB ss w : Rat) ≠ 0 := by
    intro z
    have := Rat.natCast_inj.1 (z.trans (show (0 : Rat) = ((0 : Nat) : Rat) from rfl))
    omega
  grind
theorem ch_dv (sn : SumN ss N hb) (hg : Good m ss) (w : List Str) : Dv (N ^ w.length) (chQ m ss w) := by
  rw [← gon_q sn hg w]
  exact (Dv.frac (gonB_ok sn hg w).1).up (gonB_ok sn hg w).2 (Nat.pow_pos sn.n0)
end
def absQ (q : Rat) : Rat := if q < 0 then -q else q
def valW (f : Rat) (m m' : Nat) (s1 s2 : List Stp) (w : List Str) : Rat := f ^ w.length * absQ (chQ m s1 w - chQ m' s2 w)
def wds (L : List Str) : Nat → List (List Str)
  | 0 => [[]]
  | k + 1 => (wds L k).flatMap fun w => L.map fun x => w ++ [x]
def bst (V : List Str → Rat) (ws : List (List Str)) (a : Rat × List Str) : Rat × List Str := ws.foldl (fun a w => if a.1 < V w then (V w, w) else a) a
def farW (V : List Str → Rat) (L : List Str) : Nat → Rat × List Str
  | 0 => (0, [])
  | k + 1 => bst V (wds L (k + 1)) (farW V L k)
structure SgOf (Q : Str → Prop) (L : List Str) : Prop where
  nd : L.Nodup
  mem : ∀ k, k ∈ L ↔ Q k
  so : L.Pairwise TxtLe
def sgB (s1 s2 : List Stp) (x : Str) : Prop := x ∈ (s1.map fun s => s.2.1) ∨ x ∈ s2.map fun s => s.2.1
structure FwOk (f : Rat) (m m' : Nat) (s1 s2 : List Stp) (N hb : Nat) : Prop where
  g1 : Good m s1
  g2 : Good m' s2
  f0 : 0 < f
  f1 : f < 1
  fb : Bq 60 f
  n1 : SumN s1 N hb
  n2 : SumN s2 N hb
  h3 : hb ≤ 300
  few : ∃ xs : List Str, xs.length ≤ 3 ∧ ∀ x, sgB s1 s2 x → x ∈ xs
def c_signs_of (T : Cfg) : PC := fun ds P _ => ∃ (m : Nat) (ss : List Stp), ds = [maD m ss] ∧ Good m ss ∧ ∀ L, SgOf (fun x => x ∈ ss.map fun s => s.2.1) L → P (.lst (L.map D.str))
def c_check_words (T : Cfg) : PC := fun ds P _ => ∃ (f : Rat) (m m' N hb l : Nat) (s1 s2 : List Stp), ds = [shD f, maD m s1, maD m' s2, .int (l : Nat)] ∧ FwOk f m m' s1 s2 N hb ∧ l ≤ 6 ∧ P .non
theorem len_signs_of {T : Cfg} : ∀ ds μ P XP, pu (c_signs_of T) ds μ P XP → ds.length = 1 := by
  rintro ds μ P XP ⟨rfl, Pf, Xf, ⟨m, ss, rfl, _⟩, _⟩; rfl
theorem len_check_words {T : Cfg} : ∀ ds μ P XP, pu (c_check_words T) ds μ P XP → ds.length = 4 := by
  rintro ds μ P XP ⟨rfl, Pf, Xf, ⟨f, m, m', N, hb, l, s1, s2, rfl, _⟩, _⟩; rfl
def t_signs_of (T : Cfg) (E : XK) : TS := (tRet (tSortSetT T.K (tLc (iList T.K (tFld T.K (tVar 0) "steps")) (gTup T.K 3 (gCons (gName 1) (gCons (gName 2) (gCons (gName 3) gNil)))) tYes (tVar 2) [1, 2, 3])))
def t_check_words (T : Cfg) (E : XK) : TS := (tSeq (tDrop (tCall (spOf T (pu (c_check_fade T))) [] E0 (tCons (tVar 0) tNil)))
    (tSeq (tDrop (tCall (spOf T (pu (c_check_depth T))) [] E0 (tCons (tVar 3) (tCons (tC (.int 6)) tNil))))
    (tIfS (tTest (tOp (rI0 fun i j => .bl (decide (j < i))) (tLenSetT T.K (tOp rCat (tCall (spOf T (pu (c_signs_of T))) [] E0 (tCons (tVar 1) tNil)) (tCall (spOf T (pu (c_signs_of T))) [] E0 (tCons (tVar 2) tNil)))) (tC (.int 3)))) tNevS tNext)))
theorem abs_eq (q : Rat) : Rat.divInt ((q.num.natAbs : Nat) : Int) (q.den : Int) = absQ q := by
  unfold absQ
  by_cases h : q < 0
  · rw [if_pos h]
    have hn : q.num < 0 := by
      have := (Rat.lt_iff q 0).1 h
      simpa using this
    rw [show ((q.num.natAbs : Nat) : Int) = -q.num by omega, ← Rat.neg_divInt, Rat.num_divInt_den]
  · rw [if_neg h]
    have hn : 0 ≤ q.num := Rat.num_nonneg.2 (Rat.not_lt.1 h)
    rw [show ((q.num.natAbs : Nat) : Int) = q.num by omega, Rat.num_divInt_den]
theorem abs_u {p q : Rat} (h : U01 p) (k : U01 q) : U01 (absQ (p - q)) := by
  unfold absQ
  obtain ⟨h1, h2⟩ := h
  obtain ⟨k1, k2⟩ := k
  split
  · constructor <;> grind
  · constructor <;> grind
theorem dv_sub {N : Nat} {p q : Rat} (h : Dv N p) (k : Dv N q) : Dv N (p - q) := by
  obtain ⟨h0, i, hi⟩ := h
  obtain ⟨_, j, hj⟩ := k
  exact ⟨h0, i - j, by rw [Rat.intCast_sub, ← hi, ← hj]; grind⟩
theorem dv_negB {N : Nat} {q : Rat} (k : Dv N q) : Dv N (-q) := by
  obtain ⟨h0, j, hj⟩ := k
  exact ⟨h0, -j, by rw [Rat.intCast_neg, ← hj]; grind⟩
theorem dv_abs {N : Nat} {q : Rat} (h : Dv N q) : Dv N (absQ q) := by
  unfold absQ
  split
  · exact dv_negB h
  · exact h
theorem bq_powf {f : Rat} {n : Nat} (h : Bq n f) : ∀ k : Nat, Bq (k * (n + 1) + 1) (f ^ k)
  | 0 => by rw [Rat.pow_zero]; exact bq01.mono (by omega)
  | k + 1 => by
    rw [Rat.pow_succ, show (k + 1) * (n + 1) + 1 = (k * (n + 1) + 1) + n + 1 by rw [Nat.succ_mul]; omega]
    exact bq_mul (bq_powf h k) h
theorem pow_u {f : Rat} (h : U01 f) : ∀ k : Nat, U01 (f ^ k)
  | 0 => by rw [Rat.pow_zero]; exact u1
  | k + 1 => by rw [Rat.pow_succ]; exact u_mul (pow_u h k) h
theorem wds_len (L : List Str) : ∀ k, (wds L k).length = L.length ^ k
  | 0 => rfl
  | k + 1 => by
    show ((wds L k).flatMap fun w => L.map fun x => w ++ [x]).length = _
    rw [List.length_flatMap, Nat.pow_succ, ← wds_len L k]
    generalize wds L k = l
    induction l with
    | nil => simp
    | cons a l ih =>
      rw [List.map_cons, List.sum_cons, ih, List.length_map, List.length_cons, Nat.succ_mul]
      omega
theorem wds_mem {L : List Str} : ∀ {k : Nat} {w : List Str}, w ∈ wds L k ↔ w.length = k ∧ ∀ x ∈ w, x ∈ L
  | 0, w => by
    show w ∈ [[]] ↔ _
    rw [List.mem_singleton]
    constructor
    · rintro rfl; exact ⟨rfl, fun x h => nomatch h⟩
    · rintro ⟨h, _⟩; exact List.eq_nil_of_length_eq_zero h
  | k + 1, w => by
    show w ∈ (wds L k).flatMap (fun w => L.map fun x => w ++ [x]) ↔ _
    rw [List.mem_flatMap]
    constructor
    · rintro ⟨v, hv, hw⟩
      obtain ⟨x, hx, rfl⟩ := List.mem_map.1 hw
      obtain ⟨h1, h2⟩ := wds_mem.1 hv
      refine ⟨by rw [List.length_append, h1]; rfl, fun y hy => ?_⟩
      rcases List.mem_append.1 hy with h | h
      · exact h2 y h
      · rw [List.mem_singleton.1 h]; exact hx
    · rintro ⟨h1, h2⟩
      have hne : w ≠ [] := fun e => by rw [e] at h1; simp at h1
      refine ⟨w.dropLast, wds_mem.2 ⟨by rw [List.length_dropLast, h1]; rfl, fun x hx => h2 x ((List.dropLast_sublist w).mem hx)⟩, List.mem_map.2 ⟨w.getLast hne, h2 _ (List.getLast_mem hne), List.dropLast_concat_getLast hne⟩⟩
section
variable {f : Rat} {m m' N hb : Nat} {s1 s2 : List Stp}
theorem FwOk.val (A : FwOk f m m' s1 s2 N hb) {w : List Str} (h : w.length ≤ 6) : Bq 1801 (absQ (chQ m s1 w - chQ m' s2 w)) ∧ Bq 2200 (valW f m m' s1 s2 w) ∧ U01 (valW f m m' s1 s2 w) := by
  have u := abs_u (ch_u A.g1 w) (ch_u A.g2 w)
  have d := dv_abs (dv_sub (ch_dv A.n1 A.g1 w) (ch_dv A.n2 A.g2 w))
  have hN : N ^ w.length < 2 ^ 1801 := by
    have h1 : N ^ w.length ≤ (2 ^ hb) ^ w.length := Nat.pow_le_pow_left (Nat.le_of_lt A.n1.nb) _
    have h2 : (2 ^ hb) ^ w.length ≤ 2 ^ 1800 := by
      rw [← Nat.pow_mul]
      refine Nat.pow_le_pow_right (by decide) ?_
      have := Nat.mul_le_mul A.h3 h
      omega
    exact Nat.lt_of_le_of_lt (Nat.le_trans h1 h2) (Nat.pow_lt_pow_right (by decide) (by decide))
  have b := d.bq u hN
  refine ⟨b, ?_, u_mul (pow_u ⟨Rat.le_of_lt A.f0, Rat.le_of_lt A.f1⟩ _) u⟩
  exact (bq_mul (bq_powf A.fb w.length) b).mono (by omega)
theorem bst_snoc (V : List Str → Rat) (ws : List (List Str)) (w : List Str) (a : Rat × List Str) : bst V (ws ++ [w]) a = if (bst V ws a).1 < V w then (V w, w) else bst V ws a := by
  unfold bst
  rw [List.foldl_append]
  rfl
theorem bst_inv {V : List Str → Rat} {Q : Rat × List Str → Prop} : ∀ (ws : List (List Str)) (a : Rat × List Str), Q a → (∀ w ∈ ws, Q (V w, w)) → Q (bst V ws a)
  | [], a, h, _ => h
  | w :: ws, a, h, k => by
    show Q (bst V ws (if a.1 < V w then (V w, w) else a))
    refine bst_inv ws _ ?_ fun v hv => k v (List.mem_cons_of_mem _ hv)
    split
    · exact k w List.mem_cons_self
    · exact h
theorem far_inv {V : List Str → Rat} {L : List Str} {Q : Rat × List Str → Prop} (h0 : Q (0, [])) : ∀ l : Nat, (∀ w : List Str, w.length ≤ l → (∀ x ∈ w, x ∈ L) → Q (V w, w)) → Q (farW V L l)
  | 0, _ => h0
  | l + 1, h => bst_inv _ _ (far_inv h0 l fun w hw => h w (by omega)) fun w hw => h w (by rw [(wds_mem.1 hw).1]; exact Nat.le_refl _) (wds_mem.1 hw).2
end
theorem sg_len {s1 s2 : List Stp} {L : List Str} (h : SgOf (sgB s1 s2) L) {xs : List Str} (k : ∀ x, sgB s1 s2 x → x ∈ xs) : L.length ≤ xs.length := by
  refine nodup_len h.nd fun x hx => k x ((h.mem x).1 hx)
theorem pure_signs_of {T : Cfg} (hT : MaOk T) : ∀ E ds μ P XP, pu (c_signs_of T) ds μ P XP → SV T (t_signs_of T E) (fun cls dd _ H => E cls dd H) ⟨slots 4 ds, μ⟩ (fnK P XP) := Hd.o (by
 simp (disch :=
 with_unfolding_all
 exact by
  rintro E ds μ P XP ⟨rfl, Pf, Xf, ⟨m, ss, rfl, hg, p⟩, hP, hX⟩
  have hl := hg.ln
  unfold t_signs_of
  refine sv_ret (ev_sortSetT (ev_lcF3 (ev_steps hT ?_)))
  walk_at "pks"
  refine ⟨m, ss, rfl, ?_⟩
  refine ⟨ss.map stpD, fun e => match e with | .tup [_, x, _] => x | d => d, .inl rfl, by rw [List.length_map]; omega, fun e he => ?_, ?_⟩
  · obtain ⟨s, hs, rfl⟩ := List.mem_map.1 he
    refine ⟨_, _, _, rfl, ?_⟩
    walk_at "pks"
    exact ⟨rfl, rfl⟩
  · rw [List.map_map]
    refine ⟨ss.map fun s => s.2.1, .inl ?_, by rw [List.length_map]; omega, fun L nd mem so => hP _ (p L ⟨nd, mem, so⟩)⟩
    rw [List.map_map]
    rfl
 ) only [↓hE])
theorem pure_check_words {T : Cfg} (hT : MaOk T) : ∀ E ds μ P XP, pu (c_check_words T) ds μ P XP → SV T (t_check_words T E) (fun cls dd _ H => E cls dd H) ⟨slots 4 ds, μ⟩ (fnK P XP) := Hd.o (by
 simp (disch :=
 with_unfolding_all
 exact by
  rintro E ds μ P XP ⟨rfl, Pf, Xf, ⟨f, m, m', N, hb, l, s1, s2, rfl, A, hl, p⟩, hP, hX⟩
  obtain ⟨xs, x3, hx⟩ := A.few
  have hl1 := A.g1.ln
  have hl2 := A.g2.ln
  unfold t_check_words
  walk_at "pks"
  refine ⟨f, rfl, A.fb.mono (by decide), A.f0, A.f1, ?_⟩
  walk_at "pks"
  refine ⟨l, 6, rfl, hl, ?_⟩
  walk_at "pks"
  refine ev_lenSetT (ev_op ?_)
  walk_at "pks"
  refine ⟨m, s1, rfl, A.g1, fun L1 h1 => ?_⟩
  walk_at "pks"
  refine ⟨m', s2, rfl, A.g2, fun L2 h2 => ?_⟩
  have n1 := nodup_len h1.nd fun x hx => (h1.mem x).1 hx
  have n2 := nodup_len h2.nd fun x hx => (h2.mem x).1 hx
  rw [List.length_map] at n1 n2
  refine ov_cat (by simp; omega) ?_
  rw [← List.map_append]
  refine ⟨L1 ++ L2, .inl rfl, by rw [List.length_append]; omega, fun L nd mem => ?_⟩
  have n3 : L.length ≤ xs.length := nodup_len nd fun x h => hx x (by
    rcases List.mem_append.1 ((mem x).1 h) with h | h
    · exact .inl ((h1.mem x).1 h)
    · exact .inr ((h2.mem x).1 h))
  walk_at "pks"
  refine ⟨fun h => ?_, fun h => ?_⟩
  · have := of_decide_eq_true h
    omega
  · walk_at "pks"
    exact hP _ p
 ) only [↓hE])
def rwD (m m' : Nat) (s1 s2 : List Stp) (w : List Str) : D := .tup [.lst (w.map D.str), sprD m (gonF m s1 w) (gonB s1 w), sprD m' (gonF m' s2 w) (gonB s2 w)]
theorem gon_lt {m N hb : Nat} {ss : List Stp} (sn : SumN ss N hb) (hg : Good m ss) (h3 : hb ≤ 300) {w : List Str} (h : w.length ≤ 6) : gonB ss w < 2 ^ 1801 := by
  have h0 := Nat.le_of_dvd (Nat.pow_pos sn.n0) (gonB_ok sn hg w).2
  have h1 : N ^ w.length ≤ (2 ^ hb) ^ w.length := Nat.pow_le_pow_left (Nat.le_of_lt sn.nb) _
  have h2 : (2 ^ hb) ^ w.length ≤ 2 ^ 1800 := by
    rw [← Nat.pow_mul]
    refine Nat.pow_le_pow_right (by decide) ?_
    have := Nat.mul_le_mul h3 h
    omega
  exact Nat.lt_of_le_of_lt (Nat.le_trans h0 (Nat.le_trans h1 h2)) (Nat.pow_lt_pow_right (by decide) (by decide))
theorem ch_bq {m N hb : Nat} {ss : List Stp} (sn : SumN ss N hb) (hg : Good m ss) (h3 : hb ≤ 300) {w : List Str} (h : w.length ≤ 6) : Bq 1801 (chQ m ss w) := by
  have b0 := (gonB_ok sn hg w).1
  have d : Dv (gonB ss w) (chQ m ss w) := by
    rw [← gon_q sn hg w]
    exact Dv.frac b0
  exact d.bq (ch_u hg w) (gon_lt sn hg h3 h)
theorem abs_den (q : Rat) : (absQ q).den = q.den := by
  unfold absQ
  split
  · exact Rat.neg_den q
  · rfl
theorem up18 {a : Nat} (h : a < 2 ^ 1801) : a < 2 ^ 4000 := Nat.lt_of_lt_of_le h (Nat.pow_le_pow_right (by decide) (by decide))
theorem GM.ne {μ : Mu} {s b r q : Addr} {m : Nat} {ss : List Stp} (g : GM μ s b r m ss) (h : μ q = none) (o : MO) : GM (put μ q o) s b r m ss :=
  g.imp fun a z hz => by rw [put_ne (fun e => by rw [e, h] at hz; cases hz)]; exact hz
theorem sv_forY3 {T : Cfg} {W : WX} {ρ : List (Option D)} {m0 : Mu} {K : Out → Prop} {u : TS} {X : Type} (R : Nat → X → List (Option D)) (J : Nat → X → Mu → Prop) {wi : TI} {i j l : Nat} (h : IV T wi W ⟨ρ, m0⟩ (fun n f μ => ∃ x0, leR (R 0 x0) ρ ∧ J 0 x0 μ ∧ (∀ k x μ', k < n → J k x μ' → ∃ y z w, f k = .tup [y, z, w] ∧ SV T u W ⟨(((R k x).set i (some y)).set j (some z)).set l (some w), μ'⟩ (forK (InvX R J) k K)) ∧ ∀ s' x, leR (R n x) s'.r → J n x s'.m → K (.nx s')) (xk ⟨ρ, m0⟩ K)) : SV T (tFor wi (gTup T.K 3 (gCons (gName i) (gCons (gName j) (gCons (gName l) gNil)))) u) W ⟨ρ, m0⟩ K :=
  sv_for (is := [i] ++ ([j] ++ ([l] ++ []))) (fun σ Hb H Q S q x => h σ Hb H Q S (fun jj n f μ Hb' H' g ok p => q jj n f μ Hb' H' g ok (by
    obtain ⟨x0, hle, j0, turn, done⟩ := p
    refine ⟨InvX R J, ⟨x0, hle, j0⟩, fun k s' hk ⟨x, hl, hj⟩ => ?_, fun s' ⟨x, hl, hj⟩ => done s' x hl hj⟩
    obtain ⟨y, z, w, e, t⟩ := turn k x s'.m hk hj
    rw [e]
    exact gv_tup rfl (gvs_cons (gv_name (gvs_cons (gv_name (gvs_cons (gv_name (gvs_nil (sv_wk (((hl.set _ _).set _ _).set _ _) sub_refl t)))))))))) x)
end Far
namespace Pw
open PySem PySem.Spec PyProof.Rows L2
end Pw
namespace Far
open PySem PySem.Spec PyProof.Rows L2 Pw
open FM (Bq)
inductive Row where
  | one | can (s : Str) | on (s : Str) (i : Nat) | neg (i : Nat) | lss (i : Nat) (q : Rat) | both (i j : Nat) | eith (i j : Nat)
def Row.ok (at_ : Nat) : Row → Prop
  | .one => True
  | .can s => nmB s = true
  | .on s i => nmB s = true ∧ i < at_
  | .neg i => i < at_
  | .lss i q => i < at_ ∧ Bq 20 q ∧ 0 ≤ q ∧ q ≤ 1
  | .both i j => i < at_ ∧ j < at_
  | .eith i j => i < at_ ∧ j < at_
def RowsOk (rs : List Row) : Prop := ∀ (k : Nat) (r : Row), rs[k]? = some r → r.ok k
def dep (f : List Nat) : Row → Nat
  | .one => 0
  | .can _ => 1
  | .on _ i => f.getD i 0 + 1
  | .neg i => f.getD i 0
  | .lss i _ => f.getD i 0
  | .both i j => max (f.getD i 0) (f.getD j 0)
  | .eith i j => max (f.getD i 0) (f.getD j 0)
def deps (rs : List Row) : List Nat := rs.foldl (fun f r => f ++ [dep f r]) []
theorem deps_snoc (rs : List Row) (r : Row) : deps (rs ++ [r]) = deps rs ++ [dep (deps rs) r] := by
  unfold deps
  rw [List.foldl_append]
  rfl
theorem deps_len (rs : List Row) : (deps rs).length = rs.length := by
  unfold deps
  have : ∀ (rs : List Row) (f : List Nat), (rs.foldl (fun f r => f ++ [dep f r]) f).length = f.length + rs.length := by
    intro rs
    induction rs with
    | nil => intro f; simp
    | cons r rs ih => intro f; rw [List.foldl_cons, ih]; simp; omega
  rw [this]
  simp
end Far
namespace Pw
open PySem PySem.Spec PyProof.Rows L2
def ro (k : Nat) (c : List D → (D → Prop) → (XD → Prop) → Prop) : Ct := fun ds μ P XP => ∃ a xs, ds[k]? = some (.ptr a) ∧ μ = put mu0 a (.lst xs) ∧ ∃ Pf Xf, c (ds.set k (.lst xs)) Pf Xf ∧ (∀ d, Pf d → P d (put mu0 a (.lst xs))) ∧ ∀ x, Xf x → XP x (put mu0 a (.lst xs))
end Pw
namespace Far
open PySem PySem.Spec PyProof.Rows L2 Pw
open FM (Bq)
def onQ (f : Rat) (ss : List Stp) (x : Str) (qs : List Rat) (r : Nat) : Rat := match lookS ss r x with
  | none => 0
  | some ws => f * ledQ ws qs
def canQ (ss : List Stp) (x : Str) (r : Nat) : Rat := if (lookS ss r x).isSome then 1 else 0
def mostQ (p q : Rat) : Rat := if p < q then q else p
def leastQ (p q : Rat) : Rat := if p < q then p else q
def rowW (f : Rat) (m : Nat) (ss : List Stp) (F : List (List Rat)) : Row → List Rat
  | .one => (List.range m).map fun _ => 1
  | .can x => (List.range m).map (canQ ss x)
  | .on x i => (List.range m).map (onQ f ss x (F.getD i []))
  | .neg i => (F.getD i []).map fun p => 1 - p
  | .lss i q => (F.getD i []).map fun p => mostQ 0 (p - q)
  | .both i j => List.zipWith leastQ (F.getD i []) (F.getD j [])
  | .eith i j => List.zipWith mostQ (F.getD i []) (F.getD j [])
def wL (f : Rat) (m : Nat) (ss : List Stp) (rs : List Row) : List (List Rat) := rs.foldl (fun F r => F ++ [rowW f m ss F r]) []
theorem wL_snoc (f : Rat) (m : Nat) (ss : List Stp) (rs : List Row) (r : Row) : wL f m ss (rs ++ [r]) = wL f m ss rs ++ [rowW f m ss (wL f m ss rs) r] := by
  unfold wL
  rw [List.foldl_append]
  rfl
theorem wL_lenF (f : Rat) (m : Nat) (ss : List Stp) : ∀ (rs : List Row) (F : List (List Rat)), (rs.foldl (fun F r => F ++ [rowW f m ss F r]) F).length = F.length + rs.length := by
  intro rs
  induction rs with
  | nil => intro F; rfl
  | cons r rs ih =>
    intro F
    rw [List.foldl_cons, ih, List.length_append, List.length_cons]
    simp
    omega
theorem wL_len (f : Rat) (m : Nat) (ss : List Stp) (rs : List Row) : (wL f m ss rs).length = rs.length := by
  unfold wL
  rw [wL_lenF]
  simp
def Row.plain : Row → Prop
  | .both _ _ => False
  | .eith _ _ => False
  | _ => True
end Far
namespace Pw
open PySem PySem.Spec PyProof.Rows L2
open Evl (ex_l ex_t)
end Pw
namespace Far
open PySem PySem.Spec PyProof.Rows L2 Pw
open FM (Bq)
def Row.cst : Row → Nat
  | .on _ _ => 32
  | .lss _ _ => 20
  | _ => 0
end Far
namespace Pw
open PySem PySem.Spec PyProof.Rows L2
end Pw
namespace Far
open PySem PySem.Spec PyProof.Rows L2 Pw
open FM (Bq)
theorem Bq.nu {n : Nat} {q : Rat} (h : Bq n q) : Bt n q.num := h.1
theorem num_den (q : Rat) : (q.num : Rat) = q * (q.den : Rat) := by
  have h1 := Rat.num_divInt_den q
  rw [Rat.divInt_eq_div] at h1
  have h2 : ((q.den : Int) : Rat) = (q.den : Rat) := rfl
  have h3 : (q.den : Rat) ≠ 0 := fun e => by have := Rat.natCast_eq_zero_iff.1 e; have := q.den_pos; omega
  rw [h2] at h1
  conv => rhs; lhs; rw [← h1]
  grind
theorem low_get {ws : List Nat} (h : 0 < ws.sum) {w : Nat} (hw : w ∈ ws) : gcdL ws * (w / gcdL ws) = w := Nat.mul_div_cancel' (gcdL_dvd hw)
theorem sum_low {ws : List Nat} (h : 0 < ws.sum) : gcdL ws * (low ws).sum = ws.sum := by
  have key : ∀ l : List Nat, (∀ w ∈ l, w ∈ ws) → gcdL ws * (l.map (· / gcdL ws)).sum = l.sum := by
    intro l
    induction l with
    | nil => intro _; simp
    | cons a l ih =>
      intro hl
      rw [List.map_cons, List.sum_cons, List.sum_cons, Nat.mul_add, low_get h (hl a (by simp)), ih fun w hw => hl w (by simp [hw])]
  exact key ws fun _ h => h
theorem wtQ_low {ws : List Nat} (h : 0 < ws.sum) (j : Nat) : wtQ (low ws) j = wtQ ws j := by
  unfold wtQ
  have g0 := gcdL_pos h
  have e : (low ws).getD j 0 = ws.getD j 0 / gcdL ws := by
    rw [List.getD_eq_getElem?_getD, List.getD_eq_getElem?_getD]
    unfold low
    rw [List.getElem?_map]
    cases ws[j]? with
    | none => simp
    | some w => rfl
  have e2 : gcdL ws * (low ws).getD j 0 = ws.getD j 0 := by
    rw [e, List.getD_eq_getElem?_getD]
    cases hw : ws[j]? with
    | none => simp
    | some w => exact low_get h (List.mem_of_getElem? hw)
  have e3 : ((ws.getD j 0 : Nat) : Int) = (gcdL ws : Int) * (((low ws).getD j 0 : Nat) : Int) := by rw [← Int.natCast_mul, e2]
  have e4 : ((ws.sum : Nat) : Int) = (gcdL ws : Int) * (((low ws).sum : Nat) : Int) := by rw [← Int.natCast_mul, sum_low h]
  rw [e3, e4]
  exact (Rat.divInt_mul_left (by omega)).symm
theorem find_nd {ss : List Stp} (hn : (ss.map keyS).Nodup) {s : Stp} (hs : s ∈ ss) : lookS ss s.1 s.2.1 = some s.2.2 := by
  unfold lookS
  have : ss.find? (fun t => decide (keyS t = (s.1, s.2.1))) = some s := by
    induction ss with
    | nil => cases hs
    | cons t ss ih =>
      rw [List.map_cons, List.nodup_cons] at hn
      rw [List.find?_cons]
      rcases List.mem_cons.1 hs with rfl | hs
      · have e : decide (keyS s = (s.1, s.2.1)) = true := decide_eq_true rfl
        rw [e]
      · have hne : ¬ keyS t = (s.1, s.2.1) := fun e => hn.1 (by rw [e]; exact List.mem_map.2 ⟨s, hs, rfl⟩)
        rw [decide_eq_false hne]
        exact ih hn.2 hs
  rw [this]
  rfl
theorem look_none {ss : List Stp} {r : Nat} {x : Str} (h : (r, x) ∉ ss.map keyS) : lookS ss r x = none := by
  cases e : lookS ss r x with
  | none => rfl
  | some ws =>
    obtain ⟨s, hs, e1, e2, _⟩ := look_mem e
    exact absurd (List.mem_map.2 ⟨s, hs, Prod.ext e1 e2⟩) h
theorem look_mk {m : Nat} {ss : List Stp} (h : Good m ss) (r : Nat) (x : Str) : lookS (mkS ss) r x = (lookS ss r x).map low := by
  by_cases hm : (r, x) ∈ ss.map keyS
  · obtain ⟨s, hs, e⟩ := List.mem_map.1 hm
    have e1 : s.1 = r := congrArg Prod.fst e
    have e2 : s.2.1 = x := congrArg Prod.snd e
    have h1 := find_nd h.nd hs
    have h2 : lowS s ∈ mkS ss := (mk_perm ss).mem_iff.2 (List.mem_map.2 ⟨s, hs, rfl⟩)
    have h3 := find_nd h.made.nd h2
    have h3 : lookS (mkS ss) s.1 s.2.1 = some (low s.2.2) := h3
    rw [e1, e2] at h1 h3
    rw [h1, h3]
    rfl
  · rw [look_none hm, look_none (by rw [((mk_perm ss).map keyS).mem_iff, keyS_low]; exact hm)]
    rfl
theorem led_low {ws : List Nat} {qs : List Rat} (h : 0 < ws.sum) : ledQ (low ws) qs = ledQ ws qs := by
  unfold ledQ
  rw [low_len]
  congr 1
  exact List.map_congr_left fun k _ => by rw [wtQ_low h]
theorem Dv.neg' {N : Nat} {q : Rat} (h : Dv N q) : Dv N (-q) := by
  obtain ⟨h0, i, hi⟩ := h
  exact ⟨h0, -i, by rw [Rat.intCast_neg, ← hi]; grind⟩
theorem Dv.sub {N : Nat} {p q : Rat} (h : Dv N p) (k : Dv N q) : Dv N (p - q) := by
  have := h.add k.neg'
  rwa [← Rat.sub_eq_add_neg] at this
theorem Dv.self (q : Rat) : Dv q.den q := ⟨q.den_pos, q.num, (num_den q).symm⟩
open PySem PySem.Spec PyProof.Rows L2 Pw Cg
def Clo (m1 m2 : Nat) (t : Nat → Nat → Rat) (w1 w2 : List Rat) : Prop := ∀ x y, x < m1 → y < m2 → w1.getD x 0 - w2.getD y 0 ≤ t x y ∧ w2.getD y 0 - w1.getD x 0 ≤ t x y
theorem getD_mapQ {l : List Rat} {g : Rat → Rat} {x : Nat} (h : x < l.length) : (l.map g).getD x 0 = g (l.getD x 0) := by
  rw [List.getD_eq_getElem?_getD, List.getElem?_map, List.getElem?_eq_getElem h, List.getD_eq_getElem?_getD, List.getElem?_eq_getElem h]
  rfl
theorem getD_zipQ {l k : List Rat} {g : Rat → Rat → Rat} {x : Nat} (h : x < l.length) (h' : x < k.length) : (List.zipWith g l k).getD x 0 = g (l.getD x 0) (k.getD x 0) := by
  rw [List.getD_eq_getElem?_getD, List.getElem?_zipWith, List.getElem?_eq_getElem h, List.getElem?_eq_getElem h', List.getD_eq_getElem?_getD, List.getD_eq_getElem?_getD, List.getElem?_eq_getElem h, List.getElem?_eq_getElem h']
  rfl
theorem led_hp {m : Nat} {ss : List Stp} (hg : Good m ss) {r : Nat} {a : Str} (h : a ∈ menuS ss r) (qs : List Rat) : ledQ (gonW ss r a) qs = sm m fun k => qs.getD k 0 * hpF ss r a k := by
  obtain ⟨_, l, _, _⟩ := heap_gon hg h
  unfold ledQ
  rw [l]
  exact sm_congr fun k _ => Rat.mul_comm _ _
section
variable {f : Rat} {m1 m2 : Nat} {s1 s2 : List Stp}
theorem clo_on (g1 : Good m1 s1) (g2 : Good m2 s2) (hf : U01 f) {a : Str} {q1 q2 : List Rat} (u1' : ∀ q ∈ q1, U01 q) (u2' : ∀ q ∈ q2, U01 q) {t t' : Nat → Nat → Rat} (hc : Clo m1 m2 t' q1 q2) (ht : ∀ x y, x < m1 → y < m2 → Stp1 f m1 m2 s1 s2 t' x y (t x y)) (h0 : ∀ x y, x < m1 → y < m2 → 0 ≤ t x y) (x y : Nat) (hx : x < m1) (hy : y < m2) : onQ f s1 a q1 x - onQ f s2 a q2 y ≤ t x y ∧ onQ f s2 a q2 y - onQ f s1 a q1 x ≤ t x y := by
  have uo : ∀ {m : Nat} {ss : List Stp} (_ : Good m ss) (r : Nat) {qs : List Rat}, (∀ q ∈ qs, U01 q) → U01 (onQ f ss a qs r) := fun {m ss} hg r {qs} hq => by
    unfold onQ
    cases e : lookS ss r a with
    | none => exact u0
    | some ws =>
      obtain ⟨s, hs, _, _, rfl⟩ := look_mem e
      exact u_mul hf (led_u (hg.ok s hs).ps hq)
  have o1 := uo g1 x u1'
  have o2 := uo g2 y u2'
  rcases ht x y hx hy with ⟨_, e⟩ | ⟨em, gg, hg, e⟩
  · rw [e]
    have := o1.1; have := o1.2; have := o2.1; have := o2.2
    exact ⟨by grind, by grind⟩
  · by_cases ha : a ∈ menuS s1 x
    · have hb : a ∈ menuS s2 y := em ▸ ha
      have e1 : onQ f s1 a q1 x = f * sm m1 fun k => q1.getD k 0 * hpF s1 x a k := by unfold onQ; rw [look_gon ha]; exact congrArg (f * ·) (led_hp g1 ha q1)
      have e2 : onQ f s2 a q2 y = f * sm m2 fun k => q2.getD k 0 * hpF s2 y a k := by unfold onQ; rw [look_gon hb]; exact congrArg (f * ·) (led_hp g2 hb q2)
      obtain ⟨π, p, q, o, ev⟩ := hg a ha
      have h1 := o.most (p' := fun k => q1.getD k 0) (q' := fun k => q2.getD k 0) fun u v hu hv => (hc u v hu hv).1
      have h2 := o.most (p' := fun k => -(q1.getD k 0)) (q' := fun k => -(q2.getD k 0)) fun u v hu hv => by
        have := (hc u v hu hv).2
        grind
      have hle : f * gg a ≤ t x y := by
        rw [e]
        exact grt_le (List.mem_map.2 ⟨a, ha, rfl⟩)
      unfold brou at h1 h2
      have n1 : (sm m1 fun k => -(q1.getD k 0) * hpF s1 x a k) = -(sm m1 fun k => q1.getD k 0 * hpF s1 x a k) := by
        have := sm_mul m1 (-1) (fun k => q1.getD k 0 * hpF s1 x a k)
        rw [show (sm m1 fun k => -(q1.getD k 0) * hpF s1 x a k) = sm m1 fun k => -1 * (q1.getD k 0 * hpF s1 x a k) from sm_congr fun k _ => by grind, this]
        grind
      have n2 : (sm m2 fun k => -(q2.getD k 0) * hpF s2 y a k) = -(sm m2 fun k => q2.getD k 0 * hpF s2 y a k) := by
        have := sm_mul m2 (-1) (fun k => q2.getD k 0 * hpF s2 y a k)
        rw [show (sm m2 fun k => -(q2.getD k 0) * hpF s2 y a k) = sm m2 fun k => -1 * (q2.getD k 0 * hpF s2 y a k) from sm_congr fun k _ => by grind, this]
        grind
      rw [n1, n2] at h2
      rw [← ev] at h1 h2
      rw [e1, e2]
      generalize (sm m1 fun k => q1.getD k 0 * hpF s1 x a k) = A at *
      generalize (sm m2 fun k => q2.getD k 0 * hpF s2 y a k) = B at *
      have k1 := Rat.mul_le_mul_of_nonneg_left h1 hf.1
      have k2 := Rat.mul_le_mul_of_nonneg_left h2 hf.1
      exact ⟨by grind, by grind⟩
    · have hb : a ∉ menuS s2 y := em ▸ ha
      have e1 : onQ f s1 a q1 x = 0 := by unfold onQ; rw [look_no ha]
      have e2 : onQ f s2 a q2 y = 0 := by unfold onQ; rw [look_no hb]
      rw [e1, e2]
      have := h0 x y hx hy
      exact ⟨by grind, by grind⟩
theorem can_iff (ss : List Stp) (a : Str) (r : Nat) : canQ ss a r = if a ∈ menuS ss r then 1 else 0 := by
  unfold canQ
  by_cases h : a ∈ menuS ss r
  · rw [look_gon h, if_pos h]
    rfl
  · rw [look_no h, if_neg h]
    rfl
theorem lf_app {α : Type} (l : List α) (a d : α) (k : Nat) : (l ++ [a]).getD k d = if k < l.length then l.getD k d else if k = l.length then a else d := by
  rw [List.getD_eq_getElem?_getD, List.getD_eq_getElem?_getD]
  by_cases h : k < l.length
  · rw [List.getElem?_append_left h, if_pos h]
  · rw [if_neg h, List.getElem?_append_right (by omega)]
    by_cases e : k = l.length
    · rw [if_pos e, e, Nat.sub_self]
      rfl
    · rw [if_neg e, List.getElem?_eq_none (by simp; omega)]
      rfl
theorem within (g1 : Good m1 s1) (g2 : Good m2 s2) (hf : U01 f) : ∀ n (rs : List Row), rs.length = n → RowsOk rs → (∀ qs ∈ wL f m1 s1 rs, qs.length = m1 ∧ ∀ q ∈ qs, U01 q) → (∀ qs ∈ wL f m2 s2 rs, qs.length = m2 ∧ ∀ q ∈ qs, U01 q) → ∀ k, k < n → ∀ t, Dep f m1 m2 s1 s2 ((deps rs).getD k 0) t → Clo m1 m2 t ((wL f m1 s1 rs).getD k []) ((wL f m2 s2 rs).getD k []) := by
  intro n
  induction n with
  | zero => intro _ _ _ _ _ k hk; exact absurd hk (Nat.not_lt_zero k)
  | succ n ih =>
    intro rs hl hok h1 h2 k hk t ht
    obtain ⟨rs', r, rfl⟩ : ∃ rs' r, rs = rs' ++ [r] := by
      rcases List.eq_nil_or_concat rs with e | ⟨a, b, e⟩
      · rw [e] at hl; cases hl
      · exact ⟨a, b, e.trans (List.concat_eq_append ..)⟩
    have hl' : rs'.length = n := by simpa using hl
    have hr : r.ok n := by
      have := hok rs'.length r (by simp)
      rw [hl'] at this
      exact this
    have hok' : RowsOk rs' := fun i q e => hok i q (by rw [List.getElem?_append_left (List.getElem?_eq_some_iff.1 e).1]; exact e)
    rw [wL_snoc] at h1 h2 ⊢
    rw [wL_snoc, lf_app, lf_app, wL_len, wL_len, hl']
    rw [deps_snoc, lf_app, deps_len, hl'] at ht
    have h1' : ∀ qs ∈ wL f m1 s1 rs', qs.length = m1 ∧ ∀ q ∈ qs, U01 q := fun qs hq => h1 qs (List.mem_append_left _ hq)
    have h2' : ∀ qs ∈ wL f m2 s2 rs', qs.length = m2 ∧ ∀ q ∈ qs, U01 q := fun qs hq => h2 qs (List.mem_append_left _ hq)
    have ih := ih rs' hl' hok' h1' h2'
    by_cases hkn : k < n
    · rw [if_pos hkn, if_pos hkn]
      rw [if_pos hkn] at ht
      exact ih k hkn t ht
    · have ek : k = n := by omega
      rw [if_neg hkn, if_pos ek, if_neg hkn, if_pos ek]
      rw [if_neg hkn, if_pos ek] at ht
      have bd := ht.bd g1 hf
      have at1 : ∀ i, i < n → ((wL f m1 s1 rs').getD i []).length = m1 ∧ ∀ q ∈ (wL f m1 s1 rs').getD i [], U01 q := fun i hi => by
        have hi' : i < (wL f m1 s1 rs').length := by rw [wL_len, hl']; exact hi
        rw [List.getD_eq_getElem?_getD, List.getElem?_eq_getElem hi']
        exact h1' _ (List.getElem_mem hi')
      have at2 : ∀ i, i < n → ((wL f m2 s2 rs').getD i []).length = m2 ∧ ∀ q ∈ (wL f m2 s2 rs').getD i [], U01 q := fun i hi => by
        have hi' : i < (wL f m2 s2 rs').length := by rw [wL_len, hl']; exact hi
        rw [List.getD_eq_getElem?_getD, List.getElem?_eq_getElem hi']
        exact h2' _ (List.getElem_mem hi')
      intro x y hx hy
      have txy := bd x y hx hy
      cases r with
      | one =>
        have e1 : (rowW f m1 s1 (wL f m1 s1 rs') .one).getD x 0 = 1 := by
          show ((List.range m1).map fun _ => (1 : Rat)).getD x 0 = 1
          rw [getD_range, if_pos hx]
        have e2 : (rowW f m2 s2 (wL f m2 s2 rs') .one).getD y 0 = 1 := by
          show ((List.range m2).map fun _ => (1 : Rat)).getD y 0 = 1
          rw [getD_range, if_pos hy]
        rw [e1, e2]
        have := txy.1
        exact ⟨by grind, by grind⟩
      | can a =>
        show ((List.range m1).map (canQ s1 a)).getD x 0 - ((List.range m2).map (canQ s2 a)).getD y 0 ≤ _ ∧ ((List.range m2).map (canQ s2 a)).getD y 0 - ((List.range m1).map (canQ s1 a)).getD x 0 ≤ _
        rw [getD_range, getD_range, if_pos hx, if_pos hy, can_iff, can_iff]
        obtain ⟨t', _, hs⟩ := ht
        rcases hs x y hx hy with ⟨_, e⟩ | ⟨em, _⟩
        · rw [e]
          refine ⟨?_, ?_⟩ <;> split <;> split <;> grind
        · rw [em]
          have := txy.1
          exact ⟨by grind, by grind⟩
      | on a i =>
        obtain ⟨_, hi⟩ := hr
        obtain ⟨t', h', hs⟩ := ht
        show ((List.range m1).map (onQ f s1 a ((wL f m1 s1 rs').getD i []))).getD x 0 - ((List.range m2).map (onQ f s2 a ((wL f m2 s2 rs').getD i []))).getD y 0 ≤ _ ∧ ((List.range m2).map (onQ f s2 a ((wL f m2 s2 rs').getD i []))).getD y 0 - ((List.range m1).map (onQ f s1 a ((wL f m1 s1 rs').getD i []))).getD x 0 ≤ _
        rw [getD_range, getD_range, if_pos hx, if_pos hy]
        exact clo_on g1 g2 hf (at1 i hi).2 (at2 i hi).2 (ih i hi t' h') hs (fun x y hx hy => (bd x y hx hy).1) x y hx hy
      | neg i =>
        have hi : i < n := hr
        have hc := ih i hi t ht x y hx hy
        show (((wL f m1 s1 rs').getD i []).map fun p => 1 - p).getD x 0 - (((wL f m2 s2 rs').getD i []).map fun p => 1 - p).getD y 0 ≤ _ ∧ (((wL f m2 s2 rs').getD i []).map fun p => 1 - p).getD y 0 - (((wL f m1 s1 rs').getD i []).map fun p => 1 - p).getD x 0 ≤ _
        rw [getD_mapQ (by rw [(at1 i hi).1]; exact hx), getD_mapQ (by rw [(at2 i hi).1]; exact hy)]
        obtain ⟨c1, c2⟩ := hc
        exact ⟨by grind, by grind⟩
      | lss i q =>
        obtain ⟨hi, _⟩ := hr
        have hc := ih i hi t ht x y hx hy
        show (((wL f m1 s1 rs').getD i []).map fun p => mostQ 0 (p - q)).getD x 0 - (((wL f m2 s2 rs').getD i []).map fun p => mostQ 0 (p - q)).getD y 0 ≤ _ ∧ (((wL f m2 s2 rs').getD i []).map fun p => mostQ 0 (p - q)).getD y 0 - (((wL f m1 s1 rs').getD i []).map fun p => mostQ 0 (p - q)).getD x 0 ≤ _
        rw [getD_mapQ (by rw [(at1 i hi).1]; exact hx), getD_mapQ (by rw [(at2 i hi).1]; exact hy)]
        obtain ⟨c1, c2⟩ := hc
        have := txy.1
        unfold mostQ
        refine ⟨?_, ?_⟩ <;> split <;> split <;> grind
      | both i j =>
        obtain ⟨hi, hj⟩ := hr
        obtain ⟨ti, di, li⟩ := ht.down g1 hf (Nat.le_max_left _ _)
        obtain ⟨tj, dj, lj⟩ := ht.down g1 hf (Nat.le_max_right _ _)
        have c1 := ih i hi ti di x y hx hy
        have c2 := ih j hj tj dj x y hx hy
        have l1 := li x y hx hy
        have l2 := lj x y hx hy
        show (List.zipWith leastQ ((wL f m1 s1 rs').getD i []) ((wL f m1 s1 rs').getD j [])).getD x 0 - (List.zipWith leastQ ((wL f m2 s2 rs').getD i []) ((wL f m2 s2 rs').getD j [])).getD y 0 ≤ _ ∧ (List.zipWith leastQ ((wL f m2 s2 rs').getD i []) ((wL f m2 s2 rs').getD j [])).getD y 0 - (List.zipWith leastQ ((wL f m1 s1 rs').getD i []) ((wL f m1 s1 rs').getD j [])).getD x 0 ≤ _
        rw [getD_zipQ (by rw [(at1 i hi).1]; exact hx) (by rw [(at1 j hj).1]; exact hx), getD_zipQ (by rw [(at2 i hi).1]; exact hy) (by rw [(at2 j hj).1]; exact hy)]
        obtain ⟨c11, c12⟩ := c1
        obtain ⟨c21, c22⟩ := c2
        unfold leastQ
        refine ⟨?_, ?_⟩ <;> split <;> split <;> grind
      | eith i j =>
        obtain ⟨hi, hj⟩ := hr
        obtain ⟨ti, di, li⟩ := ht.down g1 hf (Nat.le_max_left _ _)
        obtain ⟨tj, dj, lj⟩ := ht.down g1 hf (Nat.le_max_right _ _)
        have c1 := ih i hi ti di x y hx hy
        have c2 := ih j hj tj dj x y hx hy
        have l1 := li x y hx hy
        have l2 := lj x y hx hy
        show (List.zipWith mostQ ((wL f m1 s1 rs').getD i []) ((wL f m1 s1 rs').getD j [])).getD x 0 - (List.zipWith mostQ ((wL f m2 s2 rs').getD i []) ((wL f m2 s2 rs').getD j [])).getD y 0 ≤ _ ∧ (List.zipWith mostQ ((wL f m2 s2 rs').getD i []) ((wL f m2 s2 rs').getD j [])).getD y 0 - (List.zipWith mostQ ((wL f m1 s1 rs').getD i []) ((wL f m1 s1 rs').getD j [])).getD x 0 ≤ _
        rw [getD_zipQ (by rw [(at1 i hi).1]; exact hx) (by rw [(at1 j hj).1]; exact hx), getD_zipQ (by rw [(at2 i hi).1]; exact hy) (by rw [(at2 j hj).1]; exact hy)]
        obtain ⟨c11, c12⟩ := c1
        obtain ⟨c21, c22⟩ := c2
        unfold mostQ
        refine ⟨?_, ?_⟩ <;> split <;> split <;> grind
end
end Far
namespace Pw
open PySem PySem.Spec PyProof.Rows L2
open Evl (Ex ex_l ex_t)
end Pw
namespace Far
open PySem PySem.Spec PyProof.Rows L2 Pw Cg
open FM (Bq)
theorem txt_anti {x y : Str} (h : TxtLe x y) (k : TxtLe y x) : x = y := by
  unfold TxtLe at h k
  have e : PySem.W.dataLe false PyData.str = fun a b : Str => decide (a.cps.toList ≤ b.cps.toList) := PySem.W.dataLe_str fun z => z
  rw [e] at h k
  have := List.le_antisymm (of_decide_eq_true h) (of_decide_eq_true k)
  cases x
  cases y
  congr 1
  exact Array.ext' this
theorem SgOf.uniq {Q R : Str → Prop} {L M : List Str} (h : SgOf Q L) (k : SgOf R M) (e : ∀ x, Q x ↔ R x) : L = M := by
  refine List.Perm.eq_of_pairwise (le := TxtLe) (fun a b _ _ h1 h2 => txt_anti h1 h2) h.so k.so ((List.perm_ext_iff_of_nodup h.nd k.nd).2 fun x => ?_)
  rw [h.mem, k.mem, e]
def goQ (m : Nat) (ss : List Stp) (x : Str) (q : Nat → Rat) (to : Nat) : Rat := rS m fun r => q r * wtQ (gonW ss r x) to
def spQ (m : Nat) (ss : List Stp) (w : List Str) : Nat → Rat := w.foldl (fun q x => goQ m ss x q) fun r => if r = 0 then 1 else 0
theorem spQ_snoc (m : Nat) (ss : List Stp) (w : List Str) (x : Str) : spQ m ss (w ++ [x]) = goQ m ss x (spQ m ss w) := by
  unfold spQ
  rw [List.foldl_append]
  rfl
theorem wtQ_nil (k : Nat) : wtQ [] k = 0 := by
  unfold wtQ
  simp
section
variable {m N hb : Nat} {ss : List Stp}
theorem goQ_one (hg : Good m ss) (x : Str) (c : List Rat) (r : Nat) : rS m (fun t => wtQ (gonW ss r x) t * c.getD t 0) = stepQ ss x c r := by
  unfold stepQ gonW
  cases e : lookS ss r x with
  | none =>
    rw [rS_congr (g := fun _ => 0) fun i _ => by
      show wtQ [] i * _ = 0
      rw [wtQ_nil, Rat.zero_mul], rS_zero]
  | some ws =>
    obtain ⟨s, hs, h1, h2, h3⟩ := look_mem e
    have hl : ws.length = m := by rw [← h3]; exact (hg.ok s hs).ln
    show rS m (fun t => wtQ ws t * c.getD t 0) = rS ws.length _
    rw [hl]
theorem goQ_main (hg : Good m ss) : ∀ (w : List Str) (q : Nat → Rat), rS m (w.foldl (fun q x => goQ m ss x q) q) = rS m fun r => q r * (chL m ss w).getD r 0
  | [], q => by
    refine rS_congr fun i hi => ?_
    show q i = q i * ((List.range m).map fun _ => (1 : Rat)).getD i 0
    rw [getD_range, if_pos hi, Rat.mul_one]
  | x :: w, q => by
    have ih := goQ_main hg w (goQ m ss x q)
    show rS m (w.foldl _ (goQ m ss x q)) = _
    rw [ih]
    have e1 : ∀ i, goQ m ss x q i * (chL m ss w).getD i 0 = rS m fun r => q r * (wtQ (gonW ss r x) i * (chL m ss w).getD i 0) := fun i => by
      unfold goQ
      rw [Rat.mul_comm, ← rS_mul]
      exact rS_congr fun r _ => by grind
    rw [rS_congr fun i _ => e1 i, rS_swap]
    refine rS_congr fun r hr => ?_
    rw [rS_mul, goQ_one hg]
    show _ = _ * ((List.range m).map (stepQ ss x (chL m ss w))).getD r 0
    rw [getD_range, if_pos hr]
theorem sp_ch (hg : Good m ss) (w : List Str) : rS m (spQ m ss w) = chQ m ss w := by
  unfold spQ
  rw [goQ_main hg]
  have m1 := hg.m1
  have key : ∀ k, 0 < k → rS k (fun i => (if i = 0 then (1 : Rat) else 0) * (chL m ss w).getD i 0) = (chL m ss w).getD 0 0 := fun k => by
    induction k with
    | zero => intro h; omega
    | succ k ih =>
      intro _
      rw [rS_succ]
      by_cases h : k = 0
      · subst h
        show (0 : Rat) + 1 * _ = _
        grind
      · rw [ih (by omega), if_neg h]
        grind
  exact key m (by omega)
structure SpOk (m D : Nat) (q : Nat → Rat) : Prop where
  nn : ∀ r, 0 ≤ q r
  dv : ∀ r, Dv D (q r)
  le : rS m q ≤ 1
theorem rS_nn {m : Nat} {f : Nat → Rat} (h : ∀ i, 0 ≤ f i) : 0 ≤ rS m f := by
  induction m with
  | zero => exact Rat.le_refl
  | succ m ih => rw [rS_succ]; have := h m; grind
theorem rS_le {m : Nat} {f g : Nat → Rat} (h : ∀ i, i < m → f i ≤ g i) : rS m f ≤ rS m g := by
  induction m with
  | zero => exact Rat.le_refl
  | succ m ih =>
    rw [rS_succ, rS_succ]
    have h1 := ih fun i hi => h i (by omega)
    have h2 := h m (by omega)
    grind
theorem rS_mono {m k : Nat} {f : Nat → Rat} (h : ∀ i, 0 ≤ f i) (hk : k ≤ m) : rS k f ≤ rS m f := by
  induction m with
  | zero => have : k = 0 := by omega
            subst this; exact Rat.le_refl
  | succ m ih =>
    by_cases e : k = m + 1
    · subst e; exact Rat.le_refl
    · have h1 := ih (by omega)
      rw [rS_succ]
      have := h m
      grind
theorem rS_at {m i : Nat} {f : Nat → Rat} (h : ∀ i, 0 ≤ f i) (hi : i < m) : f i ≤ rS m f := by
  have h1 := rS_mono (k := i + 1) h hi
  rw [rS_succ] at h1
  have := rS_nn (m := i) h
  grind
theorem rS_dv {m D : Nat} {f : Nat → Rat} (hD : 0 < D) (h : ∀ i, Dv D (f i)) : Dv D (rS m f) := Dv.sum hD fun q hq => by
  obtain ⟨i, _, rfl⟩ := List.mem_map.1 hq
  exact h i
theorem wt_dv (sn : SumN ss N hb) (hg : Good m ss) (r : Nat) (x : Str) (t : Nat) : Dv N (wtQ (gonW ss r x) t) := by
  unfold gonW
  cases e : lookS ss r x with
  | none => rw [show (none : Option (List Nat)).getD [] = [] from rfl, wtQ_nil]; exact Dv.zero sn.n0
  | some ws =>
    obtain ⟨s, hs, h1, h2, h3⟩ := look_mem e
    show Dv N (wtQ ws t)
    rw [← h3]
    exact (wtQ_dv (hg.ok s hs).ps t).up (sn.dv s hs) sn.n0
theorem wt_nn (ws : List Nat) (t : Nat) : 0 ≤ wtQ ws t := wtQ_nonneg ws t
theorem wt_sum (hg : Good m ss) (r : Nat) (x : Str) : rS m (wtQ (gonW ss r x)) ≤ 1 := by
  unfold gonW
  cases e : lookS ss r x with
  | none =>
    rw [show (none : Option (List Nat)).getD [] = [] from rfl, rS_congr (g := fun _ => 0) fun i _ => wtQ_nil i, rS_zero]
    decide
  | some ws =>
    obtain ⟨s, hs, h1, h2, h3⟩ := look_mem e
    have ok := hg.ok s hs
    have hl : ws.length = m := by rw [← h3]; exact ok.ln
    have := wtQ_sum (ws := ws) (by rw [← h3]; exact ok.ps)
    rw [hl] at this
    show rS m (wtQ ws) ≤ 1
    rw [show rS m (wtQ ws) = 1 from this]
    exact Rat.le_refl
theorem goQ_ok {D : Nat} {q : Nat → Rat} (sn : SumN ss N hb) (hg : Good m ss) (h : SpOk m D q) (x : Str) : SpOk m (D * N) (goQ m ss x q) where
  nn := fun t => rS_nn fun r => Rat.mul_nonneg (h.nn r) (wt_nn _ _)
  dv := fun t => rS_dv (Nat.mul_pos (h.dv 0).1 sn.n0) fun r => (h.dv r).mul (wt_dv sn hg r x t)
  le := by
    have e : rS m (goQ m ss x q) = rS m fun r => q r * rS m (wtQ (gonW ss r x)) := by
      unfold goQ
      rw [rS_swap]
      exact rS_congr fun r _ => rS_mul m _ _
    rw [e]
    refine Rat.le_trans (rS_le (g := q) fun r _ => ?_) h.le
    have := Rat.mul_le_mul_of_nonneg_left (wt_sum hg r x) (h.nn r)
    rwa [Rat.mul_one] at this
theorem sp_ok (sn : SumN ss N hb) (hg : Good m ss) : ∀ w : List Str, ∀ {D : Nat} {q : Nat → Rat}, SpOk m D q → SpOk m (D * N ^ w.length) (w.foldl (fun q x => goQ m ss x q) q)
  | [], D, q, h => by rw [List.length_nil, Nat.pow_zero, Nat.mul_one]; exact h
  | x :: w, D, q, h => by
    have := sp_ok sn hg w (goQ_ok sn hg h x)
    rw [List.length_cons, Nat.pow_succ, Nat.mul_comm (N ^ w.length) N, ← Nat.mul_assoc]
    exact this
theorem sp_ok0 (sn : SumN ss N hb) (hg : Good m ss) (w : List Str) : SpOk m (N ^ w.length) (spQ m ss w) := by
  have h0 : SpOk m 1 (fun r => if r = 0 then (1 : Rat) else 0) := by
    refine ⟨fun r => ?_, fun r => ?_, ?_⟩
    · show (0 : Rat) ≤ if r = 0 then 1 else 0
      split <;> decide
    · show Dv 1 (if r = 0 then (1 : Rat) else 0)
      split
      · exact Dv.one (by decide)
      · exact Dv.zero (by decide)
    · have key : ∀ k, rS k (fun r => if r = 0 then (1 : Rat) else 0) ≤ 1 := fun k => by
        induction k with
        | zero => decide
        | succ k ih =>
          rw [rS_succ]
          by_cases h : k = 0
          · subst h
            show (0 : Rat) + 1 ≤ 1
            grind
          · rw [if_neg h]
            grind
      exact key m
  have := sp_ok sn hg w h0
  rwa [Nat.one_mul] at this
theorem chL_mk62 (hg : Good m ss) : ∀ w : List Str, chL m (mkS ss) w = chL m ss w
  | [] => rfl
  | x :: w => by
    show (List.range m).map (stepQ (mkS ss) x (chL m (mkS ss) w)) = (List.range m).map (stepQ ss x (chL m ss w))
    rw [chL_mk62 hg w]
    refine List.map_congr_left fun r _ => ?_
    unfold stepQ
    rw [look_mk hg]
    cases e : lookS ss r x with
    | none => rfl
    | some ws =>
      obtain ⟨s, hs, _, _, rfl⟩ := look_mem e
      exact led_low (hg.ok s hs).ps
end
open PySem PySem.Spec PyProof.Rows L2 Pw
section
variable {f f' : Rat} {m1 m2 : Nat} {s1 s2 : List Stp} {v v' t t' c c' : Nat → Nat → Rat}
theorem Fix.u (g1 : Good m1 s1) (f0 : 0 ≤ f) (f1 : f < 1) (h : Fix f m1 m2 s1 s2 v) : ∀ u w, u < m1 → w < m2 → U01 (v u w) := fun u w hu hw => by
  have f1' := Rat.le_of_lt f1
  refine ⟨?_, ?_⟩
  · rcases h u w hu hw with ⟨_, e⟩ | ⟨_, g, _, e⟩
    · rw [e]; decide
    · rw [e]; exact grt_nn _
  · refine comp2p (x := v) (z := fun _ _ => 1) f0 f1 (fun u w hu hw => ?_) u w hu hw
    rcases h u w hu hw with ⟨_, e⟩ | ⟨em, g, hg, e⟩
    · left; rw [e]; exact Rat.le_refl
    · rcases grt_or ((menuS s1 u).map fun a => f * g a) with e0 | e0
      · left; rw [e, e0]; decide
      · obtain ⟨a, ha, e1⟩ := List.mem_map.1 e0
        obtain ⟨π, p, q, o, eg⟩ := hg a ha
        have ht := plan_tot g1 ha o.plan
        right
        refine ⟨π, ht, ?_⟩
        rw [e, ← e1, eg, cost_cons ht]
        grind
theorem fix_le (g1 : Good m1 s1) (f0 : 0 ≤ f) (f1 : f < 1) (ff : f ≤ f') (h : Fix f m1 m2 s1 s2 v) (h' : Fix f' m1 m2 s1 s2 v') (v0 : ∀ u w, u < m1 → w < m2 → 0 ≤ v' u w) : ∀ u w, u < m1 → w < m2 → v u w ≤ v' u w := fun u w hu hw => by
  refine comp2p (x := v) (z := v') f0 f1 (fun u w hu hw => ?_) u w hu hw
  rcases h u w hu hw with ⟨n, e⟩ | ⟨em, g, hg, e⟩
  · rcases h' u w hu hw with ⟨_, e'⟩ | ⟨em', _⟩
    · left; rw [e, e']; exact Rat.le_refl
    · exact absurd em' n
  · rcases h' u w hu hw with ⟨n, _⟩ | ⟨_, g', hg', e'⟩
    · exact absurd em n
    · rcases grt_or ((menuS s1 u).map fun a => f * g a) with e0 | e0
      · left; rw [e, e0]; exact v0 u w hu hw
      · obtain ⟨a, ha, e1⟩ := List.mem_map.1 e0
        obtain ⟨π, p, q, o, eg⟩ := hg a ha
        obtain ⟨π', p', q', o', eg'⟩ := hg' a ha
        have ht := plan_tot g1 ha o'.plan
        right
        refine ⟨π', ht, ?_⟩
        have h1 : v u w ≤ f * cost m1 m2 v π' := by
          rw [e, ← e1, eg]
          exact Rat.mul_le_mul_of_nonneg_left (o.least o'.plan) f0
        have h2 : f' * cost m1 m2 v' π' ≤ v' u w := by
          rw [e', ← eg']
          exact grt_le (List.mem_map.2 ⟨a, ha, rfl⟩)
        have c0 : 0 ≤ cost m1 m2 v' π' := sm_nn fun x hx => sm_nn fun y hy => Rat.mul_nonneg (v0 x y hx hy) (o'.nn x y hx hy)
        have h3 := Rat.mul_le_mul_of_nonneg_right ff c0
        grind
theorem Fix.uniq (g1 : Good m1 s1) (f0 : 0 ≤ f) (f1 : f < 1) (h : Fix f m1 m2 s1 s2 v) (h' : Fix f m1 m2 s1 s2 v') : ∀ u w, u < m1 → w < m2 → v u w = v' u w := fun u w hu hw =>
  Rat.le_antisymm (fix_le g1 f0 f1 Rat.le_refl h h' (fun u w hu hw => (h'.u g1 f0 f1 u w hu hw).1) u w hu hw) (fix_le g1 f0 f1 Rat.le_refl h' h (fun u w hu hw => (h.u g1 f0 f1 u w hu hw).1) u w hu hw)
theorem Dep.uniq (f0 : 0 ≤ f) : ∀ {k : Nat} {t t' : Nat → Nat → Rat}, Dep f m1 m2 s1 s2 k t → Dep f m1 m2 s1 s2 k t' → ∀ u w, u < m1 → w < m2 → t u w = t' u w
  | 0, t, t', h, h', u, w, hu, hw => by rw [h u w hu hw, h' u w hu hw]
  | k + 1, t, t', ⟨q, hq, hs⟩, ⟨q', hq', hs'⟩, u, w, hu, hw => by
    have e := Dep.uniq f0 hq hq'
    exact Rat.le_antisymm ((hs u w hu hw).mono f0 (hs' u w hu hw) fun x y hx hy => by rw [e x y hx hy]; exact Rat.le_refl) ((hs' u w hu hw).mono f0 (hs u w hu hw) fun x y hx hy => by rw [e x y hx hy]; exact Rat.le_refl)
theorem Stp1.fade (f0 : 0 ≤ f) (ff : f ≤ f') {x y : Nat} {a b : Rat} (h : Stp1 f m1 m2 s1 s2 c x y a) (h' : Stp1 f' m1 m2 s1 s2 c' x y b) (c0 : ∀ u w, u < m1 → w < m2 → 0 ≤ c' u w) (hc : ∀ u w, u < m1 → w < m2 → c u w ≤ c' u w) : a ≤ b := by
  rcases h with ⟨n, rfl⟩ | ⟨em, g, hg, rfl⟩
  · rcases h' with ⟨_, rfl⟩ | ⟨em, _⟩
    · exact Rat.le_refl
    · exact absurd em n
  · rcases h' with ⟨n, _⟩ | ⟨_, g', hg', rfl⟩
    · exact absurd em n
    · refine grt_lt (grt_nn _) fun b hb => ?_
      obtain ⟨z, hz, rfl⟩ := List.mem_map.1 hb
      have h1 := (hg z hz).mono (hg' z hz) hc
      have h2 := Rat.mul_le_mul_of_nonneg_left h1 f0
      obtain ⟨π', p', q', o', eg'⟩ := hg' z hz
      have n0 : 0 ≤ g' z := by rw [eg']; exact o'.nonneg c0
      have h3 := Rat.mul_le_mul_of_nonneg_right ff n0
      have h5 := grt_le (List.mem_map.2 ⟨z, hz, rfl⟩ : f' * g' z ∈ (menuS s1 x).map fun a => f' * g' a)
      grind
theorem Dep.fade (g1 : Good m1 s1) (f0 : 0 ≤ f) (ff : f ≤ f') (f1 : f' ≤ 1) : ∀ {k : Nat} {t t' : Nat → Nat → Rat}, Dep f m1 m2 s1 s2 k t → Dep f' m1 m2 s1 s2 k t' → ∀ u w, u < m1 → w < m2 → t u w ≤ t' u w
  | 0, t, t', h, h', u, w, hu, hw => by rw [h u w hu hw, h' u w hu hw]; exact Rat.le_refl
  | k + 1, t, t', ⟨q, hq, hs⟩, ⟨q', hq', hs'⟩, u, w, hu, hw => (hs u w hu hw).fade f0 ff (hs' u w hu hw) (fun x y hx hy => (hq'.bd g1 ⟨Rat.le_trans f0 ff, f1⟩ x y hx hy).1) fun x y hx hy => Dep.fade g1 f0 ff f1 hq hq' x y hx hy
end
end Far
namespace Pw
open PySem PySem.Spec PyProof.Rows L2
open Evl (Ex ex_l ex_t fresh_back)
end Pw
namespace Far
open PySem PySem.Spec PyProof.Rows L2 Pw
open FM (Bq)
end Far
namespace Pw
open PySem PySem.Spec PyProof.Rows L2
open Evl (Ex ex_l ex_t fresh_back)
end Pw
namespace Far
open PySem PySem.Spec PyProof.Rows L2 Pw
open FM (Bq)
theorem near_good {m B : Nat} {ss : List Stp} {j : Nat} {s : Stp} {W : List Nat} (hg : Good m ss) (hj : ss[j]? = some s) (hl : W.length = m) (h0 : 0 < W.sum) (hW : W.sum ≤ 9 * B + 3) (hB : ∀ s ∈ ss, s.2.2.sum ≤ B) (hB1 : B ≤ 100) : Good m (ss.take j ++ [(s.1, s.2.1, W)] ++ ss.drop (j + 1)) ∧ (ss.take j ++ [(s.1, s.2.1, W)] ++ ss.drop (j + 1)).length = ss.length ∧ ∀ z ∈ ss.take j ++ [(s.1, s.2.1, W)] ++ ss.drop (j + 1), z.2.2.sum ≤ 9 * B + 3 := by
  have hjl := (List.getElem?_eq_some_iff.1 hj).1
  have he := (List.getElem?_eq_some_iff.1 hj).2
  have hs := List.mem_of_getElem? hj
  have hlen : (ss.take j ++ [(s.1, s.2.1, W)] ++ ss.drop (j + 1)).length = ss.length := by
    simp only [List.length_append, List.length_take, List.length_drop, List.length_singleton]
    omega
  have hkey : (ss.take j ++ [(s.1, s.2.1, W)] ++ ss.drop (j + 1)).map keyS = ss.map keyS := by
    have e : ss = ss.take j ++ [s] ++ ss.drop (j + 1) := by
      rw [List.append_assoc]
      show ss = ss.take j ++ (s :: ss.drop (j + 1))
      rw [← he, ← List.drop_eq_getElem_cons hjl, List.take_append_drop]
    conv => rhs; rw [e]
    simp only [List.map_append]
    rfl
  have mem : ∀ z ∈ ss.take j ++ [(s.1, s.2.1, W)] ++ ss.drop (j + 1), z ∈ ss ∨ z = (s.1, s.2.1, W) := fun z hz => by
    rcases List.mem_append.1 hz with h | h
    · rcases List.mem_append.1 h with h | h
      · exact .inl (List.mem_of_mem_take h)
      · exact .inr (List.mem_singleton.1 h)
    · exact .inl (List.mem_of_mem_drop h)
  refine ⟨⟨hg.m1, hg.m12, by rw [hlen]; exact hg.ln, by rw [hkey]; exact hg.nd, fun z hz => ?_⟩, hlen, fun z hz => ?_⟩
  · rcases mem z hz with h | rfl
    · exact hg.ok z h
    · have ok := hg.ok s hs
      refine ⟨ok.rm, ok.nm, hl, h0, fun w hw => ?_⟩
      have h1 := sum_of_mem hw
      have h2 : W.sum ≤ 903 := by omega
      exact Nat.lt_of_le_of_lt (Nat.le_trans h1 h2) (Nat.lt_of_lt_of_le (by decide : 903 < 2 ^ 10) (Nat.pow_le_pow_right (by decide) (by decide)))
  · rcases mem z hz with h | rfl
    · have := hB z h
      omega
    · exact hW
open PySem PySem.Spec PyProof.Rows L2 Pw Cg
theorem Nest.get {μ : Mu} {p : Addr} {qs : List Addr} {rows : List (List D)} (h : Nest μ p qs rows) {i : Nat} {q : Addr} (hq : qs[i]? = some q) : ∃ r, rows[i]? = some r ∧ μ q = some (.lst r) := by
  have hi : i < rows.length := by rw [← h.ln]; exact (List.getElem?_eq_some_iff.1 hq).1
  exact ⟨rows[i], List.getElem?_eq_getElem hi, h.row i q _ hq (List.getElem?_eq_getElem hi)⟩
theorem Nest.imp {μ μ' : Mu} {p : Addr} {qs : List Addr} {rows : List (List D)} (h : Nest μ p qs rows) (k : ∀ a m, μ a = some m → μ' a = some m) : Nest μ' p qs rows :=
  ⟨k _ _ h.top, h.ln, fun i q r x y => k _ _ (h.row i q r x y), h.ne⟩
end Far
namespace Pw
open PySem PySem.Spec PyProof.Rows L2
end Pw
namespace Far
open PySem PySem.Spec PyProof.Rows L2 Pw Cg
open FM (Bq)
end Far
namespace Pw
open PySem PySem.Spec PyProof.Rows L2
open Evl (Ex ex_l ex_t fresh_back)
end Pw
namespace Far
open PySem PySem.Spec PyProof.Rows L2 Pw Cg
open FM (Bq)
section
variable {T : Cfg} {W : WX} {ρ : List (Option D)} {m0 : Mu} {P : D → Mu → Prop} {XP : XW} {te' : TE}
theorem ev_lcX3b {wi : TI} {i j l : Nat} {tt : TT} (h : IV T wi W ⟨ρ, m0⟩ (fun n f μ => n ≤ 100000 ∧ ∃ g : Nat → Option D, (∀ k, k < n → ∃ y z w, f k = .tup [y, z, w] ∧ TV T tt (fun _ _ _ _ => False) ⟨(((wipeD ρ [i, j, l]).set i (some y)).set j (some z)).set l (some w), μ⟩ (fun b μ1 => μ1 = μ ∧ (b = true → EV T te' (fun _ _ _ _ => False) ⟨(((wipeD ρ [i, j, l]).set i (some y)).set j (some z)).set l (some w), μ⟩ (fun z μ2 => g k = some z ∧ μ2 = μ) (fun _ _ => False)) ∧ (b = false → g k = none)) (fun _ _ => False)) ∧ P (.lst ((List.range n).filterMap g)) μ) XP) : EV T (tLc wi (gTup T.K 3 (gCons (gName i) (gCons (gName j) (gCons (gName l) gNil)))) tt te' [i, j, l]) W ⟨ρ, m0⟩ P XP :=
  ev_lc (is := [i] ++ ([j] ++ ([l] ++ []))) (fun _ h => h) (fun σ Hb H Q S q x => h σ Hb H Q S (fun jj n f μ Hb' H' g ok p => q jj n f μ Hb' H' g ok (by
    obtain ⟨hn, gg, turn, done⟩ := p
    refine ⟨hn, fun k acc μ' => μ' = μ ∧ acc = (List.range k).filterMap gg, ⟨rfl, by simp⟩, fun k acc μ' hk _ ⟨e1, e2⟩ => ?_, fun acc μ' ⟨e1, e2⟩ => by subst e1 e2; exact done⟩
    subst e1 e2
    obtain ⟨y, z, w, e, t⟩ := turn k hk
    rw [e]
    refine gv_tup rfl (gvs_cons (gv_name (gvs_cons (gv_name (gvs_cons (gv_name (gvs_nil fun σ Hb H Q S q x => t σ Hb H Q S (fun b μ1 Hb' H' g p => q b μ1 Hb' H' g ?_) x)))))))
    obtain ⟨rfl, h1, h2⟩ := p
    refine ⟨fun e => (h1 e).imp fun z μ2 ⟨e1, e2⟩ => ⟨e2, ?_⟩, fun e => ⟨rfl, ?_⟩⟩
    · rw [range_succ_fm, e1]; rfl
    · rw [range_succ_fm, h2 e]; simp)) x)
end
def prF (m : Nat) (q : Nat → Rat) : List D := (List.range m).map fun i => prD (q i)
def c_Ltotal62 (T : Cfg) : PC := fun ds P _ => ∃ (m D : Nat) (q : Nat → Rat), ds = [.lst (prF m q)] ∧ m ≤ 12 ∧ SpOk m D q ∧ D < 2 ^ 2000 ∧ P (prD (rS m q))
def c_Lspread62 (T : Cfg) : PC := fun ds P _ => ∃ (m N hb D : Nat) (ss : List Stp) (q : Nat → Rat) (x : Str), ds = [.lst (ss.map stpD), .int (m : Int), .lst (prF m q), .str x] ∧ Good m ss ∧ (∀ s ∈ ss, s.2.2.sum < 2 ^ 20) ∧ SumN ss N hb ∧ SpOk m D q ∧ D * N < 2 ^ 2000 ∧ P (.lst (prF m (goQ m ss x q)))
def c_Lnumber62 (T : Cfg) : PC := fun ds P _ => ∃ (m m' D : Nat) (q q' : Nat → Rat) (F : Rat), ds = [.lst [.lst (prF m q), .lst (prF m' q')], prD F] ∧ m ≤ 12 ∧ m' ≤ 12 ∧ SpOk m D q ∧ SpOk m' D q' ∧ D < 2 ^ 2000 ∧ Bq 500 F ∧ P (prD (absQ (rS m q - rS m' q') * F))
theorem len_Ltotal62 {T : Cfg} : ∀ ds μ P XP, pu (c_Ltotal62 T) ds μ P XP → ds.length = 1 := by
  rintro ds μ P XP ⟨rfl, Pf, Xf, ⟨m, D, q, rfl, _⟩, _⟩; rfl
theorem len_Lspread62 {T : Cfg} : ∀ ds μ P XP, pu (c_Lspread62 T) ds μ P XP → ds.length = 4 := by
  rintro ds μ P XP ⟨rfl, Pf, Xf, ⟨m, N, hb, D, ss, q, x, rfl, _⟩, _⟩; rfl
theorem len_Lnumber62 {T : Cfg} : ∀ ds μ P XP, pu (c_Lnumber62 T) ds μ P XP → ds.length = 2 := by
  rintro ds μ P XP ⟨rfl, Pf, Xf, ⟨m, m', D, q, q', F, rfl, _⟩, _⟩; rfl
def t_Ltotal62 (T : Cfg) (E : XK) : TS := (tSeq (tAsg (tTup (tCons (tC (.int 0)) (tCons (tC (.int 1)) tNil))) (gName 1))
    (tSeq (tFor (iList T.K (tVar 0)) (gTup T.K 2 (gCons (gName 2) (gCons (gName 3) gNil))) (tAsg (tCall (spOf T (pu (c_Llow T))) [] E0 (tCons (tOp (rI0 fun i j => .int (i + j)) (tOp (rI IntMulOk fun i j => .int (i * j)) (tOp (rIxT T.K) (tVar 1) (tC (.int 0))) (tVar 3)) (tOp (rI IntMulOk fun i j => .int (i * j)) (tVar 2) (tOp (rIxT T.K) (tVar 1) (tC (.int 1))))) (tCons (tOp (rI IntMulOk fun i j => .int (i * j)) (tOp (rIxT T.K) (tVar 1) (tC (.int 1))) (tVar 3)) tNil))) (gName 1)))
    (tRet (tVar 1))))
def t_Lspread62 (T : Cfg) (E : XK) : TS := (tSeq (tAsg (tCB (rDictP T.K) (tCons (tLc (iList T.K (tVar 0)) (gTup T.K 3 (gCons (gName 13) (gCons (gName 14) (gCons (gName 15) gNil)))) (tTest (tOp rEq (tVar 14) (tVar 3))) (tTup (tCons (tVar 13) (tCons (tVar 15) tNil))) [13, 14, 15]) tNil)) (gName 4))
    (tSeq (tAsg (tOp rRep (tLst (tCons (tTup (tCons (tC (.int 0)) (tCons (tC (.int 1)) tNil))) tNil)) (tVar 1)) (gName 5))
    (tSeq (tFor (iEnum T.K (tCons (tVar 2) tNil)) (gTup T.K 2 (gCons (gName 6) (gCons (gTup T.K 2 (gCons (gName 7) (gCons (gName 8) gNil))) gNil))) (tIfS (tAnd (tTest (tOp (rI0 fun i j => .bl (decide (j < i))) (tVar 7) (tC (.int 0)))) (tB (tDIn (tVar 6) (tVar 4)))) (tSeq (tAsg (tCB (rSumT T.K) (tCons (tDGet (tVar 4) (tVar 6)) tNil)) (gName 9))
    (tFor (iEnumT T.K (tCons (tDGet (tVar 4) (tVar 6)) tNil)) (gTup T.K 2 (gCons (gName 10) (gCons (gName 11) gNil))) (tSeq (tAsg (tOp (rIxL T.K) (tVar 5) (tVar 10)) (gTup T.K 2 (gCons (gName 16) (gCons (gName 17) gNil))))
    (tSeq (tAsg (tOp (rI IntMulOk fun i j => .int (i * j)) (tVar 8) (tVar 9)) (gName 12))
    (tAsg (tCall (spOf T (pu (c_Llow T))) [] E0 (tCons (tOp (rI0 fun i j => .int (i + j)) (tOp (rI IntMulOk fun i j => .int (i * j)) (tVar 16) (tVar 12)) (tOp (rI IntMulOk fun i j => .int (i * j)) (tOp (rI IntMulOk fun i j => .int (i * j)) (tVar 7) (tVar 11)) (tVar 17))) (tCons (tOp (rI IntMulOk fun i j => .int (i * j)) (tVar 17) (tVar 12)) tNil))) (gSub (tVar 5) (tVar 10) rSetL)))))) tNext))
    (tRet (tVar 5)))))
def t_Lnumber62 (T : Cfg) (E : XK) : TS := (tSeq (tAsg (tLc (iList T.K (tVar 0)) (gName 5) tYes (tCall (spOf T (pu (c_Ltotal62 T))) [] E0 (tCons (tVar 5) tNil)) [5]) (gLst T.K 2 (gCons (gName 3) (gCons (gName 4) gNil))))
    (tSeq (tAsg (tOp (rI IntMulOk fun i j => .int (i * j)) (tCB rAbs (tCons (tOp (rI0 fun i j => .int (i - j)) (tOp (rI IntMulOk fun i j => .int (i * j)) (tOp (rIxT T.K) (tVar 3) (tC (.int 0))) (tOp (rIxT T.K) (tVar 4) (tC (.int 1)))) (tOp (rI IntMulOk fun i j => .int (i * j)) (tOp (rIxT T.K) (tVar 4) (tC (.int 0))) (tOp (rIxT T.K) (tVar 3) (tC (.int 1))))) tNil)) (tOp (rIxT T.K) (tVar 1) (tC (.int 0)))) (gName 2))
    (tRet (tCall (spOf T (pu (c_Llow T))) [] E0 (tCons (tVar 2) (tCons (tOp (rI IntMulOk fun i j => .int (i * j)) (tOp (rI IntMulOk fun i j => .int (i * j)) (tOp (rIxT T.K) (tVar 3) (tC (.int 1))) (tOp (rIxT T.K) (tVar 4) (tC (.int 1)))) (tOp (rIxT T.K) (tVar 1) (tC (.int 1)))) tNil))))))
theorem add_nd (a b : Rat) : Rat.divInt (a.num * (b.den : Int) + b.num * (a.den : Int)) ((a.den : Int) * (b.den : Int)) = a + b := by
  have ha : (a.den : Int) ≠ 0 := by have := a.den_nz; omega
  have hb : (b.den : Int) ≠ 0 := by have := b.den_nz; omega
  rw [d_add ha hb, Rat.num_divInt_den, Rat.num_divInt_den]
theorem SpOk.part {m D : Nat} {q : Nat → Rat} (h : SpOk m D q) {k : Nat} (hk : k ≤ m) : U01 (rS k q) ∧ Dv D (rS k q) :=
  ⟨⟨rS_nn h.nn, Rat.le_trans (rS_mono h.nn hk) h.le⟩, rS_dv (h.dv 0).1 h.dv⟩
theorem SpOk.at {m D : Nat} {q : Nat → Rat} (h : SpOk m D q) {k : Nat} (hk : k < m) : U01 (q k) := ⟨h.nn k, Rat.le_trans (rS_at h.nn hk) h.le⟩
theorem bt_num {q : Rat} {n : Nat} (h : Bq n q) : Bt n q.num := h.1
theorem bt_den {q : Rat} {n : Nat} (h : Bq n q) : Bt n (q.den : Int) := h.2
theorem bt_mulN {a b : Nat} {n k : Nat} (h1 : a < 2 ^ n) (h2 : b < 2 ^ k) : Bt (n + k) ((a : Int) * (b : Int)) := by
  show ((a : Int) * (b : Int)).natAbs < _
  rw [Int.natAbs_mul, Int.natAbs_natCast, Int.natAbs_natCast, Nat.pow_add]
  exact Nat.mul_lt_mul_of_lt_of_lt h1 h2
theorem pure_Ltotal62 {T : Cfg} (hT : ShOk T) : ∀ E ds μ P XP, pu (c_Ltotal62 T) ds μ P XP → SV T (t_Ltotal62 T E) (fun cls dd _ H => E cls dd H) ⟨slots 4 ds, μ⟩ (fnK P XP) := Hd.o (by
 simp (disch :=
 with_unfolding_all
 exact by
  rintro E ds μ P XP ⟨rfl, Pf, Xf, ⟨m, D, q, rfl, hm, h, hD, p⟩, hP, hX⟩
  unfold t_Ltotal62
  walk_at "pks"
  refine sv_forX2 (X := Unit) (fun k _ => [some (.lst (prF m q)), some (prD (rS k q)), none, none]) (fun _ _ μ => μ = mu0) (iv_list (ev_var rfl ⟨_, .inl rfl, (), by walk_at "le", rfl, fun k _ μ hk hJ => ?_, fun s' _ hr hJ => ?_⟩))
  · have hJ : mu0 = μ := Eq.symm hJ
    subst hJ
    have hk : k < m := by simpa [prF] using hk
    have hget : Pw.nth (prF m q) k = prD (q k) := nth_of (by unfold prF; rw [List.getElem?_map, List.getElem?_range hk]; rfl)
    rw [hget]
    refine ⟨_, _, rfl, ?_⟩
    obtain ⟨u1, d1⟩ := h.part (Nat.le_of_lt hk)
    have b1 := d1.bq u1 hD
    have b2 := (h.dv k).bq (h.at hk) hD
    dsimp only [List.set]
    refine sv_asg ?_
    walk_at "pks"
    refine ov_ixT (e := .int (rS k q).num) rfl ?_
    walk_at "pks"
    refine ov_mul (Bt.ok (bt_num b1) (bt_den b2) (by decide)) ?_
    walk_at "pks"
    refine ov_ixT (e := .int ((rS k q).den : Int)) rfl ?_
    walk_at "pks"
    refine ov_mul (Bt.ok (bt_num b2) (bt_den b1) (by decide)) ?_
    walk_at "pks"
    refine ov_ixT (e := .int ((rS k q).den : Int)) rfl ?_
    walk_at "pks"
    refine ov_mul (Bt.ok (bt_den b1) (bt_den b2) (by decide)) ?_
    walk_at "pks"
    refine low_i ?_ ((bt_mulN b1.2 b2.2).mono (by decide)) ?_
    · have h1 := (rS k q).den_nz
      have h2 := (q k).den_nz
      exact Int.mul_ne_zero (by omega) (by omega)
    rw [add_nd, ← rS_succ]
    walk_at "pks"
    exact ⟨(), by walk_at "le", rfl⟩
  · obtain ⟨ρ, μ⟩ := s'
    have hJ : mu0 = μ := Eq.symm hJ
    subst hJ
    refine seqK_nx (sv_wkR (s := ⟨_, _⟩) hr ?_)
    dsimp only
    rw [show (prF m q).length = m by simp [prF]]
    walk_at "pks"
    exact hP _ p
 ) only [↓hE])
theorem sub_nd (a b : Rat) : Rat.divInt (a.num * (b.den : Int) - b.num * (a.den : Int)) ((a.den : Int) * (b.den : Int)) = a - b := by
  have ha : (a.den : Int) ≠ 0 := by have := a.den_nz; omega
  have hb : (b.den : Int) ≠ 0 := by have := b.den_nz; omega
  rw [d_sub ha hb, Rat.num_divInt_den, Rat.num_divInt_den]
theorem abs_div {n d : Int} (d0 : 0 < d) : Rat.divInt (n.natAbs : Int) d = absQ (Rat.divInt n d) := by
  unfold absQ
  by_cases h : 0 ≤ n
  · have h1 := Rat.divInt_nonneg h (Int.le_of_lt d0)
    rw [if_neg (Rat.not_lt.2 h1), show (n.natAbs : Int) = n by omega]
  · have e : Rat.divInt (n.natAbs : Int) d = -(Rat.divInt n d) := by
      rw [show (n.natAbs : Int) = -n by omega, ← Rat.neg_divInt]
    have h1 : 0 ≤ Rat.divInt (n.natAbs : Int) d := Rat.divInt_nonneg (by omega) (Int.le_of_lt d0)
    rw [e] at h1 ⊢
    split
    · rfl
    · grind
theorem pure_Lnumber62 {T : Cfg} (hT : ShOk T) : ∀ E ds μ P XP, pu (c_Lnumber62 T) ds μ P XP → SV T (t_Lnumber62 T E) (fun cls dd _ H => E cls dd H) ⟨slots 6 ds, μ⟩ (fnK P XP) := Hd.o (by
 simp (disch :=
 with_unfolding_all
 exact by
  rintro E ds μ P XP ⟨rfl, Pf, Xf, ⟨m, m', D, q, q', F, rfl, hm, hm', h, h', hD, hF, p⟩, hP, hX⟩
  obtain ⟨u1, d1⟩ := h.part (Nat.le_refl m)
  obtain ⟨u2, d2⟩ := h'.part (Nat.le_refl m')
  have b1 := d1.bq u1 hD
  have b2 := d2.bq u2 hD
  unfold t_Lnumber62
  refine sv_seq (sv_asgG (is := [3] ++ ([4] ++ [])) (ev_lcX (iv_list (ev_var rfl ⟨_, .inl rfl, by simp, fun k => [prD (rS m q), prD (rS m' q')][k]?, fun k hk => ?_, ?_⟩))))
  · have hk : k < 2 := by simpa using hk
    match k, hk with
    | 0, _ =>
      refine tv_yes ⟨rfl, fun _ => ?_, fun h => nomatch h⟩
      walk_at "pks"
      exact ⟨m, D, q, rfl, hm, h, hD, rfl, rfl⟩
    | 1, _ =>
      refine tv_yes ⟨rfl, fun _ => ?_, fun h => nomatch h⟩
      walk_at "pks"
      exact ⟨m', D, q', rfl, hm', h', hD, rfl, rfl⟩
  refine gv_lst (ds := [prD (rS m q), prD (rS m' q')]) (.inl rfl) rfl (gvs_cons (gv_name (gvs_cons (gv_name (gvs_nil ?_)))))
  generalize rS m q = a at u1 d1 b1 p
  generalize rS m' q' = b at u2 d2 b2 p
  have na := a.den_nz
  have nb := b.den_nz
  have nf := F.den_nz
  walk_at "pks"
  refine ov_ixT (e := .int a.num) rfl ?_
  walk_at "pks"
  refine ov_ixT (e := .int (b.den : Int)) rfl ?_
  walk_at "pks"
  refine ov_mul (Bt.ok (bt_num b1) (bt_den b2) (by decide)) ?_
  walk_at "pks"
  refine ov_ixT (e := .int b.num) rfl ?_
  walk_at "pks"
  refine ov_ixT (e := .int (a.den : Int)) rfl ?_
  walk_at "pks"
  refine ov_mul (Bt.ok (bt_num b2) (bt_den b1) (by decide)) ?_
  walk_at "pks"
  refine ov_ixT (e := .int F.num) rfl ?_
  have bs : Bt 4001 (a.num * (b.den : Int) - b.num * (a.den : Int)) := ((bt_num b1).mul (bt_den b2)).sub ((bt_num b2).mul (bt_den b1)) (by decide)
  have bs' : Bt 4001 (((a.num * (b.den : Int) - b.num * (a.den : Int)).natAbs : Nat) : Int) := by
    show (((a.num * (b.den : Int) - b.num * (a.den : Int)).natAbs : Nat) : Int).natAbs < _
    rw [Int.natAbs_natCast]
    exact bs
  walk_at "pks"
  refine ov_mul (Bt.ok bs' (bt_num hF) (by decide)) ?_
  walk_at "pks"
  refine ov_ixT (e := .int (a.den : Int)) rfl ?_
  walk_at "pks"
  refine ov_ixT (e := .int (b.den : Int)) rfl ?_
  walk_at "pks"
  refine ov_mul (Bt.ok (bt_den b1) (bt_den b2) (by decide)) ?_
  walk_at "pks"
  refine ov_ixT (e := .int (F.den : Int)) rfl ?_
  walk_at "pks"
  refine ov_mul (Bt.ok ((bt_den b1).mul (bt_den b2)) (bt_den hF) (by decide)) ?_
  walk_at "pks"
  refine low_i (Int.mul_ne_zero (Int.mul_ne_zero (by omega) (by omega)) (by omega)) ((((bt_den b1).mul (bt_den b2)).mul (bt_den hF)).mono (by decide)) ?_
  rw [d_mul, abs_div (Int.mul_pos (by omega) (by omega)), sub_nd, Rat.num_divInt_den]
  exact hP _ p
 ) only [↓hE])
def onK (ss : List Stp) (x : Str) : List (Key × D) := (ss.filter fun s => decide (s.2.1 = x)).map fun s => ((Sum.inl (s.1 : Int) : Key), wtsD s.2.2)
theorem onK_look (r : Nat) (x : Str) : ∀ ss : List Stp, lookD (onK ss x) (Sum.inl (r : Int) : Key) = (lookS ss r x).map wtsD
  | [] => rfl
  | s :: ss => by
    have ih := onK_look r x ss
    unfold onK at ih ⊢
    unfold lookS at ih ⊢
    rw [List.filter_cons, List.find?_cons]
    by_cases h : s.2.1 = x
    · rw [decide_eq_true h, if_pos rfl, List.map_cons, lookD_cons]
      by_cases e : s.1 = r
      · have hk : keyS s = (r, x) := Prod.ext e h
        rw [if_pos (by rw [e]), decide_eq_true hk]
        rfl
      · have hk : keyS s ≠ (r, x) := fun z => e (congrArg Prod.fst z)
        have hne : ¬ ((Sum.inl (s.1 : Int) : Key) = Sum.inl (r : Int)) := fun z => e (Int.ofNat.inj (Sum.inl.inj z))
        rw [if_neg hne, decide_eq_false hk, ih]
    · have hk : keyS s ≠ (r, x) := fun z => h (congrArg Prod.snd z)
      rw [decide_eq_false h, if_neg (by simp), decide_eq_false hk, ih]
theorem onK_nd {m : Nat} {ss : List Stp} (hg : Good m ss) (x : Str) : ((onK ss x).map Prod.fst).Nodup := by
  unfold onK
  rw [List.map_map]
  have h1 := List.pairwise_map.1 hg.nd
  refine List.pairwise_map.2 (List.Pairwise.imp_of_mem (fun {a b} ha hb hne e => hne ?_) (List.Pairwise.filter _ h1))
  have e1 : a.1 = b.1 := Int.ofNat.inj (Sum.inl.inj e)
  have ea := of_decide_eq_true (List.mem_filter.1 ha).2
  have eb := of_decide_eq_true (List.mem_filter.1 hb).2
  exact Prod.ext e1 (ea.trans eb.symm)
theorem onK_fm (x : Str) : ∀ ss : List Stp, (ss.filterMap fun s => if s.2.1 = x then some (D.tup [.int (s.1 : Int), wtsD s.2.2]) else none) = (onK ss x).map fun kd => .tup [kD kd.1, kd.2]
  | [] => rfl
  | s :: ss => by
    have ih := onK_fm x ss
    unfold onK at ih ⊢
    rw [List.filterMap_cons, List.filter_cons]
    by_cases h : s.2.1 = x
    · rw [if_pos h, decide_eq_true h, if_pos rfl]
      dsimp only
      rw [ih]
      rfl
    · rw [if_neg h, decide_eq_false h, if_neg (by simp)]
      exact ih
theorem prF_set {m : Nat} {F G : Nat → Rat} {j : Nat} {z : Rat} (hj : j < m) (h : ∀ i, i < m → G i = if i = j then z else F i) : (prF m F).set j (prD z) = prF m G := by
  refine List.ext_getElem? fun i => ?_
  unfold prF
  rw [List.getElem?_set, List.length_map, List.length_range, List.getElem?_map, List.getElem?_map]
  by_cases hi : i < m
  · rw [List.getElem?_range hi]
    by_cases e : j = i
    · subst e
      rw [if_pos rfl, if_pos hj]
      show some (prD z) = some (prD (G j))
      rw [h j hj, if_pos rfl]
    · rw [if_neg e]
      show some (prD (F i)) = some (prD (G i))
      rw [h i hi, if_neg (fun z => e z.symm)]
  · rw [List.getElem?_eq_none (l := List.range m) (by simp; omega), if_neg (by omega)]
    rfl
theorem prF_congr {m : Nat} {F G : Nat → Rat} (h : ∀ i, i < m → F i = G i) : prF m F = prF m G := by
  unfold prF
  exact List.map_congr_left fun i hi => by rw [h i (List.mem_range.1 hi)]
def parQ (ss : List Stp) (x : Str) (q : Nat → Rat) (k to : Nat) : Rat := rS k fun r => q r * wtQ (gonW ss r x) to
def updQ (ss : List Stp) (x : Str) (q : Nat → Rat) (k j to : Nat) : Rat := if to < j then parQ ss x q (k + 1) to else parQ ss x q k to
theorem step_nd (a b : Rat) {w S : Nat} (hS : 0 < S) : Rat.divInt (a.num * ((b.den : Int) * (S : Int)) + b.num * (w : Int) * (a.den : Int)) ((a.den : Int) * ((b.den : Int) * (S : Int))) = a + b * Rat.divInt (w : Int) (S : Int) := by
  have ha : (a.den : Int) ≠ 0 := by have := a.den_nz; omega
  have hb : (b.den : Int) ≠ 0 := by have := b.den_nz; omega
  rw [d_add ha (Int.mul_ne_zero hb (by omega)), d_mul, Rat.num_divInt_den, Rat.num_divInt_den]
theorem par_ok {m N hb D : Nat} {ss : List Stp} {q : Nat → Rat} (sn : SumN ss N hb) (hg : Good m ss) (h : SpOk m D q) (x : Str) {k to : Nat} (hk : k ≤ m) (ht : to < m) (hD : D * N < 2 ^ 2000) : Bq 2000 (parQ ss x q k to) := by
  have g := goQ_ok sn hg h x
  have nn : ∀ r, 0 ≤ q r * wtQ (gonW ss r x) to := fun r => Rat.mul_nonneg (h.nn r) (wt_nn _ _)
  refine Dv.bq (rS_dv (g.dv 0).1 fun r => (h.dv r).mul (wt_dv sn hg r x to)) ⟨rS_nn nn, ?_⟩ hD
  exact Rat.le_trans (rS_mono nn hk) (g.at ht).2
theorem par_skip {ss : List Stp} {x : Str} {q : Nat → Rat} {k : Nat} (h : q k = 0 ∨ lookS ss k x = none) : parQ ss x q (k + 1) = parQ ss x q k := by
  funext to
  unfold parQ
  rw [rS_succ]
  rcases h with h | h
  · rw [h]
    grind
  · unfold gonW
    rw [h]
    show _ + q k * wtQ [] to = _
    rw [wtQ_nil]
    grind
theorem pure_Lspread62 {T : Cfg} (hT : ShOk T) : ∀ E ds μ P XP, pu (c_Lspread62 T) ds μ P XP → SV T (t_Lspread62 T E) (fun cls dd _ H => E cls dd H) ⟨slots 18 ds, μ⟩ (fnK P XP) := Hd.o (by
 simp (disch :=
 with_unfolding_all
 exact by
  rintro E ds μ P XP ⟨rfl, Pf, Xf, ⟨m, N, hb, D, ss, q, x, rfl, hg, h20, sn, h, hD, p⟩, hP, hX⟩
  have m12 := hg.m12
  have hln := hg.ln
  have bD : D < 2 ^ 2000 := Nat.lt_of_le_of_lt (Nat.le_mul_of_pos_right _ sn.n0) hD
  unfold t_Lspread62
  refine sv_seq (sv_asg (ev_cb (ea_cons (ev_lcX3b (iv_list (ev_var rfl ⟨_, .inl rfl, by rw [List.length_map]; omega, fun k => (ss[k]?).bind fun s => if s.2.1 = x then some (.tup [.int (s.1 : Int), wtsD s.2.2]) else none, fun k hk => ?_, ?_⟩))))))
  · have hk : k < ss.length := by simpa using hk
    have hget : Pw.nth (ss.map stpD) k = stpD ss[k] := nth_of (by rw [List.getElem?_map, List.getElem?_eq_getElem hk]; rfl)
    rw [hget]
    simp only [List.getElem?_eq_getElem hk, Option.bind_some]
    generalize ss[k] = s
    refine ⟨_, _, _, rfl, ?_⟩
    walk_at "pks"
    refine ⟨rfl, fun h => ?_, fun h => ?_⟩
    · walk_at "pks"
      exact ⟨by rw [if_pos (of_decide_eq_true h)], rfl⟩
    · rw [if_neg (of_decide_eq_false h)]
  rw [List.length_map, range_fm ss (fun s => if s.2.1 = x then some (Pw.D.tup [.int (s.1 : Int), wtsD s.2.2]) else none) _ (fun k hk => by simp only [List.getElem?_eq_getElem hk, Option.bind_some]), onK_fm]
  refine ea_nil (cv_dictP (kds := onK ss x) (.inl rfl) (onK_nd hg x) ?_)
  refine seqK_nx (sv_seq (sv_asg (ev_op ?_)))
  walk_at "pks"
  refine ov_repM1 (by omega) fun L hL => ?_
  have e0 : List.replicate m (Pw.D.tup [.int 0, .int 1]) = prF m (parQ ss x q 0) := by
    have h : (List.range m).map (fun _ => Pw.D.tup [.int 0, .int 1]) = List.replicate (List.range m).length (Pw.D.tup [.int 0, .int 1]) := List.map_const'
    rw [List.length_range] at h
    exact h.symm
  rw [e0]
  clear e0
  refine seqK_nx (sv_seq (sv_for (is := [6] ++ (([7] ++ ([8] ++ [])) ++ [])) (iv_enum (ea_cons (ev_var rfl (ea_nil ⟨_, _, rfl, .inl rfl, fun k s => leR [some (.lst (ss.map stpD)), some (.int (m : Int)), some (.lst (prF m q)), some (.str x), some (.dic (onK ss x)), some (.ptr L), none, none, none, none, none, none, none, none, none, none, none, none] s.r ∧ s.m = put mu0 L (.lst (prF m (parQ ss x q k))), ⟨by walk_at "le", rfl⟩, fun k s hk hI => ?_, fun s hI => ?_⟩))))))
  · obtain ⟨ρ, μ⟩ := s
    obtain ⟨hl, hμ⟩ := hI
    have hl : leR _ ρ := hl
    have hμ : μ = _ := hμ
    subst hμ
    have hk : k < m := by simpa [prF] using hk
    have hget : Pw.nth (prF m q) k = prD (q k) := nth_of (by unfold prF; rw [List.getElem?_map, List.getElem?_range hk]; rfl)
    show GV T _ _ (Pw.D.tup [Pw.D.int (k : Int), Pw.nth (prF m q) k]) _ _
    rw [hget]
    refine gv_tup rfl (gvs_cons (gv_name (gvs_cons (gv_tup rfl (gvs_cons (gv_name (gvs_cons (gv_name (gvs_nil (gvs_nil ?_))))))))))
    refine sv_wk (((hl.set _ _).set _ _).set _ _) sub_refl ?_
    dsimp only [List.set]
    refine sv_if ?_
    walk_at "pks"
    refine ⟨fun h0 => ?_, fun h0 => ?_⟩
    rotate_left
    · have hq0 : q k = 0 := by
        have h1 := h.nn k
        have h2 : ¬ 0 < (q k).num := of_decide_eq_false h0
        have h3 := Rat.num_nonneg.2 h1
        have h4 : (q k).num = 0 := by omega
        rw [← Rat.num_divInt_den (q k), h4]
        simp
      walk_at "pks"
      refine ⟨by walk_at "le", ?_⟩
      dsimp only
      rw [par_skip (.inl hq0)]
    walk_at "pks"
    refine ev_din ?_
    walk_at "pks"
    refine ⟨onK ss x, .inl (k : Int), rfl, rfl, ?_⟩
    have hv : valD (onK ss x) (.inl (k : Int)) = (lookS ss k x).map wtsD := onK_look k x ss
    rw [hv]
    cases e : lookS ss k x with
    | none =>
      refine ⟨_, rfl, fun h => by simp at h, fun _ => ?_⟩
      walk_at "pks"
      refine ⟨by walk_at "le", ?_⟩
      dsimp only
      rw [par_skip (.inr e)]
    | some ws =>
      rw [e] at hv
      obtain ⟨s, hs, e1, e2, e3⟩ := look_mem e
      have ok := hg.ok s hs
      have wl : ws.length = m := by rw [← e3]; exact ok.ln
      have w0 : 0 < ws.sum := by rw [← e3]; exact ok.ps
      have w20 : ws.sum < 2 ^ 20 := by rw [← e3]; exact h20 s hs
      have gw : gonW ss k x = ws := by unfold gonW; rw [e]; rfl
      refine ⟨_, rfl, fun _ => ?_, fun h => by simp at h⟩
      refine sv_seq (sv_asg (ev_cb (ea_cons (ev_dget (ev_var rfl (ev_var rfl ⟨onK ss x, .inl (k : Int), wtsD ws, rfl, rfl, hv, ea_nil ?_⟩))))))
      rw [wts_ints]
      refine cv_sumT ?_
      rw [wts_sum]
      have hvv : valD (onK ss x) (.inl (k : Int)) = some (wtsD ws) := hv
      refine seqK_nx (sv_forX2 (X := Unit) (fun _ _ => [some (.lst (ss.map stpD)), some (.int (m : Int)), some (.lst (prF m q)), some (.str x), some (.dic (onK ss x)), some (.ptr L), some (.int (k : Int)), some (.int (q k).num), some (.int ((q k).den : Int)), some (.int (ws.sum : Int)), none, none, none, none, none, none, none, none]) (fun j _ μ => μ = put mu0 L (.lst (prF m (updQ ss x q k j)))) (iv_enumT (ea_cons (ev_dget (ev_var rfl (ev_var rfl ⟨onK ss x, .inl (k : Int), wtsD ws, rfl, rfl, hvv, ea_nil ⟨_, rfl, (), by walk_at "le", ?_, fun j _ μ hj hJ => ?_, fun s' _ hr hJ => ?_⟩⟩))))))
      · rw [prF_congr (F := updQ ss x q k 0) (G := parQ ss x q k) fun i _ => by unfold updQ; rw [if_neg (by omega)]]
      · have hJ : μ = _ := hJ
        subst hJ
        have hj : j < ws.length := by simpa using hj
        have hjm : j < m := by omega
        have ba := par_ok sn hg h x (Nat.le_of_lt hk) hjm hD
        have bb := (h.dv k).bq (h.at hk) bD
        have na := (parQ ss x q k j).den_nz
        have nb := (q k).den_nz
        refine ⟨_, _, rfl, ?_⟩
        rw [nth_wts hj]
        have wj : ws[j] ≤ ws.sum := sum_of_mem (List.getElem_mem hj)
        have eg : ws.getD j 0 = ws[j] := by rw [List.getD_eq_getElem?_getD, List.getElem?_eq_getElem hj]; rfl
        dsimp only [List.set]
        refine sv_seq (sv_asgG (is := [16] ++ ([17] ++ [])) (ev_op (ev_var rfl (ev_var rfl (ov_ixM put_same (e := prD (parQ ss x q k j)) (at_n (by
          unfold prF
          rw [List.getElem?_map, List.getElem?_range hjm]
          show some (prD (updQ ss x q k j j)) = _
          unfold updQ
          rw [if_neg (Nat.lt_irrefl j)])) ?_)))))
        refine gv_tup rfl (gvs_cons (gv_name (gvs_cons (gv_name (gvs_nil ?_)))))
        have bS : Bt 20 (ws.sum : Int) := w20
        have bW : Bt 20 (ws[j] : Int) := Nat.lt_of_le_of_lt wj w20
        walk_at "pks"
        refine ov_mul (Bt.ok (bt_den bb) bS (by decide)) ?_
        refine seqK_nx (sv_setL ?_)
        walk_at "pks"
        refine ov_mul (Bt.ok (bt_num ba) ((bt_den bb).mul bS) (by decide)) ?_
        walk_at "pks"
        refine ov_mul (Bt.ok (bt_num bb) bW (by decide)) ?_
        walk_at "pks"
        refine ov_mul (Bt.ok ((bt_num bb).mul bW) (bt_den ba) (by decide)) ?_
        walk_at "pks"
        refine ov_mul (Bt.ok (bt_den ba) ((bt_den bb).mul bS) (by decide)) ?_
        walk_at "pks"
        refine low_i (Int.mul_ne_zero (by omega) (Int.mul_ne_zero (by omega) (by omega))) (((bt_den ba).mul ((bt_den bb).mul bS)).mono (by decide)) ?_
        rw [step_nd _ _ w0]
        walk_at "pks"
        refine ⟨L, _, (j : Int), j, rfl, put_same, rfl, ixN_nat (by simp [prF]; omega), ?_⟩
        refine ⟨(), by walk_at "le", ?_⟩
        dsimp only
        rw [put_put, prF_set (G := updQ ss x q k (j + 1)) hjm fun i hi => ?_]
        unfold updQ
        by_cases ei : i = j
        · subst ei
          rw [if_pos (Nat.lt_succ_self i), if_pos rfl]
          unfold parQ
          rw [rS_succ, gw]
          unfold wtQ
          rw [eg]
        · rw [if_neg ei]
          by_cases ci : i < j
          · rw [if_pos ci, if_pos (by omega)]
          · rw [if_neg ci, if_neg (by omega)]
      · refine ⟨leR.trans (by walk_at "le") hr, ?_⟩
        have hJ : s'.m = _ := hJ
        rw [hJ, List.length_map, wl]
        rw [prF_congr (F := updQ ss x q k m) (G := parQ ss x q (k + 1)) fun i hi => by unfold updQ; rw [if_pos hi]]
  · obtain ⟨ρ, μ⟩ := s
    obtain ⟨hl, hμ⟩ := hI
    have hl : leR _ ρ := hl
    have hμ : μ = put mu0 L (.lst (prF m (parQ ss x q m))) := by
      have h : μ = _ := hμ
      rw [h, show (prF m q).length = m by simp [prF]]
    subst hμ
    refine seqK_nx (sv_wkR (s := ⟨_, _⟩) hl ?_)
    dsimp only
    refine sv_frz (i := 5) rfl put_same ?_
    dsimp only [List.set]
    rw [del_put hL]
    exact sv_ret (ev_var rfl (hP _ p))
 ) only [↓hE])
open PySem PySem.Spec PyProof.Rows L2 Pw
structure TrnW (m : Nat) (ss us : List Stp) : Prop where
  ln : us.length = ss.length
  ok : ∀ (i : Nat) (s u : Stp), ss[i]? = some s → us[i]? = some u → keyS u = keyS s ∧ u.2.2.length = m ∧ 0 < u.2.2.sum ∧ u.2.2.sum ≤ 1209
theorem TrnW.keys {m : Nat} {ss us : List Stp} (h : TrnW m ss us) : us.map keyS = ss.map keyS := by
  refine List.ext_getElem (by simp [h.ln]) fun i h1 h2 => ?_
  rw [List.length_map] at h1 h2
  rw [List.getElem_map, List.getElem_map]
  exact (h.ok i _ _ (List.getElem?_eq_getElem h2) (List.getElem?_eq_getElem h1)).1
theorem TrnW.mem {m : Nat} {ss us : List Stp} (h : TrnW m ss us) {u : Stp} (hu : u ∈ us) : ∃ (i : Nat) (s : Stp), ss[i]? = some s ∧ us[i]? = some u := by
  obtain ⟨i, hi, rfl⟩ := List.getElem_of_mem hu
  exact ⟨i, ss[i]'(by rw [← h.ln]; exact hi), List.getElem?_eq_getElem _, List.getElem?_eq_getElem _⟩
theorem TrnW.mem' {m : Nat} {ss us : List Stp} (h : TrnW m ss us) {s : Stp} (hs : s ∈ ss) : ∃ (i : Nat) (u : Stp), ss[i]? = some s ∧ us[i]? = some u := by
  obtain ⟨i, hi, rfl⟩ := List.getElem_of_mem hs
  exact ⟨i, us[i]'(by rw [h.ln]; exact hi), List.getElem?_eq_getElem _, List.getElem?_eq_getElem _⟩
theorem TrnW.good {m : Nat} {ss us : List Stp} (h : TrnW m ss us) (hg : Good m ss) : Good m us where
  m1 := hg.m1
  m12 := hg.m12
  ln := by rw [h.ln]; exact hg.ln
  nd := by rw [h.keys]; exact hg.nd
  ok := fun u hu => by
    obtain ⟨i, s, hs, hu'⟩ := h.mem hu
    obtain ⟨hk, h1, h2, h3⟩ := h.ok i s u hs hu'
    have ok := hg.ok s (List.mem_of_getElem? hs)
    have e1 : u.1 = s.1 := (Prod.mk.inj hk).1
    have e2 : u.2.1 = s.2.1 := (Prod.mk.inj hk).2
    refine ⟨by rw [e1]; exact ok.rm, by rw [e2]; exact ok.nm, h1, h2, fun w hw => ?_⟩
    have := sum_of_mem hw
    exact Nat.lt_of_lt_of_le (by omega : w < 2 ^ 11) (Nat.pow_le_pow_right (by decide) (by decide))
theorem TrnW.menu {m : Nat} {ss us : List Stp} (h : TrnW m ss us) (hg : Good m ss) (x : Nat) : menuS (mkS ss) x = menuS (mkS us) x := by
  have p : (menuS (mkS ss) x).Perm (menuS (mkS us) x) := (List.perm_ext_iff_of_nodup (menu_nd hg.made x) (menu_nd (h.good hg).made x)).2 fun a => by
    rw [menu_iff, menu_iff]
    constructor
    · rintro ⟨s, hs, e1, e2⟩
      obtain ⟨z, hz, rfl⟩ := List.mem_map.1 ((mk_perm ss).mem_iff.1 hs)
      obtain ⟨i, u, h1, h2⟩ := h.mem' hz
      have hk := (h.ok i z u h1 h2).1
      exact ⟨lowS u, (mk_perm us).mem_iff.2 (List.mem_map.2 ⟨u, List.mem_of_getElem? h2, rfl⟩), ((Prod.mk.inj hk).1).trans e1, ((Prod.mk.inj hk).2).trans e2⟩
    · rintro ⟨s, hs, e1, e2⟩
      obtain ⟨u, hu, rfl⟩ := List.mem_map.1 ((mk_perm us).mem_iff.1 hs)
      obtain ⟨i, z, h1, h2⟩ := h.mem hu
      have hk := (h.ok i z u h1 h2).1
      exact ⟨lowS z, (mk_perm ss).mem_iff.2 (List.mem_map.2 ⟨z, List.mem_of_getElem? h1, rfl⟩), ((Prod.mk.inj hk).1).symm.trans e1, ((Prod.mk.inj hk).2).symm.trans e2⟩
  have e : ∀ (ss : List Stp) (t : Nat), (menuS ss t).mergeSort (PySem.W.dataLe false PyData.str) = menuS ss t := fun ss t => sortS_perm (List.mergeSort_perm _ _)
  rw [← e (mkS ss) x, ← e (mkS us) x]
  exact sortS_perm p
end Far
namespace Pw
open PySem PySem.Spec PyProof.Rows L2
end Pw
namespace Far
open PySem PySem.Spec PyProof.Rows L2 Pw Cg
section
variable {κ : Type} [DecidableEq κ] {le : κ → κ → Bool}
def ddS (acc : List κ) (k : κ) : List κ := if acc.getLast? = some k then acc else acc ++ [k]
structure DdI (le : κ → κ → Bool) (pre acc : List κ) : Prop where
  st : acc.Pairwise fun a b => le a b = true ∧ a ≠ b
  mm : ∀ k, k ∈ acc ↔ k ∈ pre
  la : ∀ k ∈ pre, ∀ z, acc.getLast? = some z → le k z = true
theorem DdI.nil : DdI le ([] : List κ) [] := ⟨.nil, fun k => Iff.rfl, fun k h => (by cases h)⟩
theorem DdI.step {pre acc : List κ} {k : κ} (h : DdI le pre acc) (tr : ∀ a b c, le a b = true → le b c = true → le a c = true) (rf : ∀ a, le a a = true) (an : ∀ a ∈ pre, le a k = true → le k a = true → a = k) (hk : ∀ a ∈ pre, le a k = true) : DdI le (pre ++ [k]) (ddS acc k) := by
  unfold ddS
  by_cases e : acc.getLast? = some k
  · rw [if_pos e]
    have hm : k ∈ acc := List.mem_of_getLast? e
    refine ⟨h.st, fun a => ?_, fun a ha z hz => ?_⟩
    · rw [List.mem_append, List.mem_singleton, h.mm]
      constructor
      · exact .inl
      · rintro (h1 | rfl)
        · exact h1
        · exact (h.mm _).1 hm
    · rcases List.mem_append.1 ha with h1 | h1
      · exact h.la a h1 z hz
      · rw [List.mem_singleton.1 h1]
        exact h.la k ((h.mm k).1 hm) z hz
  · rw [if_neg e]
    refine ⟨?_, fun a => ?_, fun a ha z hz => ?_⟩
    · rw [List.pairwise_append]
      refine ⟨h.st, by simp, fun a ha b hb => ?_⟩
      rw [List.mem_singleton.1 hb]
      refine ⟨hk a ((h.mm a).1 ha), fun e1 => ?_⟩
      subst e1
      obtain ⟨z, hz⟩ : ∃ z, acc.getLast? = some z := by
        cases hz : acc.getLast? with
        | none => rw [List.getLast?_eq_none_iff] at hz; rw [hz] at ha; cases ha
        | some z => exact ⟨z, rfl⟩
      have hzm : z ∈ acc := List.mem_of_getLast? hz
      have e2 := an z ((h.mm z).1 hzm) (hk z ((h.mm z).1 hzm)) (h.la a ((h.mm a).1 ha) z hz)
      rw [e2] at hz
      exact e hz
    · rw [List.mem_append, List.mem_append, h.mm]
    · rw [List.getLast?_append, List.getLast?_singleton] at hz
      have hz : k = z := by simpa using hz
      subst hz
      rcases List.mem_append.1 ha with h1 | h1
      · exact hk a h1
      · rw [List.mem_singleton.1 h1]; exact rf k
structure Rks (le : κ → κ → Bool) (ks : List κ) (f : κ → Nat) : Prop where
  eq : ∀ a ∈ ks, ∀ b ∈ ks, f a = f b → a = b
  lt : ∀ a ∈ ks, ∀ b ∈ ks, le a b = true → a ≠ b → f a < f b
  dn : ∀ a ∈ ks, ∀ r, r < f a → ∃ b ∈ ks, f b = r
  bd : ∀ a ∈ ks, f a < ks.length
theorem idxOf_get' {l : List κ} {k : κ} (h : k ∈ l) : ∃ i, ∃ hi : i < l.length, l.idxOf k = i ∧ l[i] = k := ⟨l.idxOf k, List.idxOf_lt_length_of_mem h, rfl, List.getElem_idxOf _⟩
theorem DdI.rks {ks srt acc : List κ} (h : DdI le srt acc) (hp : ∀ k, k ∈ srt ↔ k ∈ ks) (an : ∀ a ∈ ks, ∀ b ∈ ks, le a b = true → le b a = true → a = b) : Rks le ks fun k => acc.idxOf k := by
  have mm : ∀ k, k ∈ acc ↔ k ∈ ks := fun k => (h.mm k).trans (hp k)
  have nd : acc.Nodup := h.st.imp fun ⟨_, e⟩ => e
  refine ⟨fun a ha b hb e => ?_, fun a ha b hb hl hne => ?_, fun a ha r hr => ?_, fun a ha => ?_⟩
  · obtain ⟨i, hi, e1, e2⟩ := idxOf_get' ((mm a).2 ha)
    obtain ⟨j, hj, e3, e4⟩ := idxOf_get' ((mm b).2 hb)
    have : i = j := by rw [← e1, ← e3]; exact e
    subst this
    rw [← e2, ← e4]
  · obtain ⟨i, hi, e1, e2⟩ := idxOf_get' ((mm a).2 ha)
    obtain ⟨j, hj, e3, e4⟩ := idxOf_get' ((mm b).2 hb)
    rw [e1, e3]
    rcases Nat.lt_trichotomy i j with c | c | c
    · exact c
    · subst c; exact absurd (e2.symm.trans e4) hne
    · have := (List.pairwise_iff_getElem.1 h.st j i hj hi c).1
      rw [e2, e4] at this
      exact absurd (an a ha b hb hl this) hne
  · obtain ⟨i, hi, e1, e2⟩ := idxOf_get' ((mm a).2 ha)
    have hr2 : r < acc.length := by omega
    refine ⟨acc[r], (mm _).1 (List.getElem_mem hr2), ?_⟩
    obtain ⟨j, hj, e3, e4⟩ := idxOf_get' (List.getElem_mem hr2)
    rw [e3]
    exact (List.getElem_inj nd).1 e4
  · have h1 := nodup_len nd fun k hk => (mm k).1 hk
    have := List.idxOf_lt_length_of_mem ((mm a).2 ha)
    omega
end
abbrev Mch : Type := Nat × List Stp
def rms (n : Nat) (M : Nat → Mch) : List (Nat × Nat) := (List.range n).flatMap fun i => (List.range (M i).1).map fun x => (i, x)
structure MsOk (n : Nat) (M : Nat → Mch) (N : Nat) : Prop where
  n1 : 1 ≤ n
  n2 : n ≤ 2
  gd : ∀ i, i < n → Good (M i).1 (M i).2
  w0 : 0 < N
  dv : ∀ i, i < n → ∀ s ∈ (M i).2, s.2.2.sum ∣ N
  wb : N < 2 ^ 2000
theorem rms_mem {n : Nat} {M : Nat → Mch} {q : Nat × Nat} : q ∈ rms n M ↔ q.1 < n ∧ q.2 < (M q.1).1 := by
  unfold rms
  rw [List.mem_flatMap]
  constructor
  · rintro ⟨i, hi, h⟩
    obtain ⟨x, hx, rfl⟩ := List.mem_map.1 h
    exact ⟨List.mem_range.1 hi, List.mem_range.1 hx⟩
  · rintro ⟨h1, h2⟩
    exact ⟨q.1, List.mem_range.2 h1, List.mem_map.2 ⟨q.2, List.mem_range.2 h2, rfl⟩⟩
def sN (ss : List Stp) (m : Nat) (g : Nat → Nat) (W r : Nat) (a : Str) (c : Nat) : Nat := W / (gonW ss r a).sum * (((List.range m).filter fun x => decide (g x = c)).map fun x => (gonW ss r a).getD x 0).sum
def rwN (ss : List Stp) (m : Nat) (g : Nat → Nat) (K W r : Nat) : List (List Nat) := (menuS ss r).map fun a => (List.range K).map fun c => sN ss m g W r a c
theorem gon_le {m : Nat} {ss : List Stp} (hg : Good m ss) {r : Nat} {a : Str} (ha : a ∈ menuS ss r) : ∃ s ∈ ss, s.1 = r ∧ s.2.1 = a ∧ gonW ss r a = s.2.2 ∧ lookS ss r a = some s.2.2 := by
  obtain ⟨s, hs, e1, e2⟩ := menu_iff.1 ha
  have e3 : lookS ss r a = some s.2.2 := by
    rw [← e1, ← e2]
    exact find_key hg.nd hs
  refine ⟨s, hs, e1, e2, ?_, e3⟩
  unfold gonW
  rw [e3]
  rfl
def Rm (n : Nat) (M : Nat → Mch) (i x : Nat) : Prop := i < n ∧ x < (M i).1
def csum (M : Mch) (g : Nat → Nat) (x : Nat) (a : Str) (c : Nat) : Rat := sm M.1 fun u => if g u = c then hpF M.2 x a u else 0
def Bis (n : Nat) (M : Nat → Mch) (R : Nat → Nat → Nat → Nat → Prop) : Prop := ∀ i x j y, R i x j y → Rm n M i x ∧ Rm n M j y ∧ menuS (M i).2 x = menuS (M j).2 y ∧
  ∀ a ∈ menuS (M i).2 x, ∀ g : Nat → Nat → Nat, (∀ i x j y, R i x j y → g i x = g j y) → ∀ c, csum (M i) (g i) x a c = csum (M j) (g j) y a c
structure PlcP (n : Nat) (M : Nat → Mch) (p : Nat → Nat → Nat) : Prop where
  men : ∀ i x j y, Rm n M i x → Rm n M j y → p i x = p j y → menuS (M i).2 x = menuS (M j).2 y
  dn : ∀ i x, Rm n M i x → ∀ r, r < p i x → ∃ j y, Rm n M j y ∧ p j y = r
  bd : ∀ i x, Rm n M i x → p i x < (rms n M).length
  co : ∀ R, Bis n M R → ∀ i x j y, R i x j y → p i x = p j y
abbrev Ky : Type := Nat × List (List Nat)
def natP (v : Nat) : PyData := .int (v : Int)
def rowP (row : List Nat) : PyData := .list (row.map natP)
def kyP (k : Ky) : PyData := .list [.list [.list [natP k.1]], .list (k.2.map rowP)]
theorem natP_eqv (a b : Nat) : PyData.eqv (natP a) (natP b) = decide (a = b) := by
  show ((a : Int) == (b : Int)) = _
  by_cases h : a = b
  · subst h; simp
  · rw [decide_eq_false h]
    simp
    omega
theorem kyP_lt {a b : Ky} (h : a.1 < b.1) : PySem.W.dataLe false kyP a b = true := by
  have e1 : PyData.eqv (.list [natP b.1]) (.list [natP a.1]) = false := by
    show (PyData.eqv (natP b.1) (natP a.1) && true) = false
    rw [natP_eqv, decide_eq_false (by omega)]
    rfl
  have e2 : PyData.eqv (.list [.list [natP b.1]]) (.list [.list [natP a.1]]) = false := by
    show (PyData.eqv (.list [natP b.1]) (.list [natP a.1]) && true) = false
    rw [e1]
    rfl
  have e0 : PyData.eqv (natP b.1) (natP a.1) = false := by rw [natP_eqv, decide_eq_false (by omega)]
  have l1 : PySem.W.dataLt (natP b.1) (natP a.1) = false := by
    unfold natP
    rw [PySem.W.dataLt_int, decide_eq_false (by omega)]
  have l2 : PySem.W.dataLt (.list [natP b.1]) (.list [natP a.1]) = false := by
    rw [PySem.W.dataLt_list, PySem.W.dataLt_cons (by rfl), if_neg (by rw [e0]; decide)]
    exact l1
  have l3 : PySem.W.dataLt (.list [.list [natP b.1]]) (.list [.list [natP a.1]]) = false := by
    rw [PySem.W.dataLt_list, PySem.W.dataLt_cons (by rfl), if_neg (by rw [e1]; decide)]
    exact l2
  have l4 : PySem.W.dataLt (kyP b) (kyP a) = false := by
    unfold kyP
    rw [PySem.W.dataLt_list, PySem.W.dataLt_cons (by rfl), if_neg (by rw [e2]; decide)]
    exact l3
  show (!PySem.W.dataLt (kyP b) (kyP a)) = true
  rw [l4]
  rfl
section
variable {n K W : Nat} {M : Nat → Mch} {p : Nat → Nat → Nat}
theorem sN_csum {m : Nat} {ss : List Stp} (hg : Good m ss) (g : Nat → Nat) {W x : Nat} {a : Str} (ha : a ∈ menuS ss x) (dv : ∀ s ∈ ss, s.2.2.sum ∣ W) (c : Nat) : ((sN ss m g W x a c : Nat) : Rat) = (W : Rat) * csum (m, ss) g x a c := by
  obtain ⟨s, hs, e1, e2, eg, el⟩ := gon_le hg ha
  have ps := (hg.ok s hs).ps
  obtain ⟨b, hb⟩ := dv s hs
  unfold sN csum hpF
  rw [eg]
  have eb : W / s.2.2.sum = b := by rw [hb]; exact Nat.mul_div_cancel_left _ ps
  rw [eb, Rat.natCast_mul]
  have key : ∀ m : Nat, ((((List.range m).filter fun x => decide (g x = c)).map fun x => s.2.2.getD x 0).sum : Rat) = (s.2.2.sum : Rat) * sm m fun u => if g u = c then wtQ s.2.2 u else 0 := by
    intro m
    induction m with
    | zero => simp [sm]
    | succ m ih =>
      rw [sm_succ, List.range_succ, List.filter_append, List.map_append, List.sum_append, Rat.natCast_add, ih, Rat.mul_add]
      congr 1
      by_cases h : g m = c
      · rw [if_pos h, List.filter_cons, if_pos (decide_eq_true h)]
        unfold wtQ
        have hd : (s.2.2.sum : Rat) ≠ 0 := by
          intro e
          have := Rat.natCast_eq_zero_iff.1 e
          omega
        rw [Rat.divInt_eq_div]
        simp only [List.filter_nil, List.map_cons, List.map_nil, List.sum_cons, List.sum_nil, Nat.add_zero]
        show ((s.2.2.getD m 0 : Nat) : Rat) = (s.2.2.sum : Rat) * (((s.2.2.getD m 0 : Nat) : Rat) / ((s.2.2.sum : Nat) : Rat))
        rw [Rat.div_def, ← Rat.mul_assoc, Rat.mul_comm (s.2.2.sum : Rat), Rat.mul_assoc, Rat.mul_inv_cancel _ hd, Rat.mul_one]
      · rw [if_neg h, List.filter_cons, if_neg (by rw [decide_eq_false h]; decide)]
        simp
  rw [key, ← Rat.mul_assoc, hb, Rat.natCast_mul]
  congr 1
  exact Rat.mul_comm _ _
def keyF (M : Nat → Mch) (p : Nat → Nat → Nat) (K W i x : Nat) : Ky := (p i x, rwN (M i).2 (M i).1 (p i) K W x)
theorem key_same (ok : MsOk n M W) {i x j y : Nat} (h1 : Rm n M i x) (h2 : Rm n M j y) (hm : menuS (M i).2 x = menuS (M j).2 y) :
    rwN (M i).2 (M i).1 (p i) K W x = rwN (M j).2 (M j).1 (p j) K W y ↔ ∀ a ∈ menuS (M i).2 x, ∀ c, c < K → csum (M i) (p i) x a c = csum (M j) (p j) y a c := by
  have W0 : (W : Rat) ≠ 0 := fun e => by have := Rat.natCast_eq_zero_iff.1 e; have := ok.w0; omega
  have hk : ∀ a ∈ menuS (M i).2 x, ∀ c, sN (M i).2 (M i).1 (p i) W x a c = sN (M j).2 (M j).1 (p j) W y a c ↔ csum (M i) (p i) x a c = csum (M j) (p j) y a c := fun a ha c => by
    have e1 := sN_csum (ok.gd i h1.1) (p i) ha (ok.dv i h1.1) c
    have e2 := sN_csum (ok.gd j h2.1) (p j) (by rw [← hm]; exact ha) (ok.dv j h2.1) c
    constructor
    · intro h
      rw [h, e2] at e1
      have e3 : (W : Rat)⁻¹ * ((W : Rat) * csum (M j) (p j) y a c) = (W : Rat)⁻¹ * ((W : Rat) * csum (M i) (p i) x a c) := by rw [show (W : Rat) * csum (M j) (p j) y a c = (W : Rat) * csum (M i) (p i) x a c from e1]
      rw [← Rat.mul_assoc, ← Rat.mul_assoc, Rat.inv_mul_cancel _ W0, Rat.one_mul, Rat.one_mul] at e3
      exact e3.symm
    · intro h
      have e3 : ((sN (M i).2 (M i).1 (p i) W x a c : Nat) : Rat) = ((sN (M j).2 (M j).1 (p j) W y a c : Nat) : Rat) := by
        rw [e1, e2]
        show (W : Rat) * csum (M i) (p i) x a c = (W : Rat) * csum (M j) (p j) y a c
        rw [h]
      exact_mod_cast e3
  unfold rwN
  rw [← hm]
  constructor
  · intro h a ha c hc
    have h3 := List.map_inj_left.1 h a ha
    have h4 := List.map_inj_left.1 h3 c (List.mem_range.2 hc)
    exact (hk a ha c).1 h4
  · intro h
    refine List.map_inj_left.2 fun a ha => List.map_inj_left.2 fun c hc => (hk a ha c).2 (h a ha c (List.mem_range.1 hc))
end
section
variable {n K W : Nat} {M : Nat → Mch} {p : Nat → Nat → Nat}
def keysF (n : Nat) (M : Nat → Mch) (p : Nat → Nat → Nat) (K W : Nat) : List Ky := (rms n M).map fun q => keyF M p K W q.1 q.2
theorem key_mem {i x : Nat} (h : Rm n M i x) : keyF M p K W i x ∈ keysF n M p K W := List.mem_map.2 ⟨(i, x), rms_mem.2 h, rfl⟩
theorem PlcP.next (P : PlcP n M p) (ok : MsOk n M W) {f : Ky → Nat} (hf : Rks (PySem.W.dataLe false kyP) (keysF n M p K W) f) : PlcP n M fun i x => f (keyF M p K W i x) := by
  have eqk : ∀ i x j y, Rm n M i x → Rm n M j y → f (keyF M p K W i x) = f (keyF M p K W j y) → keyF M p K W i x = keyF M p K W j y := fun i x j y h1 h2 e => hf.eq _ (key_mem h1) _ (key_mem h2) e
  refine ⟨fun i x j y h1 h2 e => P.men i x j y h1 h2 (congrArg Prod.fst (eqk i x j y h1 h2 e)), fun i x h r hr => ?_, fun i x h => ?_, fun R hR i x j y h => ?_⟩
  · obtain ⟨b, hb, e⟩ := hf.dn _ (key_mem h) r hr
    obtain ⟨q, hq, rfl⟩ := List.mem_map.1 hb
    exact ⟨q.1, q.2, rms_mem.1 hq, e⟩
  · have := hf.bd _ (key_mem h)
    unfold keysF at this
    rwa [List.length_map] at this
  · obtain ⟨r1, r2, hm, hc⟩ := hR i x j y h
    have e1 := P.co R hR i x j y h
    have e2 := (key_same (p := p) (K := K) ok r1 r2 hm).2 fun a ha c _ => hc a ha p (P.co R hR) c
    show f (p i x, _) = f (p j y, _)
    rw [e1, e2]
theorem PlcP.le (P : PlcP n M p) {f : Ky → Nat} (hf : Rks (PySem.W.dataLe false kyP) (keysF n M p K W) f) : ∀ r i x, Rm n M i x → p i x = r → r ≤ f (keyF M p K W i x)
  | 0, _, _, _, _ => Nat.zero_le _
  | r + 1, i, x, h, e => by
    obtain ⟨j, y, hj, ej⟩ := P.dn i x h r (by omega)
    have ih := PlcP.le P hf r j y hj ej
    have lt : (keyF M p K W j y).1 < (keyF M p K W i x).1 := by
      show p j y < p i x
      omega
    have := hf.lt _ (key_mem hj) _ (key_mem h) (kyP_lt lt) (fun e => by rw [e] at lt; omega)
    omega
end
def two (m1 : Nat) (s1 : List Stp) (m2 : Nat) (s2 : List Stp) (i : Nat) : Mch := if i = 0 then (m1, s1) else (m2, s2)
open PySem PySem.Spec PyProof.Rows L2 Pw
abbrev Tri : Type := Nat × Str × Nat
structure TriOk (m : Nat) (tr : List Tri) : Prop where
  m1 : 1 ≤ m
  m5 : m ≤ 5
  ln : tr.length ≤ 20
  nd : (tr.map fun t => (t.1, t.2.1)).Nodup
  rm : ∀ t ∈ tr, t.1 < m
  to : ∀ t ∈ tr, t.2.2 < m
  nm : ∀ t ∈ tr, nmB t.2.1 = true
def unitW (m t : Nat) : List Nat := (List.range m).map fun j => if t = j then 1 else 0
def triS (m : Nat) (tr : List Tri) : List Stp := tr.map fun t => (t.1, t.2.1, unitW m t.2.2)
theorem unitW_sum {t : Nat} : ∀ {m : Nat}, (unitW m t).sum = if t < m then 1 else 0
  | 0 => by simp [unitW]
  | m + 1 => by
    unfold unitW
    rw [List.range_succ, List.map_append, List.sum_append]
    have ih := unitW_sum (t := t) (m := m)
    unfold unitW at ih
    rw [ih]
    by_cases h : t < m
    · rw [if_pos h, if_pos (by omega)]
      simp
      omega
    · rw [if_neg h]
      by_cases e : t = m
      · subst e
        simp
      · rw [if_neg (by omega)]
        simp [e]
theorem TriOk.good {m : Nat} {tr : List Tri} (h : TriOk m tr) : Good m (triS m tr) where
  m1 := h.m1
  m12 := by have := h.m5; omega
  ln := by unfold triS; rw [List.length_map]; have := h.ln; omega
  nd := by
    unfold triS
    rw [List.map_map]
    exact h.nd
  ok := fun s hs => by
    obtain ⟨t, ht, rfl⟩ := List.mem_map.1 hs
    refine ⟨h.rm t ht, h.nm t ht, by simp [unitW], ?_, fun w hw => ?_⟩
    · show 0 < (unitW m t.2.2).sum
      rw [unitW_sum, if_pos (h.to t ht)]
      decide
    · have := sum_of_mem hw
      have e : (unitW m t.2.2).sum ≤ 1 := by rw [unitW_sum]; split <;> decide
      have this : w ≤ (unitW m t.2.2).sum := this
      exact Nat.lt_of_lt_of_le (by omega : w < 2 ^ 1) (Nat.pow_le_pow_right (by decide) (by decide))
open FM (Bq)
theorem mk_sg (ss : List Stp) (x : Str) : x ∈ (mkS ss).map (fun s => s.2.1) ↔ x ∈ ss.map fun s => s.2.1 := by
  constructor
  · intro h
    obtain ⟨s, hs, rfl⟩ := List.mem_map.1 h
    obtain ⟨t, ht, rfl⟩ := mk_mem hs
    exact List.mem_map.2 ⟨t, ht, rfl⟩
  · intro h
    obtain ⟨t, ht, rfl⟩ := List.mem_map.1 h
    exact List.mem_map.2 ⟨lowS t, (mk_perm ss).mem_iff.2 (List.mem_map.2 ⟨t, ht, rfl⟩), rfl⟩
end Far
namespace Pw
open PySem PySem.Spec PyProof.Rows L2
end Pw
namespace Far
open PySem PySem.Spec PyProof.Rows L2 Pw Cg
open FM (Bq)
def LL32 : Nat := 144403552893600
theorem dvd32 {a : Nat} (h0 : 0 < a) (h : a ≤ 32) : a ∣ LL32 := by
  have : ∀ a, a < 33 → 0 < a → LL32 % a = 0 := by decide
  exact Nat.dvd_of_mod_eq_zero (this a (by omega) h0)
def mtD (m : Nat) (ss : List Stp) : D := .tup [.int (m : Int), .lst (ss.map stpD)]
def rw62 (m m' : Nat) (ss ss' : List Stp) (w : List Str) : D := .tup [.lst (w.map D.str), .lst [.lst (prF m (spQ m ss w)), .lst (prF m' (spQ m' ss' w))]]
structure Fw62 (f : Rat) (m m' : Nat) (ss ss' : List Stp) : Prop where
  g1 : Good m ss
  g2 : Good m' ss'
  s1 : ∀ s ∈ ss, s.2.2.sum ≤ 32
  s2 : ∀ s ∈ ss', s.2.2.sum ≤ 32
  f0 : 0 < f
  f1 : f < 1
  fb : Bq 7 f
  few : ∃ xs : List Str, xs.length ≤ 3 ∧ ∀ x, sgB ss ss' x → x ∈ xs
def c_Lfarthest62 (T : Cfg) : PC := fun ds P _ => ∃ (f : Rat) (m m' l : Nat) (ss ss' : List Stp), ds = [prD f, .lst [mtD m ss, mtD m' ss'], .int (l : Nat)] ∧ Fw62 f m m' ss ss' ∧ l ≤ 6 ∧
  ∀ L, SgOf (sgB ss ss') L → P (.tup [prD (farW (valW f m m' (mkS ss) (mkS ss')) L l).1, .lst ((farW (valW f m m' (mkS ss) (mkS ss')) L l).2.map D.str)])
theorem len_Lfarthest62 {T : Cfg} : ∀ ds μ P XP, pu (c_Lfarthest62 T) ds μ P XP → ds.length = 3 := by
  rintro ds μ P XP ⟨rfl, Pf, Xf, ⟨f, m, m', l, ss, ss', rfl, _⟩, _⟩; rfl
def t_Lfarthest62 (T : Cfg) (E : XK) : TS := (tSeq (tAsg (tSortSetT T.K (tLc (iList T.K (tOp rCat (tOp (rIxT T.K) (tOp (rIxL T.K) (tVar 1) (tC (.int 0))) (tC (.int 1))) (tOp (rIxT T.K) (tOp (rIxL T.K) (tVar 1) (tC (.int 1))) (tC (.int 1))))) (gName 14) tYes (tOp (rIxT T.K) (tVar 14) (tC (.int 1))) [14])) (gName 3))
    (tSeq (tAsg (tLst (tCons (tTup (tCons (tLst tNil) (tCons (tLc (iList T.K (tVar 1)) (gTup T.K 2 (gCons (gName 16) (gCons (gName 17) gNil))) tYes (tOp rCat (tLst (tCons (tTup (tCons (tC (.int 1)) (tCons (tC (.int 1)) tNil))) tNil)) (tOp rRep (tLst (tCons (tTup (tCons (tC (.int 0)) (tCons (tC (.int 1)) tNil))) tNil)) (tOp (rI0 fun i j => .int (i - j)) (tVar 16) (tC (.int 1))))) [16, 17]) tNil))) tNil)) (gName 4))
    (tSeq (tAsg (tTup (tCons (tTup (tCons (tC (.int 0)) (tCons (tC (.int 1)) tNil))) (tCons (tLst tNil) tNil))) (gName 5))
    (tSeq (tAsg (tTup (tCons (tC (.int 1)) (tCons (tC (.int 1)) tNil))) (gName 6))
    (tSeq (tFor (iRng1 (tCons (tVar 2) tNil)) (gName 7) (tSeq (tAsg (tLst tNil) (gName 8))
    (tSeq (tAsg (tCall (spOf T (pu (c_Llow T))) [] E0 (tCons (tOp (rI IntMulOk fun i j => .int (i * j)) (tOp (rIxT T.K) (tVar 6) (tC (.int 0))) (tOp (rIxT T.K) (tVar 0) (tC (.int 0)))) (tCons (tOp (rI IntMulOk fun i j => .int (i * j)) (tOp (rIxT T.K) (tVar 6) (tC (.int 1))) (tOp (rIxT T.K) (tVar 0) (tC (.int 1)))) tNil))) (gName 6))
    (tSeq (tFor (iList T.K (tVar 4)) (gTup T.K 2 (gCons (gName 9) (gCons (gName 10) gNil))) (tFor (iList T.K (tVar 3)) (gName 11) (tSeq (tAsg (tLst tNil) (gName 12))
    (tSeq (tFor (iZip T.K (tCons (tVar 1) (tCons (tVar 10) tNil))) (gTup T.K 2 (gCons (gTup T.K 2 (gCons (gName 16) (gCons (gName 17) gNil))) (gCons (gName 15) gNil))) (tDrop (tBM T.K "list" rAppend (tVar 12) (tCons (tCall (spOf T (pu (c_Lspread62 T))) [] E0 (tCons (tVar 17) (tCons (tVar 16) (tCons (tVar 15) (tCons (tVar 11) tNil))))) tNil))))
    (tSeq (tDrop (tBM T.K "list" rAppend (tVar 8) (tCons (tTup (tCons (tOp rCat (tVar 9) (tLst (tCons (tVar 11) tNil))) (tCons (tVar 12) tNil))) tNil)))
    (tSeq (tAsg (tCall (spOf T (pu (c_Lnumber62 T))) [] E0 (tCons (tVar 12) (tCons (tVar 6) tNil))) (gName 13))
    (tIfS (tTest (tOp (rI0 fun i j => .bl (decide (j < i))) (tOp (rI IntMulOk fun i j => .int (i * j)) (tOp (rIxT T.K) (tVar 13) (tC (.int 0))) (tOp (rIxT T.K) (tOp (rIxT T.K) (tVar 5) (tC (.int 0))) (tC (.int 1)))) (tOp (rI IntMulOk fun i j => .int (i * j)) (tOp (rIxT T.K) (tOp (rIxT T.K) (tVar 5) (tC (.int 0))) (tC (.int 0))) (tOp (rIxT T.K) (tVar 13) (tC (.int 1)))))) (tAsg (tTup (tCons (tVar 13) (tCons (tOp rCat (tVar 9) (tLst (tCons (tVar 11) tNil))) tNil))) (gName 5)) tNext)))))))
    (tAsg (tVar 8) (gName 4))))))
    (tRet (tVar 5)))))))
theorem sg_mk (ss ss' : List Stp) (x : Str) : sgB (mkS ss) (mkS ss') x ↔ sgB ss ss' x := by
  unfold sgB
  rw [mk_sg, mk_sg]
theorem sum30' {m : Nat} {ss : List Stp} (hg : Good m ss) (h : ∀ s ∈ ss, s.2.2.sum ≤ 32) : SumN ss LL32 48 := ⟨by decide, by decide, by decide, fun s hs => dvd32 (hg.ok s hs).ps (h s hs)⟩
section
variable {f : Rat} {m m' : Nat} {ss ss' : List Stp}
theorem Fw62.fw (A : Fw62 f m m' ss ss') : FwOk f m m' (mkS ss) (mkS ss') LL32 48 :=
  ⟨A.g1.made, A.g2.made, A.f0, A.f1, A.fb.mono (by decide), sum30' A.g1.made (mk_sum A.s1), sum30' A.g2.made (mk_sum A.s2), by decide, by
    obtain ⟨xs, h1, h2⟩ := A.few
    exact ⟨xs, h1, fun x hx => h2 x ((sg_mk _ _ x).1 hx)⟩⟩
theorem Fw62.sp1 (A : Fw62 f m m' ss ss') (w : List Str) : SpOk m (LL32 ^ w.length) (spQ m ss w) := sp_ok0 (sum30' A.g1 A.s1) A.g1 w
theorem Fw62.sp2 (A : Fw62 f m m' ss ss') (w : List Str) : SpOk m' (LL32 ^ w.length) (spQ m' ss' w) := sp_ok0 (sum30' A.g2 A.s2) A.g2 w
theorem Fw62.val (A : Fw62 f m m' ss ss') (w : List Str) : absQ (rS m (spQ m ss w) - rS m' (spQ m' ss' w)) * f ^ w.length = valW f m m' (mkS ss) (mkS ss') w := by
  unfold valW chQ
  rw [sp_ch A.g1, sp_ch A.g2, chL_mk62 A.g1, chL_mk62 A.g2]
  exact Rat.mul_comm _ _
end
theorem ll_pow {k : Nat} (h : k ≤ 6) : LL32 ^ k < 2 ^ 2000 := by
  have h1 : LL32 ^ k ≤ (2 ^ 48) ^ k := Nat.pow_le_pow_left (by decide) k
  rw [← Nat.pow_mul] at h1
  exact Nat.lt_of_le_of_lt h1 (Nat.pow_lt_pow_right (by decide) (by omega))
theorem ll_mul {k : Nat} (h : k ≤ 5) : LL32 ^ k * LL32 < 2 ^ 2000 := by
  rw [← Nat.pow_succ]
  exact ll_pow (by omega)
theorem prF_begun {m : Nat} (ss : List Stp) (h : 1 ≤ m) : D.tup [.int 1, .int 1] :: List.replicate (m - 1) (D.tup [.int 0, .int 1]) = prF m (spQ m ss []) := by
  obtain ⟨m, rfl⟩ : ∃ n, m = n + 1 := ⟨m - 1, by omega⟩
  unfold prF
  rw [List.range_succ_eq_map, List.map_cons, List.map_map, Nat.add_sub_cancel]
  refine congr (congrArg List.cons rfl) ?_
  have h : (List.range m).map (fun _ => D.tup [.int 0, .int 1]) = List.replicate (List.range m).length (D.tup [.int 0, .int 1]) := List.map_const'
  rw [List.length_range] at h
  rw [← h]
  rfl
def chs (L : List Str) (ws : List (List Str)) : List (List Str) := ws.flatMap fun w => L.map fun x => w ++ [x]
theorem chs_snoc (L : List Str) (ws : List (List Str)) (w : List Str) : chs L (ws ++ [w]) = chs L ws ++ L.map fun x => w ++ [x] := by
  unfold chs
  rw [List.flatMap_append, List.flatMap_cons, List.flatMap_nil, List.append_nil]
theorem chs_len (L : List Str) (ws : List (List Str)) : (chs L ws).length = ws.length * L.length := by
  induction ws with
  | nil => simp [chs]
  | cons w ws ih =>
    unfold chs at ih ⊢
    rw [List.flatMap_cons, List.length_append, ih, List.length_map, List.length_cons, Nat.succ_mul]
    omega
theorem chs_mem {L : List Str} {k : Nat} {ws : List (List Str)} (h : ∀ w ∈ ws, w.length = k) {v : List Str} (hv : v ∈ chs L ws) : v.length = k + 1 := by
  obtain ⟨w, hw, h2⟩ := List.mem_flatMap.1 hv
  obtain ⟨x, _, rfl⟩ := List.mem_map.1 h2
  rw [List.length_append, h w hw]
  rfl
theorem begun62 {T : Cfg} {m : Nat} {ss : List Stp} {μ : Mu} {P : D → Mu → Prop} (m1 : 1 ≤ m) (m12 : m ≤ 12) (k : P (.lst (prF m (spQ m ss []))) μ) : OV T rRep (.lst [.tup [.int 0, .int 1]]) (.int ((m : Int) - 1)) μ fun e μ2 => OV T rCat (.lst [.tup [.int 1, .int 1]]) e μ2 P := by
  rw [show (m : Int) - 1 = ((m - 1 : Nat) : Int) by omega]
  refine ov_rep (by omega) (by simp; omega) ?_
  rw [show (List.replicate (m - 1) [D.tup [.int 0, .int 1]]).flatten = List.replicate (m - 1) (D.tup [.int 0, .int 1]) by simp]
  refine ov_cat (by simp; omega) ?_
  rw [show [D.tup [.int 1, .int 1]] ++ List.replicate (m - 1) (D.tup [.int 0, .int 1]) = prF m (spQ m ss []) from prF_begun ss m1]
  exact k
theorem pure_Lfarthest62 {T : Cfg} (hT : ShOk T) : ∀ E ds μ P XP, pu (c_Lfarthest62 T) ds μ P XP → SV T (t_Lfarthest62 T E) (fun cls dd _ H => E cls dd H) ⟨slots 18 ds, μ⟩ (fnK P XP) := Hd.o (by
 simp (disch :=
 with_unfolding_all
 exact by
  rintro E ds μ P XP ⟨rfl, Pf, Xf, ⟨f, m, m', l, ss, ss', rfl, A, hl, p⟩, hP, hX⟩
  have l1 := A.g1.ln
  have l2 := A.g2.ln
  unfold t_Lfarthest62
  refine sv_seq (sv_asg (ev_sortSetT (ev_lcF ?_)))
  walk_at "pks"
  refine ov_ixL (.inl rfl) (e := mtD m ss) rfl ?_
  walk_at "pks"
  refine ov_ixT (e := .lst (ss.map stpD)) rfl ?_
  walk_at "pks"
  refine ov_ixL (.inl rfl) (e := mtD m' ss') rfl ?_
  walk_at "pks"
  refine ov_ixT (e := .lst (ss'.map stpD)) rfl ?_
  refine ov_cat (by simp; omega) ?_
  rw [← List.map_append]
  refine ⟨(ss ++ ss').map stpD, fun e => match e with | .tup [_, x, _] => x | d => d, .inl rfl, by rw [List.length_map, List.length_append]; omega, fun e he => ?_, ?_⟩
  · obtain ⟨s, hs, rfl⟩ := List.mem_map.1 he
    walk_at "pks"
    refine ov_ixT (e := .str s.2.1) rfl ?_
    exact ⟨rfl, rfl⟩
  rw [List.map_map]
  refine ⟨(ss ++ ss').map fun s => s.2.1, .inl (by rw [List.map_map]; rfl), by rw [List.length_map, List.length_append]; omega, fun L nd mem so => ?_⟩
  have hL : SgOf (sgB ss ss') L := ⟨nd, fun k => by rw [mem, List.map_append, List.mem_append]; rfl, so⟩
  obtain ⟨xs, x3, hx⟩ := A.few
  have L3 : L.length ≤ 3 := Nat.le_trans (sg_len hL hx) x3
  have p := hP _ (p L hL)
  clear nd mem so
  refine seqK_nx (sv_seq (sv_asg (ev_lst (ea_cons (ev_tup (ea_cons (ev_lst (ea_nil ⟨by simp, ?_⟩))))))))
  refine ea_cons (ev_lcX2 (iv_list (ev_var rfl ⟨_, .inl rfl, by simp, fun k => [D.lst (prF m (spQ m ss [])), D.lst (prF m' (spQ m' ss' []))][k]?, fun k hk => ?_, ?_⟩)))
  · have hk : k < 2 := by simpa using hk
    match k, hk with
    | 0, _ =>
      refine ⟨_, _, rfl, tv_yes ⟨rfl, fun _ => ?_, fun h => nomatch h⟩⟩
      walk_at "pks"
      exact begun62 (ss := ss) A.g1.m1 A.g1.m12 ⟨rfl, rfl⟩
    | 1, _ =>
      refine ⟨_, _, rfl, tv_yes ⟨rfl, fun _ => ?_, fun h => nomatch h⟩⟩
      walk_at "pks"
      exact begun62 (ss := ss') A.g2.m1 A.g2.m12 ⟨rfl, rfl⟩
  refine ea_nil ⟨by simp, ?_⟩
  refine ea_nil ⟨by simp, ?_⟩
  walk_at "pks"
  have B := A.fw
  generalize hV : valW f m m' (mkS ss) (mkS ss') = V at p
  have bV : ∀ w : List Str, w.length ≤ 6 → Bq 2200 (V w) := fun w hw => by rw [← hV]; exact (B.val hw).2.1
  have vV : ∀ w : List Str, absQ (rS m (spQ m ss w) - rS m' (spQ m' ss' w)) * f ^ w.length = V w := fun w => by rw [A.val, hV]
  have hb0 : ∀ k, k ≤ l → Bq 2200 (farW V L k).1 := fun k hk => far_inv (Q := fun a => Bq 2200 a.1) (bq00.mono (by decide)) k fun w hw _ => bV w (by omega)
  refine sv_forX (X := Unit) (fun k _ => [some (prD f), some (.lst [mtD m ss, mtD m' ss']), some (.int (l : Nat)), some (.lst (L.map D.str)), some (.lst ((wds L k).map (rw62 m m' ss ss'))), some (.tup [prD (farW V L k).1, .lst ((farW V L k).2.map D.str)]), some (prD (f ^ k)), none, none, none, none, none, none, none, none, none, none, none]) (fun _ _ μ => μ = mu0) (iv_rng1 (ea_cons (ev_var rfl (ea_nil ⟨_, rfl, by omega, by omega, (), ?_, rfl, fun k _ μ hk hJ => ?_, fun s' _ hr hJ => ?_⟩))))
  · rw [Rat.pow_zero]
    walk_at "le"
  · subst hJ
    have hk : k < l := by simpa using hk
    have wl : (wds L k).length ≤ 3 ^ 6 := by
      rw [wds_len]
      exact Nat.le_trans (Nat.pow_le_pow_left L3 k) (Nat.pow_le_pow_right (by decide) (by omega))
    have bf : Bq 60 (f ^ k) := (bq_powf A.fb k).mono (by omega)
    have bf' : Bq 60 (f ^ (k + 1)) := (bq_powf A.fb (k + 1)).mono (by omega)
    have nf := f.den_nz
    have nfk := (f ^ k).den_nz
    dsimp only [List.set]
    refine sv_seq (sv_asg (ev_lstM (ea_nil ⟨by simp, fun p1 hp1 => ?_⟩)))
    walk_at "pks"
    refine ov_ixT (e := .int (f ^ k).num) rfl ?_
    walk_at "pks"
    refine ov_ixT (e := .int f.num) rfl ?_
    walk_at "pks"
    refine ov_mul (Bt.ok (bt_num bf) (bt_num A.fb) (by decide)) ?_
    walk_at "pks"
    refine ov_ixT (e := .int ((f ^ k).den : Int)) rfl ?_
    walk_at "pks"
    refine ov_ixT (e := .int (f.den : Int)) rfl ?_
    walk_at "pks"
    refine ov_mul (Bt.ok (bt_den bf) (bt_den A.fb) (by decide)) ?_
    walk_at "pks"
    refine low_i (Int.mul_ne_zero (by omega) (by omega)) (((bt_den bf).mul (bt_den A.fb)).mono (by decide)) ?_
    rw [d_mul, Rat.num_divInt_den, Rat.num_divInt_den, ← Rat.pow_succ]
    walk_at "pks"
    refine sv_forX2 (X := Unit) (fun j _ => [some (prD f), some (.lst [mtD m ss, mtD m' ss']), some (.int (l : Nat)), some (.lst (L.map D.str)), some (.lst ((wds L k).map (rw62 m m' ss ss'))), some (.tup [prD (bst V (chs L ((wds L k).take j)) (farW V L k)).1, .lst ((bst V (chs L ((wds L k).take j)) (farW V L k)).2.map D.str)]), some (prD (f ^ (k + 1))), none, some (.ptr p1), none, none, none, none, none, none, none, none, none]) (fun j _ μ => μ = put mu0 p1 (.lst ((chs L ((wds L k).take j)).map (rw62 m m' ss ss')))) (iv_list (ev_var rfl ⟨_, .inl rfl, (), by walk_at "le", rfl, fun j _ μ hj hJ => ?_, fun s' _ hr hJ => ?_⟩))
    · have hJ : μ = _ := hJ
      subst hJ
      have hj : j < (wds L k).length := by simpa using hj
      have hje : (wds L k)[j]? = some (wds L k)[j] := List.getElem?_eq_getElem hj
      have hjm := List.getElem_mem hj
      have et : (wds L k).take (j + 1) = (wds L k).take j ++ [(wds L k)[j]] := by rw [List.take_succ, hje]; rfl
      rw [nth_of (d := rw62 m m' ss ss' (wds L k)[j]) (by rw [List.getElem?_map, hje]; rfl)]
      generalize (wds L k)[j] = w at hjm et
      have wk := (wds_mem.1 hjm).1
      have tl : (chs L ((wds L k).take j)).length ≤ 50000 := by
        rw [chs_len]
        exact Nat.le_trans (Nat.mul_le_mul (Nat.le_trans (List.length_take_le' _ _) wl) L3) (by decide)
      have hw0 : ∀ v ∈ chs L ((wds L k).take j), v.length = k + 1 := fun v hv => chs_mem (fun u hu => (wds_mem.1 (List.mem_of_mem_take hu)).1) hv
      have ez : chs L ((wds L k).take (j + 1)) = chs L ((wds L k).take j) ++ L.map fun x => w ++ [x] := by rw [et, chs_snoc]
      generalize chs L ((wds L k).take j) = Z at tl hw0 ez ⊢
      refine ⟨_, _, rfl, ?_⟩
      dsimp only [List.set]
      refine sv_forX (X := Unit) (fun i _ => [some (prD f), some (.lst [mtD m ss, mtD m' ss']), some (.int (l : Nat)), some (.lst (L.map D.str)), some (.lst ((wds L k).map (rw62 m m' ss ss'))), some (.tup [prD (bst V (Z ++ (L.take i).map fun x => w ++ [x]) (farW V L k)).1, .lst ((bst V (Z ++ (L.take i).map fun x => w ++ [x]) (farW V L k)).2.map D.str)]), some (prD (f ^ (k + 1))), none, some (.ptr p1), some (.lst (w.map D.str)), some (.lst [.lst (prF m (spQ m ss w)), .lst (prF m' (spQ m' ss' w))]), none, none, none, none, none, none, none]) (fun i _ μ => μ = put mu0 p1 (.lst ((Z ++ (L.take i).map fun x => w ++ [x]).map (rw62 m m' ss ss')))) (iv_list (ev_var rfl ⟨_, .inl rfl, (), by rw [List.take_zero, List.map_nil, List.append_nil]; walk_at "le", by rw [List.take_zero, List.map_nil, List.append_nil], fun i _ μ hi hJ => ?_, fun s' _ hr hJ => ?_⟩))
      · have hJ : μ = _ := hJ
        subst hJ
        have hi : i < L.length := by simpa using hi
        have hie : L[i]? = some L[i] := List.getElem?_eq_getElem hi
        have eti : L.take (i + 1) = L.take i ++ [L[i]] := by rw [List.take_succ, hie]; rfl
        rw [nth_of (d := .str L[i]) (by rw [List.getElem?_map, hie]; rfl)]
        have ei : (Z ++ (L.take (i + 1)).map fun x => w ++ [x]) = (Z ++ (L.take i).map fun x => w ++ [x]) ++ [w ++ [L[i]]] := by rw [eti, List.map_append, ← List.append_assoc]; rfl
        have yl : (Z ++ (L.take i).map fun x => w ++ [x]).length ≤ 60000 := by
          rw [List.length_append, List.length_map]
          have := List.length_take_le' i L
          omega
        have yw : ∀ v ∈ Z ++ (L.take i).map fun x => w ++ [x], v.length = k + 1 := fun v hv => by
          rcases List.mem_append.1 hv with h | h
          · exact hw0 v h
          · obtain ⟨x, _, rfl⟩ := List.mem_map.1 h
            rw [List.length_append, wk]
            rfl
        generalize L[i] = x at ei
        generalize (Z ++ (L.take i).map fun x => w ++ [x]) = Y at ei yl yw ⊢
        have bb : Bq 2200 (bst V Y (farW V L k)).1 := bst_inv (Q := fun a => Bq 2200 a.1) _ _ (hb0 k (by omega)) fun v hv => bV v (by rw [yw v hv]; omega)
        have wx : (w ++ [x]).length = k + 1 := by rw [List.length_append, wk]; rfl
        have bx := bV (w ++ [x]) (by omega)
        have vx := vV (w ++ [x])
        rw [wx] at vx
        dsimp only [List.set]
        refine sv_seq (sv_asg (ev_lstM (ea_nil ⟨by simp, fun p2 hp2 => ?_⟩)))
        have p12 : p1 ≠ p2 := fun e => by rw [← e, put_same] at hp2; cases hp2
        refine seqK_nx (sv_seq (sv_for (is := ([16] ++ ([17] ++ [])) ++ ([15] ++ [])) (iv_zip (ea_cons (ev_var rfl (ea_cons (ev_var rfl (ea_nil ⟨_, _, _, _, rfl, .inl rfl, .inl rfl, fun t s => leR [some (prD f), some (.lst [mtD m ss, mtD m' ss']), some (.int (l : Nat)), some (.lst (L.map D.str)), some (.lst ((wds L k).map (rw62 m m' ss ss'))), some (.tup [prD (bst V Y (farW V L k)).1, .lst ((bst V Y (farW V L k)).2.map D.str)]), some (prD (f ^ (k + 1))), none, some (.ptr p1), some (.lst (w.map D.str)), some (.lst [.lst (prF m (spQ m ss w)), .lst (prF m' (spQ m' ss' w))]), some (.str x), some (.ptr p2), none, none, none, none, none] s.r ∧ s.m = put (put mu0 p1 (.lst (Y.map (rw62 m m' ss ss')))) p2 (.lst ([D.lst (prF m (spQ m ss (w ++ [x]))), D.lst (prF m' (spQ m' ss' (w ++ [x])))].take t)), ⟨by walk_at "le", rfl⟩, fun t s ht hI => ?_, fun s hI => ?_⟩))))))))
        · obtain ⟨ρ, μ⟩ := s
          obtain ⟨hl', hμ⟩ := hI
          have hl' : leR _ ρ := hl'
          have hμ : μ = _ := hμ
          subst hμ
          have ht : t < 2 := by simpa using ht
          match t, ht with
          | 0, _ =>
            show GV T _ _ (D.tup [mtD m ss, .lst (prF m (spQ m ss w))]) _ _
            refine gv_tup rfl (gvs_cons (gv_tup rfl (gvs_cons (gv_name (gvs_cons (gv_name (gvs_nil (gvs_cons (gv_name (gvs_nil ?_))))))))))
            refine sv_wk (((hl'.set _ _).set _ _).set _ _) sub_refl ?_
            dsimp only [List.set]
            refine sv_app (ev_var rfl ⟨p2, _, rfl, put_same, ?_⟩)
            walk_at "pks"
            refine ⟨m, LL32, 48, LL32 ^ w.length, ss, spQ m ss w, x, rfl, A.g1, fun s hs => Nat.lt_of_le_of_lt (A.s1 s hs) (by decide), sum30' A.g1 A.s1, A.sp1 w, ll_mul (by omega), ?_⟩
            refine ⟨_, put_same, by simp, ⟨by walk_at "le", ?_⟩⟩
            dsimp only
            rw [put_put, ← spQ_snoc]
            rfl
          | 1, _ =>
            show GV T _ _ (D.tup [mtD m' ss', .lst (prF m' (spQ m' ss' w))]) _ _
            refine gv_tup rfl (gvs_cons (gv_tup rfl (gvs_cons (gv_name (gvs_cons (gv_name (gvs_nil (gvs_cons (gv_name (gvs_nil ?_))))))))))
            refine sv_wk (((hl'.set _ _).set _ _).set _ _) sub_refl ?_
            dsimp only [List.set]
            refine sv_app (ev_var rfl ⟨p2, _, rfl, put_same, ?_⟩)
            walk_at "pks"
            refine ⟨m', LL32, 48, LL32 ^ w.length, ss', spQ m' ss' w, x, rfl, A.g2, fun s hs => Nat.lt_of_le_of_lt (A.s2 s hs) (by decide), sum30' A.g2 A.s2, A.sp2 w, ll_mul (by omega), ?_⟩
            refine ⟨_, put_same, by simp, ⟨by walk_at "le", ?_⟩⟩
            dsimp only
            rw [put_put, ← spQ_snoc]
            rfl
        · obtain ⟨ρ, μ⟩ := s
          obtain ⟨hl', hμ⟩ := hI
          have hl' : leR _ ρ := hl'
          have hμ : μ = put (put mu0 p1 (.lst (Y.map (rw62 m m' ss ss')))) p2 (.lst [D.lst (prF m (spQ m ss (w ++ [x]))), D.lst (prF m' (spQ m' ss' (w ++ [x])))]) := hμ
          subst hμ
          refine seqK_nx (sv_wkR (s := ⟨_, _⟩) hl' ?_)
          dsimp only
          refine sv_frz (i := 12) rfl put_same ?_
          dsimp only [List.set]
          rw [del_put hp2]
          refine sv_seq (sv_app (ev_var rfl ⟨p1, _, rfl, put_same, ?_⟩))
          refine ev_tup (ea_cons (ev_op ?_))
          walk_at "pks"
          refine ov_cat (by simp; omega) ?_
          refine ea_cons (ev_var rfl (ea_nil ⟨by simp, ?_⟩))
          refine ⟨_, put_same, by rw [List.length_map]; omega, ?_⟩
          rw [put_put, show Y.map (rw62 m m' ss ss') ++ [D.tup [.lst (w.map D.str ++ [.str x]), .lst [.lst (prF m (spQ m ss (w ++ [x]))), .lst (prF m' (spQ m' ss' (w ++ [x])))]]] = (Y ++ [w ++ [x]]).map (rw62 m m' ss ss') by rw [List.map_append]; unfold rw62; rw [List.map_cons, List.map_append]; rfl, ← ei]
          walk_at "pks"
          have sp1 := A.sp1 (w ++ [x])
          have sp2 := A.sp2 (w ++ [x])
          rw [wx] at sp1 sp2
          refine ⟨m, m', LL32 ^ (k + 1), _, _, f ^ (k + 1), rfl, A.g1.m12, A.g2.m12, sp1, sp2, ll_pow (by omega), bf'.mono (by decide), ?_⟩
          rw [vx]
          have hle := FM.less_iff (bst V Y (farW V L k)).1 (V (w ++ [x]))
          have es := bst_snoc V Y (w ++ [x]) (farW V L k)
          have en : (bst V (Y ++ [w ++ [x]]) (farW V L k)) = if (bst V Y (farW V L k)).1 < V (w ++ [x]) then (V (w ++ [x]), w ++ [x]) else bst V Y (farW V L k) := es
          walk_at "pks"
          refine ov_ixT (e := .int (V (w ++ [x])).num) rfl ?_
          walk_at "pks"
          refine ov_ixT (e := .int ((bst V Y (farW V L k)).1.den : Int)) rfl ?_
          walk_at "pks"
          refine ov_mul (Bt.ok (bt_num bx) (bt_den bb) (by decide)) ?_
          walk_at "pks"
          refine ov_ixT (e := .int (bst V Y (farW V L k)).1.num) rfl ?_
          walk_at "pks"
          refine ov_ixT (e := .int ((V (w ++ [x])).den : Int)) rfl ?_
          walk_at "pks"
          refine ov_mul (Bt.ok (bt_num bb) (bt_den bx) (by decide)) ?_
          walk_at "pks"
          refine ⟨fun h => ?_, fun h => ?_⟩
          · have h := hle.1 (of_decide_eq_true h)
            walk_at "pks"
            refine ov_cat (by simp; omega) ?_
            walk_at "pks"
            refine ⟨(), ?_, rfl⟩
            dsimp only
            rw [ei, en, if_pos h, List.map_append]
            walk_at "le"
          · have h : ¬ (bst V Y (farW V L k)).1 < V (w ++ [x]) := fun z => of_decide_eq_false h (hle.2 z)
            walk_at "pks"
            refine ⟨(), ?_, rfl⟩
            dsimp only
            rw [ei, en, if_neg h]
            walk_at "le"
      · obtain ⟨ρ, μ⟩ := s'
        have hJ : μ = _ := hJ
        rw [List.length_map, List.take_length] at hJ hr
        rw [← ez] at hJ hr
        refine ⟨(), leR.trans (by walk_at "le") hr, hJ⟩
    · obtain ⟨ρ, μ⟩ := s'
      have hJ : μ = _ := hJ
      rw [List.length_map, List.take_length] at hJ hr
      refine seqK_nx (sv_wkR (s := ⟨_, _⟩) hr ?_)
      dsimp only
      subst hJ
      refine sv_frz (i := 8) rfl put_same ?_
      dsimp only [List.set]
      rw [del_put hp1]
      walk_at "pks"
      exact ⟨(), by walk_at "le", rfl⟩
  · obtain ⟨ρ, μ⟩ := s'
    have hJ : mu0 = μ := Eq.symm hJ
    subst hJ
    refine seqK_nx (sv_wkR (s := ⟨_, _⟩) hr ?_)
    dsimp only
    rw [show ((l : Nat) : Int).toNat = l from rfl]
    walk_at "pks"
    exact p
 ) only [↓hE])
end Far
namespace Pw
open PySem PySem.Spec PyProof.Rows L2
theorem ev_fgtS {T : Cfg} {W : WX} {ρ : List (Option D)} {m0 : Mu} {P : D → Mu → Prop} {XP : XW} {te : TE} (h : EV T te W ⟨ρ, m0⟩ (fun d μ => ∃ μ', Subm μ' μ ∧ P d μ') XP) : EV T te W ⟨ρ, m0⟩ P XP := fun σ Hb H Q S q x => h σ Hb H Q S (fun d μ v Hb' H' g r ⟨μ', hs, p⟩ => q d μ' v Hb' H' (g.forget hs) r p) x
end Pw
namespace Far
open PySem PySem.Spec PyProof.Rows L2 Pw Cg
open FM (Bq)
def c_farthest_wordN (T : Cfg) : Ct := fun ds μ P _ => ∃ (f : Rat) (m m' N hb l : Nat) (s1 s2 : List Stp), ds = [shD f, maD m s1, maD m' s2, .int (l : Nat)] ∧ FwOk f m m' s1 s2 N hb ∧ l ≤ 6 ∧
  ∀ L, SgOf (sgB s1 s2) L → ∀ q, μ q = none → P (.tup [shD (farW (valW f m m' s1 s2) L l).1, .ptr q]) (put μ q (.lst ((farW (valW f m m' s1 s2) L l).2.map D.str)))
theorem len_farthest_wordN {T : Cfg} : ∀ ds μ P XP, c_farthest_wordN T ds μ P XP → ds.length = 4 := by
  rintro ds μ P XP ⟨f, m, m', N, hb, l, s1, s2, rfl, _⟩; rfl
def t_farthest_wordN (T : Cfg) (E : XK) : TS := (tSeq (tDrop (tCall (spOf T (pu (c_check_words T))) [] E0 (tCons (tVar 0) (tCons (tVar 1) (tCons (tVar 2) (tCons (tVar 3) tNil))))))
    (tSeq (tAsg (tTup (tCons (tMake (T.cls 7) (spOf T (c_Going___init__ T)) [] E0 (tCons (tVar 1) tNil)) (tCons (tMake (T.cls 7) (spOf T (c_Going___init__ T)) [] E0 (tCons (tVar 2) tNil)) tNil))) (gTup T.K 2 (gCons (gName 9) (gCons (gName 10) gNil))))
    (tSeq (tAsg (tSortSetT T.K (tOp rCat (tCall (spOf T (pu (c_signs_of T))) [] E0 (tCons (tVar 1) tNil)) (tCall (spOf T (pu (c_signs_of T))) [] E0 (tCons (tVar 2) tNil)))) (gName 4))
    (tSeq (tAsg (tLst (tCons (tTup (tCons (tLst tNil) (tCons (tMeth (T.cls 7) "begun" (spOf T (c_Going_begun T)) [] E0 (tVar 9) tNil) (tCons (tMeth (T.cls 7) "begun" (spOf T (c_Going_begun T)) [] E0 (tVar 10) tNil) tNil)))) tNil)) (gName 5))
    (tSeq (tAsg (tTup (tCons (tMake (T.cls 0) (spOf T (ini 0 (c_Share___init__ T))) [.int 1] E0 (tCons (tC (.int 0)) tNil)) (tCons (tLst tNil) tNil))) (gName 6))
    (tSeq (tAsg (tMake (T.cls 0) (spOf T (ini 0 (c_Share___init__ T))) [.int 1] E0 (tCons (tC (.int 1)) tNil)) (gName 7))
    (tSeq (tFor (iRng1 (tCons (tVar 3) tNil)) (gName 8) (tSeq (tAsg (tLst tNil) (gName 11))
    (tSeq (tFor (iList T.K (tVar 5)) (gTup T.K 3 (gCons (gName 12) (gCons (gName 13) (gCons (gName 14) gNil)))) (tDrop (tBM T.K "list" rExtend (tVar 11) (tCons (tLc (iList T.K (tVar 4)) (gName 17) tYes (tTup (tCons (tOp rCat (tVar 12) (tLst (tCons (tVar 17) tNil))) (tCons (tMeth (T.cls 7) "gone" (spOf T (c_Going_gone T)) [] E0 (tVar 9) (tCons (tVar 13) (tCons (tVar 17) tNil))) (tCons (tMeth (T.cls 7) "gone" (spOf T (c_Going_gone T)) [] E0 (tVar 10) (tCons (tVar 14) (tCons (tVar 17) tNil))) tNil)))) [17]) tNil))))
    (tSeq (tAsg (tVar 11) (gName 5))
    (tSeq (tAsg (tCall (spOf T (pu (c_times T))) [] E0 (tCons (tVar 7) (tCons (tVar 0) tNil))) (gName 7))
    (tFor (iList T.K (tVar 5)) (gTup T.K 3 (gCons (gName 12) (gCons (gName 13) (gCons (gName 14) gNil)))) (tSeq (tAsg (tCall (spOf T (pu (c_minus T))) [] E0 (tCons (tCall (spOf T (pu (c_share_of T))) [] E0 (tCons (tVar 13) tNil)) (tCons (tCall (spOf T (pu (c_share_of T))) [] E0 (tCons (tVar 14) tNil)) tNil))) (gName 15))
    (tSeq (tAsg (tCall (spOf T (pu (c_times T))) [] E0 (tCons (tVar 7) (tCons (tMake (T.cls 0) (spOf T (ini 0 (c_Share___init__ T))) [] E0 (tCons (tCB rAbs (tCons (tFld T.K (tVar 15) "top") tNil)) (tCons (tFld T.K (tVar 15) "bottom") tNil))) tNil))) (gName 16))
    (tIfS (tB (tCall (spOf T (pu (c_less T))) [] E0 (tCons (tOp (rIxT T.K) (tVar 6) (tC (.int 0))) (tCons (tVar 16) tNil)))) (tAsg (tTup (tCons (tVar 16) (tCons (tVar 12) tNil))) (gName 6)) tNext)))))))))
    (tRet (tTup (tCons (tOp (rIxT T.K) (tVar 6) (tC (.int 0))) (tCons (tCB (rListOf T.K) (tCons (tOp (rIxT T.K) (tVar 6) (tC (.int 1))) tNil)) tNil)))))))))))
theorem pure_farthest_wordN {T : Cfg} (hG : GngOk T) : ∀ E ds μ P XP, c_farthest_wordN T ds μ P XP → SV T (t_farthest_wordN T E) (fun cls dd _ H => E cls dd H) ⟨slots 18 ds, μ⟩ (fnK P XP) := Hd.o (by
 simp (disch :=
 with_unfolding_all
 exact by
  rintro E ds μi P XP ⟨f, m, m', N, hb, l, s1, s2, rfl, A, hl, p⟩
  have hT := hG.ma
  have hS := hT.sh
  unfold t_farthest_wordN
  walk_at "pks"
  refine ⟨f, m, m', N, hb, l, s1, s2, rfl, A, hl, ?_⟩
  refine seqK_nx (sv_seq (sv_asgG (is := [9] ++ ([10] ++ [])) (ev_tup (ea_cons (ev_makA ?_)))))
  walk_at "pks"
  intro a1 n1
  refine ⟨a1, m, N, hb, s1, rfl, put_same, A.g1, A.n1, fun μ1 b1 r1 G1 k1 => ⟨rfl, ?_⟩⟩
  refine ea_cons (ev_makA ?_)
  walk_at "pks"
  intro a2 n2
  refine ⟨a2, m', N, hb, s2, rfl, put_same, A.g2, A.n2, fun μ2 b2 r2 G2 k2 => ⟨rfl, ea_nil ⟨by simp, ?_⟩⟩⟩
  have G1 : GM μ2 a1 b1 r1 m s1 := G1.imp fun a z h => by
    have ne : a ≠ a2 := fun e => by rw [e, n2] at h; cases h
    exact k2 a z ne (by rw [put_ne ne]; exact h)
  refine gv_tup rfl (gvs_cons (gv_name (gvs_cons (gv_name (gvs_nil ?_)))))
  have k0 : Subm μi μ2 := fun c z h => by
    have ne1 : c ≠ a1 := fun e => by rw [e, n1] at h; cases h
    have h1 := k1 c z ne1 (by rw [put_ne ne1]; exact h)
    have ne2 : c ≠ a2 := fun e => by rw [e, n2] at h1; cases h1
    exact k2 c z ne2 (by rw [put_ne ne2]; exact h1)
  clear n1 k1 n2 k2
  refine seqK_nx (sv_seq (sv_asg (ev_sortSetT (ev_op ?_))))
  walk_at "pks"
  refine ⟨m, s1, rfl, A.g1, fun L1 h1 => ?_⟩
  walk_at "pks"
  refine ⟨m', s2, rfl, A.g2, fun L2 h2 => ?_⟩
  have l1 := A.g1.ln
  have l2 := A.g2.ln
  have e1 := nodup_len h1.nd fun x hx => (h1.mem x).1 hx
  have e2 := nodup_len h2.nd fun x hx => (h2.mem x).1 hx
  rw [List.length_map] at e1 e2
  refine ov_cat (by simp; omega) ?_
  rw [← List.map_append]
  refine ⟨L1 ++ L2, .inl rfl, by rw [List.length_append]; omega, fun L nd mem so => ?_⟩
  have hL : SgOf (sgB s1 s2) L := ⟨nd, fun k => by rw [mem, List.mem_append, h1.mem, h2.mem]; rfl, so⟩
  obtain ⟨xs, x3, hx⟩ := A.few
  have L3 : L.length ≤ 3 := Nat.le_trans (sg_len hL hx) x3
  clear e1 e2 h1 h2 L1 L2 nd mem so l1 l2
  have p := p L hL
  refine seqK_nx (sv_seq (sv_asg (ev_lst (ea_cons (ev_tup (ea_cons (ev_lst (ea_nil ⟨by simp, ?_⟩))))))))
  refine ea_cons (ev_meth (ev_var rfl ⟨a1, _, rfl, G1.self, rfl, ea_nil ?_⟩))
  refine ⟨a1, b1, r1, m, s1, rfl, G1, A.g1.m12, ?_⟩
  refine ea_cons (ev_meth (ev_var rfl ⟨a2, _, rfl, G2.self, rfl, ea_nil ?_⟩))
  refine ⟨a2, b2, r2, m', s2, rfl, G2, A.g2.m12, ea_nil ⟨by simp, ?_⟩⟩
  refine ea_nil ⟨by simp, ?_⟩
  walk_at "pks"
  have hb0 : ∀ k, k ≤ l → Bq 2200 (farW (valW f m m' s1 s2) L k).1 := fun k hk => far_inv (Q := fun a => Bq 2200 a.1) (bq00.mono (by decide)) k fun w hw _ => (A.val (by omega)).2.1
  refine sv_forX (X := Unit) (fun k _ => [some (shD f), some (maD m s1), some (maD m' s2), some (.int (l : Nat)), some (.lst (L.map D.str)), some (.lst ((wds L k).map (rwD m m' s1 s2))), some (.tup [shD (farW (valW f m m' s1 s2) L k).1, .lst ((farW (valW f m m' s1 s2) L k).2.map D.str)]), some (shD (f ^ k)), none, some (.ptr a1), some (.ptr a2), none, none, none, none, none, none, none]) (fun _ _ μ => μ = μ2) (iv_rng1 (ea_cons (ev_var rfl (ea_nil ⟨_, rfl, by omega, by omega, (), ?_, rfl, fun k _ μ hk hJ => ?_, fun s' _ hr hJ => ?_⟩))))
  · rw [Rat.pow_zero]
    walk_at "le"
  · have hJ : μ2 = μ := Eq.symm hJ
    subst hJ
    have hk : k < l := by simpa using hk
    have wl : (wds L k).length ≤ 3 ^ 6 := by
      rw [wds_len]
      exact Nat.le_trans (Nat.pow_le_pow_left L3 k) (Nat.pow_le_pow_right (by decide) (by omega))
    dsimp only [List.set]
    refine sv_seq (sv_asg (ev_lstM (ea_nil ⟨by simp, fun q hq => ?_⟩)))
    have G1 := fun o => G1.ne hq o
    have G2 := fun o => G2.ne hq o
    refine seqK_nx (sv_seq (sv_forY3 (X := Unit) (fun _ _ => [some (shD f), some (maD m s1), some (maD m' s2), some (.int (l : Nat)), some (.lst (L.map D.str)), some (.lst ((wds L k).map (rwD m m' s1 s2))), some (.tup [shD (farW (valW f m m' s1 s2) L k).1, .lst ((farW (valW f m m' s1 s2) L k).2.map D.str)]), some (shD (f ^ k)), none, some (.ptr a1), some (.ptr a2), some (.ptr q), none, none, none, none, none, none]) (fun j _ μ => μ = put μ2 q (.lst ((((wds L k).take j).flatMap fun w => L.map fun x => w ++ [x]).map (rwD m m' s1 s2)))) (iv_list (ev_var rfl ⟨_, .inl rfl, (), by walk_at "le", rfl, fun j _ μ hj hJ => ?_, fun s' _ hr hJ => ?_⟩))))
    · subst hJ
      have hj : j < (wds L k).length := by simpa using hj
      have hje : (wds L k)[j]? = some (wds L k)[j] := List.getElem?_eq_getElem hj
      have hjm := List.getElem_mem hj
      have et : (wds L k).take (j + 1) = (wds L k).take j ++ [(wds L k)[j]] := by rw [List.take_succ, hje]; rfl
      rw [nth_of (d := rwD m m' s1 s2 (wds L k)[j]) (by rw [List.getElem?_map, hje]; rfl)]
      have tl : (((wds L k).take j).flatMap fun w => L.map fun x => w ++ [x]).length ≤ 50000 := by
        have h1 : (((wds L k).take j).flatMap fun w => L.map fun x => w ++ [x]).length = ((wds L k).take j).length * L.length := by
          generalize (wds L k).take j = z
          induction z with
          | nil => simp
          | cons a z ih => rw [List.flatMap_cons, List.length_append, ih, List.length_map, List.length_cons, Nat.succ_mul]; omega
        rw [h1]
        have h2 : ((wds L k).take j).length ≤ 3 ^ 6 := Nat.le_trans (List.length_take_le' _ _) wl
        exact Nat.le_trans (Nat.mul_le_mul h2 L3) (by decide)
      generalize (wds L k)[j] = w at hjm et
      obtain ⟨wk, wL⟩ := wds_mem.1 hjm
      have w6 : w.length ≤ 6 := by omega
      refine ⟨_, _, _, rfl, ?_⟩
      dsimp only [List.set]
      refine sv_ext (ev_var rfl ⟨q, _, rfl, put_same, ?_⟩)
      refine ev_lcF (ev_var rfl ⟨_, fun d => match d with | .str x => rwD m m' s1 s2 (w ++ [x]) | d => d, .inl rfl, by rw [List.length_map]; omega, fun e he => ?_, ?_⟩)
      · obtain ⟨x, hx, rfl⟩ := List.mem_map.1 he
        refine ev_tup (ea_cons (ev_op ?_))
        walk_at "pks"
        refine ov_cat (by simp; omega) ?_
        refine ea_cons (ev_meth (ev_var rfl ⟨a1, _, rfl, (G1 _).self, rfl, ea_cons (ev_var rfl (ea_cons (ev_var rfl (ea_nil ?_))))⟩))
        refine ⟨a1, b1, r1, m, N, hb, _, s1, _, x, rfl, G1 _, A.g1, A.n1, fun i hi => ?_, up18 (gon_lt A.n1 A.g1 A.h3 w6), ?_⟩
        · exact Nat.lt_of_le_of_lt (Nat.le_trans (le_sN hi) (gonB_le A.n1 A.g1 w)) (up18 (gon_lt A.n1 A.g1 A.h3 w6))
        refine ea_cons (ev_meth (ev_var rfl ⟨a2, _, rfl, (G2 _).self, rfl, ea_cons (ev_var rfl (ea_cons (ev_var rfl (ea_nil ?_))))⟩))
        refine ⟨a2, b2, r2, m', N, hb, _, s2, _, x, rfl, G2 _, A.g2, A.n2, fun i hi => ?_, up18 (gon_lt A.n2 A.g2 A.h3 w6), ?_⟩
        · exact Nat.lt_of_le_of_lt (Nat.le_trans (le_sN hi) (gonB_le A.n2 A.g2 w)) (up18 (gon_lt A.n2 A.g2 A.h3 w6))
        refine ea_nil ⟨by simp, ?_, rfl⟩
        show _ = rwD m m' s1 s2 (w ++ [x])
        unfold rwD
        rw [gonF_snoc, gonF_snoc, gonB_snoc, gonB_snoc, List.map_append]
        rfl
      · refine ⟨_, _, rfl, put_same, by rw [List.length_map, List.length_map, List.length_map]; omega, ?_⟩
        refine ⟨(), by walk_at "le", ?_⟩
        dsimp only
        rw [put_put, et, List.flatMap_append, List.map_append, List.map_map]
        refine congrArg (fun l => put μ2 q (.lst (_ ++ l))) ?_
        rw [List.flatMap_cons, List.flatMap_nil, List.append_nil, List.map_map]
        rfl
    · obtain ⟨ρ, μ⟩ := s'
      have hJ : μ = put μ2 q (.lst ((wds L (k + 1)).map (rwD m m' s1 s2))) := by
        have h : μ = _ := hJ
        rw [h, List.length_map, List.take_length]
        rfl
      refine seqK_nx (sv_wkR (s := ⟨_, _⟩) hr ?_)
      dsimp only
      subst hJ
      refine sv_frz (i := 11) rfl put_same ?_
      dsimp only [List.set]
      rw [del_put hq]
      walk_at "pks"
      refine times_i (bq_powf A.fb k) (A.fb.mono (m := 60) (by decide)) (by omega) ?_
      rw [← Rat.pow_succ]
      walk_at "pks"
      refine sv_forY3 (X := Unit) (fun j _ => [some (shD f), some (maD m s1), some (maD m' s2), some (.int (l : Nat)), some (.lst (L.map D.str)), some (.lst ((wds L (k + 1)).map (rwD m m' s1 s2))), some (.tup [shD (bst (valW f m m' s1 s2) ((wds L (k + 1)).take j) (farW (valW f m m' s1 s2) L k)).1, .lst ((bst (valW f m m' s1 s2) ((wds L (k + 1)).take j) (farW (valW f m m' s1 s2) L k)).2.map D.str)]), some (shD (f ^ (k + 1))), none, some (.ptr a1), some (.ptr a2), none, none, none, none, none, none, none]) (fun _ _ μ => μ = μ2) (iv_list (ev_var rfl ⟨_, .inl rfl, (), by walk_at "le", rfl, fun j _ μ hj hJ => ?_, fun s' _ hr hJ => ?_⟩))
      · have hJ : μ2 = μ := Eq.symm hJ
        subst hJ
        have hj : j < (wds L (k + 1)).length := by simpa using hj
        have hje : (wds L (k + 1))[j]? = some (wds L (k + 1))[j] := List.getElem?_eq_getElem hj
        have hjm := List.getElem_mem hj
        have et : (wds L (k + 1)).take (j + 1) = (wds L (k + 1)).take j ++ [(wds L (k + 1))[j]] := by rw [List.take_succ, hje]; rfl
        rw [nth_of (d := rwD m m' s1 s2 (wds L (k + 1))[j]) (by rw [List.getElem?_map, hje]; rfl)]
        have bq : Bq 2200 (bst (valW f m m' s1 s2) ((wds L (k + 1)).take j) (farW (valW f m m' s1 s2) L k)).1 := bst_inv (Q := fun a => Bq 2200 a.1) _ _ (hb0 k (by omega)) fun w hw => (A.val (by have := (wds_mem.1 (List.mem_of_mem_take hw)).1; omega)).2.1
        generalize (wds L (k + 1))[j] = w at hjm et
        have wk := (wds_mem.1 hjm).1
        have w6 : w.length ≤ 6 := by omega
        obtain ⟨v1, v2, v3⟩ := A.val w6
        refine ⟨_, _, _, rfl, ?_⟩
        dsimp only [List.set]
        walk_at "pks"
        refine ⟨m, gonB s1 w, gonF m s1 w, rfl, A.g1.m12, (gonB_ok A.n1 A.g1 w).1, up18 (gon_lt A.n1 A.g1 A.h3 w6), Nat.lt_of_le_of_lt (gonB_le A.n1 A.g1 w) (up18 (gon_lt A.n1 A.g1 A.h3 w6)), ?_⟩
        rw [gon_q A.n1 A.g1 w]
        walk_at "pks"
        refine ⟨m', gonB s2 w, gonF m' s2 w, rfl, A.g2.m12, (gonB_ok A.n2 A.g2 w).1, up18 (gon_lt A.n2 A.g2 A.h3 w6), Nat.lt_of_le_of_lt (gonB_le A.n2 A.g2 w) (up18 (gon_lt A.n2 A.g2 A.h3 w6)), ?_⟩
        rw [gon_q A.n2 A.g2 w]
        walk_at "pks"
        refine minus_i (ch_bq A.n1 A.g1 A.h3 w6) (ch_bq A.n2 A.g2 A.h3 w6) (by omega) ?_
        walk_at "pks"
        refine ⟨?_, ?_, ?_⟩
        · have := (chQ m s1 w - chQ m' s2 w).den_nz
          omega
        · show (chQ m s1 w - chQ m' s2 w).den < 2 ^ 9000
          rw [← abs_den]
          exact Nat.lt_of_lt_of_le v1.2 (Nat.pow_le_pow_right (by decide) (by decide))
        rw [abs_eq]
        walk_at "pks"
        refine times_i (bq_powf A.fb (k + 1)) v1 (by omega) ?_
        rw [show f ^ (k + 1) * absQ (chQ m s1 w - chQ m' s2 w) = valW f m m' s1 s2 w by unfold valW; rw [wk]]
        walk_at "pks"
        refine less_i bq v2 (by decide) ?_
        walk_at "pks"
        refine ⟨fun h => ?_, fun h => ?_⟩
        · walk_at "pks"
          refine ⟨(), ?_, rfl⟩
          dsimp only
          rw [et, bst_snoc, if_pos (of_decide_eq_true h)]
          walk_at "le"
        · walk_at "pks"
          refine ⟨(), ?_, rfl⟩
          dsimp only
          rw [et, bst_snoc, if_neg (of_decide_eq_false h)]
          walk_at "le"
      · obtain ⟨ρ, μ⟩ := s'
        refine ⟨(), ?_, hJ⟩
        rw [List.length_map, List.take_length] at hr
        exact leR.trans (by walk_at "le") hr
  · obtain ⟨ρ, μ⟩ := s'
    have hJ : μ2 = μ := Eq.symm hJ
    subst hJ
    refine seqK_nx (sv_wkR (s := ⟨_, _⟩) hr ?_)
    dsimp only
    rw [show ((l : Nat) : Int).toNat = l from rfl]
    refine sv_ret (ev_fgtS ?_)
    walk_at "pks"
    refine cv_lstC (.inl (.inl rfl)) fun q hq => ?_
    walk_at "pks"
    have hq0 : μi q = none := by
      cases e : μi q with
      | none => rfl
      | some z => rw [k0 q z e] at hq; cases hq
    refine ⟨put μi q (.lst ((farW (valW f m m' s1 s2) L l).2.map D.str)), fun c z h => ?_, p q hq0⟩
    by_cases e : c = q
    · rw [e, put_same] at h ⊢
      exact h
    · rw [put_ne e] at h ⊢
      exact k0 c z h
 ) only [↓hE])
def c_Lother62 (T : Cfg) : Nat → List D → (D → Nat → Prop) → Prop := fun b rest P => ∃ (m : Nat) (ss : List Stp) (xs : List Str), rest = [.int (m : Int), .lst (ss.map stpD), .lst (xs.map D.str)] ∧ Good m ss ∧ m ≤ 4 ∧ (∀ s ∈ ss, s.2.2.sum ≤ 30) ∧ 1 ≤ xs.length ∧ xs.length ≤ 5 ∧ xs.Nodup ∧ (∀ x ∈ xs, nmB x = true) ∧ 4000 ≤ b ∧
  ∀ (m' : Nat) (ss' : List Stp) (b' : Nat), Good m' ss' → m' ≤ 4 → (∀ s ∈ ss', s.2.2.sum ≤ 32) → (∀ s ∈ ss', s.2.1 ∈ xs ∨ s.2.1 ∈ ss.map fun s => s.2.1) → b ≤ b' + 3100 → P (.tup [.int (m' : Int), .lst (ss'.map stpD)]) b'
theorem len_Lother62 {T : Cfg} : ∀ ds μ P XP, wl (c_Lother62 T) ds μ P XP → ds.length = 4 := by
  rintro ds μ P XP ⟨a, b, rest, rfl, rfl, Pf, ⟨m, ss, xs, rfl, _⟩, _⟩; rfl
def t_Lother62 (T : Cfg) (E : XK) : TS := (tSeq (tIfS (tOr (tTest (tOp rEq (tCall (spOf T (wl (c_Ldraw T))) [] E0 (tCons (tVar 0) (tCons (tC (.int 2)) tNil))) (tC (.int 0)))) (tTest (tOp (rEqD T.K) (tVar 2) (tLst tNil)))) (tRet (tCall (spOf T (wl (c_Lmachine T))) [] E0 (tCons (tVar 0) (tCons (tVar 3) (tCons (tC (.int 4)) tNil))))) tNext)
    (tSeq (tAsg (tCall (spOf T (wl (c_Ldraw T))) [] E0 (tCons (tVar 0) (tCons (tCB (Pw.rLen T.K) (tCons (tVar 2) tNil)) tNil))) (gName 4))
    (tSeq (tAsg (tOp (rIxL T.K) (tVar 2) (tVar 4)) (gTup T.K 3 (gCons (gName 7) (gCons (gName 8) (gCons (gName 9) gNil)))))
    (tSeq (tAsg (tCall (spOf T (wl (c_Ldraw T))) [] E0 (tCons (tVar 0) (tCons (tVar 1) tNil))) (gName 5))
    (tSeq (tAsg (tCB (rListOf T.K) (tCons (tVar 9) tNil)) (gName 6))
    (tSeq (tAsg (tOp (rI0 fun i j => .int (i + j)) (tOp (rIxL T.K) (tVar 6) (tVar 5)) (tCall (spOf T (wl (c_Ldraw T))) [] E0 (tCons (tVar 0) (tCons (tC (.int 3)) tNil)))) (gSub (tVar 6) (tVar 5) rSetL))
    (tRet (tTup (tCons (tVar 1) (tCons (tOp rCat (tOp rCat (tSl (rSlL T.K) (tVar 2) tNoPart (tPart (tVar 4))) (tLst (tCons (tTup (tCons (tVar 7) (tCons (tVar 8) (tCons (tCB (rTupOf T.K) (tCons (tVar 6) tNil)) tNil)))) tNil))) (tSl (rSlL T.K) (tVar 2) (tPart (tOp (rI0 fun i j => .int (i + j)) (tVar 4) (tC (.int 1)))) tNoPart)) tNil))))))))))
theorem pure_Lother62 {T : Cfg} (hT : ShOk T) : ∀ E ds μ P XP, wl (c_Lother62 T) ds μ P XP → SV T (t_Lother62 T E) (fun cls dd _ H => E cls dd H) ⟨slots 10 ds, μ⟩ (fnK P XP) := Hd.o (by
 simp (disch :=
 with_unfolding_all
 exact by
  rintro E ds μ P XP ⟨a, b, rest, rfl, rfl, Pf, ⟨m, ss, xs, rfl, hg, m3, hB, l1, l5, hnd, hnm, hb, k⟩, hP⟩
  have m1 := hg.m1
  have hln := hg.ln
  obtain ⟨d1, d2, d3⟩ := stpsP hg.ok
  have shp : SeqAt.shaped (.list (ss.map stpP)) = true := by
    have l : PyData.canLay0 (.list (ss.map stpP)) = true := by unfold PyData.canLay0; exact d2
    have d : PyData.depth (.list (ss.map stpP)) ≤ 9 := by rw [PyData.depth]; omega
    unfold SeqAt.shaped
    rw [l, decide_eq_true (by omega)]
    rfl
  unfold t_Lother62
  walk_at "pks"
  refine ⟨a, b, _, _, rfl, rfl, draw_i (by omega) (by decide) (b9 _ (by decide)) fun v v0 v1 => ?_⟩
  walk_at "pks"
  refine ⟨fun hv => ?_, fun _ => ?_⟩
  rotate_left
  · walk_at "pks"
    refine ⟨a, _, _, _, rfl, rfl, machine_i (most := 4) (by decide) (by omega) l1 l5 hnd (by omega) fun m' ss' b2 m1' mm hd hb2 => ?_⟩
    have hml : m' * xs.length ≤ 4 * 5 := Nat.mul_le_mul (by omega) l5
    have hg' := hd.good m1' (by omega) (by omega) hnm
    exact hP _ _ (k m' ss' b2 hg' mm (fun s hs => by have := (hd.ok s hs).le; omega) (fun s hs => .inl (hd.ok s hs).sg) (by omega))
  walk_at "pks"
  refine ov_eqD (.lst d1) (.lst .nil) shp (by decide) ?_
  rw [eqv_nil, List.length_map]
  refine ⟨_, rfl, fun _ => ?_, fun h0 => ?_⟩
  · walk_at "pks"
    refine ⟨a, _, _, _, rfl, rfl, machine_i (most := 4) (by decide) (by omega) l1 l5 hnd (by omega) fun m' ss' b2 m1' mm hd hb2 => ?_⟩
    have hml : m' * xs.length ≤ 4 * 5 := Nat.mul_le_mul (by omega) l5
    have hg' := hd.good m1' (by omega) (by omega) hnm
    exact hP _ _ (k m' ss' b2 hg' mm (fun s hs => by have := (hd.ok s hs).le; omega) (fun s hs => .inl (hd.ok s hs).sg) (by omega))
  have h0 : ss.length ≠ 0 := by simpa using h0
  walk_at "pks"
  refine cv_len (.inl rfl) ?_
  rw [List.length_map]
  walk_at "pks"
  refine ⟨a, _, _, _, rfl, rfl, draw_i (by omega) (by omega) (b9 _ (by omega)) fun j j0 j1 => ?_⟩
  obtain ⟨j, rfl⟩ := Int.eq_ofNat_of_zero_le j0
  have hj : j < ss.length := by omega
  walk_at "pks"
  have hjs : ss[j]? = some ss[j] := List.getElem?_eq_getElem hj
  generalize ss[j] = s at hjs
  have hs := List.mem_of_getElem? hjs
  have ok := hg.ok s hs
  refine ov_ixL (.inl rfl) (e := stpD s) (at_nat (by rw [List.getElem?_map, hjs]; rfl)) ?_
  refine ⟨_, _, _, rfl, ?_⟩
  walk_at "pks"
  refine ⟨a, _, _, _, rfl, rfl, draw_i (by omega) (by omega) (b9 _ (by omega)) fun q q0 q1 => ?_⟩
  obtain ⟨q, rfl⟩ := Int.eq_ofNat_of_zero_le q0
  have hq : q < s.2.2.length := by rw [ok.ln]; omega
  walk_at "pks"
  refine cv_lstC (.inr rfl) fun p hp => ?_
  have hpa : p ≠ a := fun e => by rw [e, put_same] at hp; cases hp
  refine seqK_nx (sv_seq (sv_setL ?_))
  walk_at "pks"
  have wB : ∀ w ∈ s.2.2, w ≤ 30 := fun w hw => Nat.le_trans (sum_of_mem hw) (hB s hs)
  refine ov_ixM put_same (at_nat (wD_get (ws := s.2.2) hq)) ?_
  walk_at "pks"
  refine ⟨a, b - 1 - 1 - 1, _, _, rfl, (put_get (by rw [put_ne hpa.symm]; exact put_same)).symm, draw_i (by omega) (by decide) (b9 _ (by decide)) fun z z0 z1 => ?_⟩
  obtain ⟨z, rfl⟩ := Int.eq_ofNat_of_zero_le z0
  have hw := wB _ (List.getElem_mem hq)
  walk_at "pks"
  refine ⟨p, _, (q : Int), q, rfl, by rw [put_ne hpa]; exact put_same, rfl, ixN_nat (by simp; omega), ?_⟩
  rw [← Int.natCast_add]
  rw [show (List.map (fun w : Nat => D.int (w : Int)) s.2.2).set q (.int ((s.2.2[q] + z : Nat) : Int)) = wD (s.2.2.set q (s.2.2[q] + z)) from wD_set _ _ _]
  have hV : (s.2.2.set q (s.2.2[q] + z)).sum = s.2.2.sum + z := sum_set _ _ _ hq
  have hVl : (s.2.2.set q (s.2.2[q] + z)).length = m := by rw [List.length_set]; exact ok.ln
  generalize s.2.2.set q (s.2.2[q] + z) = V at hV hVl
  refine seqK_nx (sv_frz (i := 6) rfl put_same ?_)
  have ed : del (put (put (put (put mu0 a (.well (b - 1 - 1 - 1))) p (.lst (s.2.2.map fun w : Nat => D.int (w : Int)))) a (.well (b - 1 - 1 - 1 - 1))) p (.lst (wD V))) p = put mu0 a (.well (b - 1 - 1 - 1 - 1)) := by
    funext c
    unfold Pw.del put
    by_cases h1 : c = p
    · subst h1
      rw [if_pos rfl, if_neg hpa]
    · rw [if_neg h1, if_neg h1]
      by_cases h2 : c = a
      · rw [if_pos h2, if_pos h2]
      · rw [if_neg h2, if_neg h2, if_neg h1, if_neg h2]
  rw [ed]
  walk_at "pks"
  refine ev_slL ?_
  walk_at "pks"
  refine ⟨_, rfl, _, .inl rfl, ?_⟩
  rw [cut_take]
  walk_at "pks"
  refine cv_tupI (.inl rfl) ?_
  walk_at "pks"
  refine ov_cat (by simp; omega) ?_
  walk_at "pks"
  refine ev_slL ?_
  walk_at "pks"
  refine ⟨_, rfl, ?_⟩
  walk_at "pks"
  refine ⟨_, .inl rfl, ?_⟩
  rw [show (j : Int) + 1 = ((j + 1 : Nat) : Int) by omega, cut_drop]
  refine ov_cat (by simp; omega) ?_
  have efin : ((ss.map stpD).take j ++ [D.tup [.int (s.1 : Int), .str s.2.1, .tup (wD V)]]) ++ (ss.map stpD).drop (j + 1) = (ss.take j ++ [(s.1, s.2.1, V)] ++ ss.drop (j + 1)).map stpD := by
    rw [List.map_append, List.map_append, List.map_take, List.map_drop]
    rfl
  rw [efin]
  walk_at "pks"
  have sB := hB s hs
  have ps := ok.ps
  obtain ⟨n1, n2, n3⟩ := near_good (W := V) (B := 30) hg hjs hVl (by omega) (by omega) hB (by decide)
  refine hP _ _ (k m _ _ n1 m3 (fun y hy => ?_) (fun y hy => ?_) (by omega))
  · rcases List.mem_append.1 hy with h | h
    · rcases List.mem_append.1 h with h | h
      · exact Nat.le_trans (hB y (List.mem_of_mem_take h)) (by decide)
      · rw [List.mem_singleton.1 h]
        show V.sum ≤ 32
        omega
    · exact Nat.le_trans (hB y (List.mem_of_mem_drop h)) (by decide)
  · rcases List.mem_append.1 hy with h | h
    · rcases List.mem_append.1 h with h | h
      · exact .inr (List.mem_map.2 ⟨y, List.mem_of_mem_take h, rfl⟩)
      · rw [List.mem_singleton.1 h]
        exact .inr (List.mem_map.2 ⟨s, hs, rfl⟩)
    · exact .inr (List.mem_map.2 ⟨y, List.mem_of_mem_drop h, rfl⟩)
 ) only [↓hE])
end Far
namespace Pw
open PySem PySem.Spec PyProof.Rows L2
open Evl (Ex ex_l ex_t)
section
variable {T : Cfg} {P : D → Mu → Prop} {μ : Mu}
theorem ov_neTP {p : Addr} {a e : D} {ds : List D} {pa : PyData} {ps : List PyData} {q : PyData} (hm : μ p = some (.lst ds)) (ha : DPy a pa) (hd : DPyL ds ps) (he : DPy e q) (sd : SeqAt.shaped (.tuple [pa, .list ps]) = true) (se : SeqAt.shaped q = true) (k : P (.bl (!PyData.eqv (.tuple [pa, .list ps]) q)) μ) : OV T (rNeD T.K) (.tup [a, .ptr p]) e μ P := fun x y Hb H Q ex sm rx ry w => by
  obtain ⟨ad, xs, rfl, hx, r⟩ := rx.tup_inv
  obtain ⟨v, ys, rfl, r1, r2⟩ := r.cons_inv
  obtain ⟨u, zs, rfl, r3, r4⟩ := r2.cons_inv
  cases r3
  obtain ⟨n, o, ho, rr⟩ := sm p _ hm
  cases o with
  | lst ws =>
    obtain rfl : zs = [] := List.eq_nil_of_length_eq_zero r4.1.symm
    exact ⟨.tuple [pa, .list ps], q, .tup (ex_t ex hx) (.cons (DPy.dp ex pa a v ha r1) (.cons (.lst (Evl.sq_of ho) (DPyL.dp ex ps ds ws hd rr)) .nil)), DPy.dp ex q e y he ry, sd, se, w _ _ _ _ _ (.refl ex sm) (.bl _) k⟩
  | _ => exact rr.elim
end
end Pw
namespace Far
open PySem PySem.Spec PyProof.Rows L2 Pw Cg
open FM (Bq)
def t_law (T : Cfg) (E : XK) : TS := (tSeq (tFor (iList T.K (tOp rCat (tSl (rSlL T.K) (tVar 0) tNoPart (tPart (tC (.int 3)))) (tLst (tCons (tC (.int 0)) tNil)))) (gName 1) (tSeq (tAsg (tCall (spOf T (c_Lwell T)) [] E0 (tCons (tVar 1) tNil)) (gName 2))
    (tSeq (tAsg (tCall (spOf T (wl (c_Lnames T))) [] E0 (tCons (tVar 2) (tCons (tC (.int 3)) tNil))) (gName 3))
    (tSeq (tAsg (tSl (rSlL T.K) (tVar 3) tNoPart (tPart (tCall (spOf T (wl (c_Lone T))) [] E0 (tCons (tVar 2) (tCons (tLst (tCons (tC (.int 1)) (tCons (tC (.int 2)) (tCons (tC (.int 2)) tNil)))) tNil))))) (gName 4))
    (tSeq (tAsg (tCall (spOf T (wl (c_Lmachine T))) [] E0 (tCons (tVar 2) (tCons (tVar 4) (tCons (tC (.int 4)) tNil)))) (gTup T.K 2 (gCons (gName 12) (gCons (gName 13) gNil))))
    (tSeq (tAsg (tLst (tCons (tTup (tCons (tVar 12) (tCons (tVar 13) tNil))) (tCons (tCall (spOf T (wl (c_Lother62 T))) [] E0 (tCons (tVar 2) (tCons (tVar 12) (tCons (tVar 13) (tCons (tCall (spOf T (wl (c_Lone T))) [] E0 (tCons (tVar 2) (tCons (tLst (tCons (tVar 4) (tCons (tVar 4) (tCons (tSl (rSlL T.K) (tVar 3) (tPart (tC (.int 1))) tNoPart) tNil)))) tNil))) tNil))))) tNil))) (gName 5))
    (tSeq (tAsg (tLenSetT T.K (tLc (iList T.K (tOp rCat (tOp (rIxT T.K) (tOp (rIxL T.K) (tVar 5) (tC (.int 0))) (tC (.int 1))) (tOp (rIxT T.K) (tOp (rIxL T.K) (tVar 5) (tC (.int 1))) (tC (.int 1))))) (gName 17) tYes (tOp (rIxT T.K) (tVar 17) (tC (.int 1))) [17])) (gName 6))
    (tSeq (tAsg (tCall (spOf T (wl (c_Lone T))) [] E0 (tCons (tVar 2) (tCons (tOp (rIxL T.K) (tLst (tCons (tLst (tCons (tC (.int 0)) (tCons (tC (.int 2)) (tCons (tC (.int 6)) (tCons (tC (.int 5)) tNil))))) (tCons (tLst (tCons (tC (.int 1)) (tCons (tC (.int 2)) (tCons (tC (.int 6)) (tCons (tC (.int 4)) tNil))))) (tCons (tLst (tCons (tC (.int 0)) (tCons (tC (.int 1)) (tCons (tC (.int 2)) (tCons (tC (.int 3)) tNil))))) tNil)))) (tCB Evl.rMax2 (tCons (tC (.int 0)) (tCons (tOp (rI0 fun i j => .int (i - j)) (tVar 6) (tC (.int 1))) tNil)))) tNil))) (gName 7))
    (tSeq (tAsg (tCall (spOf T (wl (c_Lone T))) [] E0 (tCons (tVar 2) (tCons (tLst (tCons (tTup (tCons (tC (.int 1)) (tCons (tC (.int 2)) tNil))) (tCons (tTup (tCons (tC (.int 9)) (tCons (tC (.int 10)) tNil))) (tCons (tTup (tCons (tC (.int 1)) (tCons (tC (.int 7)) tNil))) (tCons (tTup (tCons (tC (.int 99)) (tCons (tC (.int 100)) tNil))) tNil))))) tNil))) (gName 8))
    (tSeq (tAsg (tLc (iList T.K (tVar 5)) (gTup T.K 2 (gCons (gName 15) (gCons (gName 16) gNil))) tYes (tMake (T.cls 1) (spOf T (ini 1 (c_Machine___init__ T))) [] E0 (tCons (tVar 15) (tCons (tCB (rListOf T.K) (tCons (tVar 16) tNil)) tNil))) [15, 16]) (gName 9))
    (tSeq (tAsg (tCall (spOf T (pu (c_Lfarthest62 T))) [] E0 (tCons (tVar 8) (tCons (tVar 5) (tCons (tVar 7) tNil)))) (gName 10))
    (tFor (iRng1 (tCons (tC (.int 2)) tNil)) (gName 11) (tSeq (tAsg (tCall (spOf T (c_farthest_wordN T)) [] E0 (tCons (tMake (T.cls 0) (spOf T (ini 0 (c_Share___init__ T))) [] E0 (tCons (tOp (rIxT T.K) (tVar 8) (tC (.int 0))) (tCons (tOp (rIxT T.K) (tVar 8) (tC (.int 1))) tNil))) (tCons (tOp (rIxL T.K) (tVar 9) (tC (.int 0))) (tCons (tOp (rIxL T.K) (tVar 9) (tC (.int 1))) (tCons (tVar 7) tNil))))) (gName 14))
    (tSeq (tIfS (tOr (tNot (tB (tCB (rIsi T.K) (tCons (tVar 14) (tCons (tC (.ty "tuple")) tNil))))) (tOr (tTest (tOp rNe (tCB (Pw.rLen T.K) (tCons (tVar 14) tNil)) (tC (.int 2)))) (tNot (tB (tCB (rIsi T.K) (tCons (tOp (rIxT T.K) (tVar 14) (tC (.int 1))) (tCons (tC (.ty "list")) tNil))))))) (tRet (tC (.bl false))) tNext)
    (tSeq (tIfS (tTest (tOp (rNeD T.K) (tTup (tCons (tCall (spOf T (pu (c_Lpair T))) [] E0 (tCons (tOp (rIxT T.K) (tVar 14) (tC (.int 0))) tNil)) (tCons (tOp (rIxT T.K) (tVar 14) (tC (.int 1))) tNil))) (tVar 10))) (tRet (tC (.bl false))) tNext)
    (tDrop (tBM T.K "list" rAppend (tOp (rIxT T.K) (tVar 14) (tC (.int 1))) (tCons (tC (.str "more")) tNil))))))))))))))))))
    (tRet (tC (.bl true))))
theorem kit_l62 {T : Cfg} (hS : ShOk T) : PySem.W.kitOne T.K (.type "list") (.type "list") = some true := by
  have := (th_lst hS []).kd "list" (by decide)
  simpa [kindOf, tagOf, kk] using this
theorem pure_law {T : Cfg} (hG : GngOk T) : ∀ E ds μ P XP, c_law T ds μ P XP → SV T (t_law T E) (fun cls dd _ H => E cls dd H) ⟨slots 18 ds, μ⟩ (fnK P XP) := Hd.o (by
 simp (disch :=
 with_unfolding_all
 exact by
  rintro E ds μ P XP ⟨ns, rfl, hl, rfl, hp⟩
  have hT := hG.ma
  have hS := hT.sh
  unfold t_law
  refine sv_seq (sv_forR (ev_cells rfl hl ?_))
  walk_at "pks"
  refine ⟨by simp, by simp, fun es _ he => ⟨es, slots 18 [.seq (ns.map D.int)], .inl rfl, leR.refl, fun e hm => ?_, fun s' hs => seqK_res hs ?_⟩⟩
  rotate_left
  · walk_at "pks"
    exact hp _
  obtain ⟨c, rfl⟩ := he e hm
  walk_at "pks"
  intro a
  walk_at "pks"
  refine ⟨a, _, _, _, rfl, rfl, names_i (n := 3) (by omega) (by omega) (by omega) fun xs b1 hx1 hx2 hx3 hb1 => ?_⟩
  walk_at "pks"
  refine ev_slL ?_
  walk_at "pks"
  refine ⟨a, _, _, _, rfl, rfl, one_i (by omega) (by simp) (by simp) fun e he => ?_⟩
  obtain ⟨k, rfl, k1, k2⟩ : ∃ k : Nat, e = .int (k : Int) ∧ 1 ≤ k ∧ k ≤ 2 := by
    simp only [List.mem_cons, List.not_mem_nil, or_false] at he
    rcases he with rfl | rfl | rfl
    · exact ⟨1, rfl, by decide, by decide⟩
    · exact ⟨2, rfl, by decide, by decide⟩
    · exact ⟨2, rfl, by decide, by decide⟩
  refine ⟨_, rfl, _, .inl rfl, ?_⟩
  rw [cut_take, ← List.map_take]
  have t1 : (xs.take k).length = k := by rw [List.length_take]; omega
  have t2 : (xs.take k).Nodup := hx2.sublist (List.take_sublist _ _)
  have t3 : ∀ x ∈ xs.take k, nmB x = true := fun x h => hx3 x (List.mem_of_mem_take h)
  have t4 : ∀ x ∈ xs.take k, x ∈ xs := fun x h => List.mem_of_mem_take h
  generalize xs.take k = ys at t1 t2 t3 t4
  walk_at "pks"
  refine ⟨a, _, _, _, rfl, rfl, machine_i (most := 4) (by decide) (by omega) (by omega) (by omega) t2 (by omega) fun m ss b2 m1 mm hd hb2 => ?_⟩
  have hml : m * ys.length ≤ 4 * 4 := Nat.mul_le_mul (by omega) (by omega)
  have hg := hd.good m1 (by omega) (by omega) t3
  have hsB : ∀ s ∈ ss, s.2.2.sum ≤ 30 := fun s hs => by have := (hd.ok s hs).le; omega
  have hsS : ∀ s ∈ ss, s.2.1 ∈ xs := fun s hs => t4 _ (hd.ok s hs).sg
  walk_at "pks"
  refine ev_slL ?_
  walk_at "pks"
  refine ⟨_, rfl, ?_⟩
  walk_at "pks"
  refine ⟨_, .inl rfl, ?_⟩
  have cd : cutD (xs.map D.str) (some 1) none = (xs.drop 1).map D.str := by
    have h : cutD (xs.map D.str) (some ((1 : Nat) : Int)) none = _ := cut_drop
    rw [List.map_drop]
    exact h
  rw [cd]
  refine ea_nil ⟨by simp, ?_⟩
  refine ea_nil ?_
  refine ⟨a, _, _, _, rfl, rfl, one_i (by omega) (by simp) (by simp) fun e he => ?_⟩
  obtain ⟨zs, rfl, z1, z2, z3, z4, z5⟩ : ∃ zs : List Str, e = .lst (zs.map D.str) ∧ 1 ≤ zs.length ∧ zs.length ≤ 2 ∧ zs.Nodup ∧ (∀ x ∈ zs, nmB x = true) ∧ ∀ x ∈ zs, x ∈ xs := by
    simp only [List.mem_cons, List.not_mem_nil, or_false] at he
    rcases he with rfl | rfl | rfl
    · exact ⟨ys, rfl, by omega, by omega, t2, t3, t4⟩
    · exact ⟨ys, rfl, by omega, by omega, t2, t3, t4⟩
    · exact ⟨xs.drop 1, rfl, by rw [List.length_drop]; omega, by rw [List.length_drop]; omega, hx2.sublist (List.drop_sublist _ _), fun x h => hx3 x (List.mem_of_mem_drop h), fun x h => List.mem_of_mem_drop h⟩
  walk_at "pks"
  refine ⟨a, _, _, _, rfl, rfl, ⟨m, ss, zs, rfl, hg, mm, hsB, by omega, by omega, z3, z4, by omega, fun m' ss' b3 hg' mm' hsB' hsS' hb3 => ?_⟩⟩
  have hsS' : ∀ s ∈ ss', s.2.1 ∈ xs := fun s hs => by
    rcases hsS' s hs with h | h
    · exact z5 _ h
    · obtain ⟨t, ht, e⟩ := List.mem_map.1 h
      rw [← e]
      exact hsS t ht
  have hl1 := hg.ln
  have hl2 := hg'.ln
  refine ea_nil ⟨by simp, ?_⟩
  refine seqK_nx (sv_wkR (s := ⟨_, _⟩) (ρ' := [some (.seq (ns.map D.int)), none, some (.ptr a), none, none, some (.lst [mtD m ss, mtD m' ss']), none, none, none, none, none, none, none, none, none, none, none, none]) (by walk_at "le") ?_)
  dsimp only
  refine sv_seq (sv_asg (ev_lenSetT (ev_lcF ?_)))
  walk_at "pks"
  refine ov_ixL (.inl rfl) (e := mtD m ss) rfl ?_
  walk_at "pks"
  refine ov_ixT (e := .lst (ss.map stpD)) rfl ?_
  walk_at "pks"
  refine ov_ixL (.inl rfl) (e := mtD m' ss') rfl ?_
  walk_at "pks"
  refine ov_ixT (e := .lst (ss'.map stpD)) rfl ?_
  refine ov_cat (by simp; omega) ?_
  rw [← List.map_append]
  refine ⟨(ss ++ ss').map stpD, fun e => match e with | .tup [_, x, _] => x | d => d, .inl rfl, by rw [List.length_map, List.length_append]; omega, fun e he => ?_, ?_⟩
  · obtain ⟨s, hs, rfl⟩ := List.mem_map.1 he
    walk_at "pks"
    refine ov_ixT (e := .str s.2.1) rfl ?_
    exact ⟨rfl, rfl⟩
  rw [List.map_map]
  refine ⟨(ss ++ ss').map fun s => s.2.1, .inl (by rw [List.map_map]; rfl), by rw [List.length_map, List.length_append]; omega, fun L0 nd mem => ?_⟩
  have few : ∀ x, sgB ss ss' x → x ∈ xs := fun x hx => by
    rcases hx with h | h
    · obtain ⟨s, hs, rfl⟩ := List.mem_map.1 h
      exact hsS s hs
    · obtain ⟨s, hs, rfl⟩ := List.mem_map.1 h
      exact hsS' s hs
  have L3 : L0.length ≤ 3 := by
    have := nodup_len nd fun x hx => few x (by
      have := (mem x).1 hx
      rw [List.map_append, List.mem_append] at this
      exact this)
    omega
  clear nd mem
  generalize L0.length = wide at L3
  walk_at "pks"
  refine cv_max2 ?_
  obtain ⟨ks, hks, kl, k6⟩ : ∃ ks : List Nat, atI ([.lst [.int 0, .int 2, .int 6, .int 5], .lst [.int 1, .int 2, .int 6, .int 4], .lst [.int 0, .int 1, .int 2, .int 3]] : List D) (if ((wide : Int) - 1) > 0 then (wide : Int) - 1 else 0) = some (.lst (ks.map fun k : Nat => D.int (k : Int))) ∧ ks.length = 4 ∧ ∀ k ∈ ks, k ≤ 6 := by
    match wide, L3 with
    | 0, _ => exact ⟨[0, 2, 6, 5], rfl, rfl, by decide⟩
    | 1, _ => exact ⟨[0, 2, 6, 5], rfl, rfl, by decide⟩
    | 2, _ => exact ⟨[1, 2, 6, 4], rfl, rfl, by decide⟩
    | 3, _ => exact ⟨[0, 1, 2, 3], rfl, rfl, by decide⟩
  refine ov_ixL (.inl rfl) hks ?_
  walk_at "pks"
  refine ⟨a, _, _, _, rfl, rfl, one_i (by omega) (by rw [List.length_map]; omega) (by rw [List.length_map]; omega) fun e he => ?_⟩
  obtain ⟨l, hl, rfl⟩ := List.mem_map.1 he
  have l6 := k6 l hl
  walk_at "pks"
  refine ⟨a, _, _, _, rfl, rfl, one_i (by omega) (by simp) (by simp) fun e he => ?_⟩
  obtain ⟨f, rfl, f0, f1, fb⟩ : ∃ f : Rat, e = prD f ∧ 0 < f ∧ f < 1 ∧ Bq 7 f := by
    simp only [List.mem_cons, List.not_mem_nil, or_false] at he
    rcases he with rfl | rfl | rfl | rfl
    · exact ⟨Rat.divInt 1 2, rfl, by decide, by decide, by decide, by decide⟩
    · exact ⟨Rat.divInt 9 10, rfl, by decide, by decide, by decide, by decide⟩
    · exact ⟨Rat.divInt 1 7, rfl, by decide, by decide, by decide, by decide⟩
    · exact ⟨Rat.divInt 99 100, rfl, by decide, by decide, by decide, by decide⟩
  have A : Fw62 f m m' ss ss' := ⟨hg, hg', fun s hs => Nat.le_trans (hsB s hs) (by decide), hsB', f0, f1, fb, ⟨xs, by omega, few⟩⟩
  refine seqK_nx (sv_seq (sv_asg (ev_lcX2 (iv_list (ev_var rfl ⟨_, .inl rfl, by simp, fun k => [maD m (mkS ss), maD m' (mkS ss')][k]?, fun k hk => ?_, ?_⟩)))))
  · have hk : k < 2 := by simpa using hk
    match k, hk with
    | 0, _ =>
      refine ⟨_, _, rfl, tv_yes ⟨rfl, fun _ => ?_, fun h => nomatch h⟩⟩
      walk_at "pks"
      refine cv_lstI (.inl (.inl rfl)) ?_
      walk_at "pks"
      refine make_i hg ?_
      exact ⟨rfl, rfl⟩
    | 1, _ =>
      refine ⟨_, _, rfl, tv_yes ⟨rfl, fun _ => ?_, fun h => nomatch h⟩⟩
      walk_at "pks"
      refine cv_lstI (.inl (.inl rfl)) ?_
      walk_at "pks"
      refine make_i hg' ?_
      exact ⟨rfl, rfl⟩
  walk_at "pks"
  refine ⟨f, m, m', l, ss, ss', rfl, A, l6, fun L hL => ?_⟩
  walk_at "pks"
  refine sv_forX (X := Unit) (fun _ _ => [some (.seq (ns.map D.int)), none, none, none, none, none, none, some (.int (l : Int)), some (prD f), some (.lst [maD m (mkS ss), maD m' (mkS ss')]), some (.tup [prD (farW (valW f m m' (mkS ss) (mkS ss')) L l).1, .lst ((farW (valW f m m' (mkS ss) (mkS ss')) L l).2.map D.str)]), none, none, none, none, none, none, none]) (fun _ _ _ => True) (iv_rng1 ?_)
  walk_at "pks"
  refine ⟨by decide, by decide, (), by walk_at "le", trivial, fun k _ μ hk _ => ?_, fun s' _ hr _ => ⟨leR.trans (by walk_at "le") hr, trivial⟩⟩
  dsimp only [List.set]
  refine sv_seq (sv_asg (ev_calA ?_))
  walk_at "pks"
  refine ov_ixT (e := .int f.num) rfl ?_
  walk_at "pks"
  refine ov_ixT (e := .int (f.den : Int)) rfl ?_
  have nf := f.den_nz
  walk_at "pks"
  refine ⟨by omega, (bt_den fb).mono (by decide), ?_⟩
  rw [Rat.num_divInt_den]
  walk_at "pks"
  refine ov_ixL (.inl rfl) (e := maD m (mkS ss)) rfl ?_
  walk_at "pks"
  refine ov_ixL (.inl rfl) (e := maD m' (mkS ss')) rfl ?_
  walk_at "pks"
  have bq : Bq 2200 (farW (valW f m m' (mkS ss) (mkS ss')) L l).1 := far_inv (Q := fun a => Bq 2200 a.1) (bq00.mono (by decide)) l fun w hw _ => (A.fw.val (by omega)).2.1
  have hfi := far_inv (V := valW f m m' (mkS ss) (mkS ss')) (L := L) (Q := fun a => a.2.length ≤ l ∧ ∀ x ∈ a.2, x ∈ L) ⟨by simp, by simp⟩ l fun w hw hx => ⟨hw, hx⟩
  have hnw : ∀ x ∈ (farW (valW f m m' (mkS ss) (mkS ss')) L l).2, nmB x = true := fun x hx => by
    have hx := hfi.2 x hx
    rcases (hL.mem x).1 hx with h | h
    · obtain ⟨s, hs, rfl⟩ := List.mem_map.1 h
      exact (hg.ok s hs).nm
    · obtain ⟨s, hs, rfl⟩ := List.mem_map.1 h
      exact (hg'.ok s hs).nm
  have hlw : (farW (valW f m m' (mkS ss) (mkS ss')) L l).2.length ≤ l := hfi.1
  refine ⟨f, m, m', LL32, 48, l, mkS ss, mkS ss', rfl, A.fw, l6, fun L' hL' q hq => ?_⟩
  rw [hL'.uniq hL (sg_mk ss ss')]
  walk_at "pks"
  refine cv_isiT (b := true) (.tup _) rfl ?_
  walk_at "pks"
  refine cv_lenT ?_
  walk_at "pks"
  generalize farW (valW f m m' (mkS ss) (mkS ss')) L l = fw at bq hnw hlw ⊢
  refine ⟨fun _ => ?_, fun h => Bool.noConfusion (show false = true from h)⟩
  dsimp only [List.set]
  refine tv_not (tv_B (ev_cb (ea_cons (ev_op ?_))))
  refine ev_var rfl ?_
  refine ev_int ?_
  refine ov_ixT (e := .ptr q) rfl ?_
  refine ea_cons ?_
  refine ev_ty ?_
  refine ea_nil ?_
  refine cv_isiM (b := true) put_same (kit_l62 hS) ?_
  refine ⟨_, rfl, ?_⟩
  refine ⟨fun h => (by cases h), fun _ => ?_⟩
  refine sv_next ?_
  refine seqK_nx (sv_seq (sv_if (tv_test (ev_op (ev_tup ?_)))))
  refine ea_cons (ev_cal0 (ea_cons (ev_op ?_)))
  refine ev_var rfl ?_
  refine ev_int ?_
  refine ov_ixT (e := shD fw.1) rfl ?_
  refine ea_nil ?_
  refine pair_i (bq.mono (by decide)) ?_
  refine ea_cons (ev_op ?_)
  refine ev_var rfl ?_
  refine ev_int ?_
  refine ov_ixT (e := .ptr q) rfl ?_
  refine ea_nil ⟨by simp, ?_⟩
  refine ev_var rfl ?_
  obtain ⟨w1, w2, w3⟩ := strsP hnw
  have shp : SeqAt.shaped (.tuple [.tuple [.int fw.1.num, .int (fw.1.den : Int)], .list (fw.2.map PyData.str)]) = true := by
    have l : PyData.canLay0 (.list (fw.2.map PyData.str)) = true := by unfold PyData.canLay0; exact w2
    have dd : PyData.depth (.list (fw.2.map PyData.str)) ≤ 1 := by rw [PyData.depth]; omega
    have l2 : PyData.canLay0 (.tuple [.tuple [.int fw.1.num, .int (fw.1.den : Int)], .list (fw.2.map PyData.str)]) = true := by
      show (PyData.canLay0 (.tuple [.int fw.1.num, .int (fw.1.den : Int)]) && (PyData.canLay0 (.list (fw.2.map PyData.str)) && true)) = true
      rw [l]
      rfl
    have d2 : PyData.depth (.tuple [.tuple [.int fw.1.num, .int (fw.1.den : Int)], .list (fw.2.map PyData.str)]) ≤ 9 := by
      rw [PyData.depth, PyData.depthAll, PyData.depthAll, PyData.depthAll]
      have : PyData.depth (.tuple [.int fw.1.num, .int (fw.1.den : Int)]) ≤ 1 := by simp [PyData.depth, PyData.depthAll]
      omega
    unfold SeqAt.shaped
    rw [l2, decide_eq_true (by omega)]
    rfl
  have eq1 : PyData.eqv (.tuple [.tuple [.int fw.1.num, .int (fw.1.den : Int)], .list (fw.2.map PyData.str)]) (.tuple [.tuple [.int fw.1.num, .int (fw.1.den : Int)], .list (fw.2.map PyData.str)]) = true := by
    have e1 : PyData.eqv (.tuple [.int fw.1.num, .int (fw.1.den : Int)]) (.tuple [.int fw.1.num, .int (fw.1.den : Int)]) = true := by rw [eqv2]; simp
    have e2 : PyData.eqv (.list (fw.2.map PyData.str)) (.list (fw.2.map PyData.str)) = true := by rw [show PyData.eqv (.list (fw.2.map PyData.str)) (.list (fw.2.map PyData.str)) = decide (fw.2 = fw.2) from eqvL eqvS _ _]; simp
    show (PyData.eqv (.tuple [.int fw.1.num, .int (fw.1.den : Int)]) (.tuple [.int fw.1.num, .int (fw.1.den : Int)]) && (PyData.eqv (.list (fw.2.map PyData.str)) (.list (fw.2.map PyData.str)) && true)) = true
    rw [e1, e2]
    rfl
  refine ov_neTP put_same dpy2 w1 (.tup (.cons dpy2 (.cons (.lst w1) .nil))) shp shp ?_
  rw [eq1]
  refine ⟨_, rfl, fun h => (by cases h), fun _ => ?_⟩
  refine sv_next ?_
  refine seqK_nx (sv_app (ev_op ?_))
  refine ev_var rfl ?_
  refine ev_int ?_
  refine ov_ixT (e := .ptr q) rfl ?_
  refine ⟨q, _, rfl, put_same, ev_str ⟨_, put_same, by rw [List.length_map]; omega, ?_⟩⟩
  exact ⟨(), by walk_at "le", trivial⟩
 ) only [↓hE])
end Far
namespace Lw
open PySem PySem.Spec PyProof.Rows L2 Pw Far
theorem sh_ok {K : PySem.W.Frag} {mg : Str → Option Value} (X : Txt K mg) : ShOk (cfg K) where
  cl := X.cl_Share
  nt := X.na_Share_top
  nb := X.na_Share_bottom
  ic := ⟨X.cl_Share, X.ia_Share, X.ig_Share, X.it_Share, X.obj_Share⟩
  kb := fun n hn => by
    simp only [List.mem_cons, List.not_mem_nil, or_false] at hn
    rcases hn with rfl | rfl | rfl | rfl | rfl | rfl | rfl
    · exact ⟨X.nf_Share_NoneType, X.kit_Share_NoneType⟩
    · exact ⟨X.nf_Share_int, X.kit_Share_int⟩
    · exact ⟨X.nf_Share_bool, X.kit_Share_bool⟩
    · exact ⟨X.nf_Share_str, X.kit_Share_str⟩
    · exact ⟨X.nf_Share_list, X.kit_Share_list⟩
    · exact ⟨X.nf_Share_tuple, X.kit_Share_tuple⟩
    · exact ⟨X.nf_Share_dict, X.kit_Share_dict⟩
  ko := fun n hn => by
    simp only [tys, List.mem_cons, List.not_mem_nil, or_false] at hn
    rcases hn with rfl | rfl | rfl | rfl | rfl | rfl
    · exact X.tik_Share_int
    · exact X.tik_Share_bool
    · exact X.tik_Share_str
    · exact X.tik_Share_list
    · exact X.tik_Share_tuple
    · exact X.tik_Share_dict
theorem ma_ok {K : PySem.W.Frag} {mg : Str → Option Value} (X : Txt K mg) : MaOk (cfg K) := ⟨sh_ok X, X.cl_Machine, X.na_Machine_many, X.na_Machine_steps, X.na_Machine_onward⟩
theorem go_ok {K : PySem.W.Frag} {mg : Str → Option Value} (X : Txt K mg) : GngOk (cfg K) := ⟨ma_ok X, X.cl_Going, X.na_Going_many, X.na_Going_by, X.na_Going_rows⟩
section
variable {P : Program} {w : World} {K : PySem.W.Frag} {mg : Str → Option Value} {base : Heap}
theorem b_is_whole (X : Txt K mg) : Binds K (fdOf K (He.ga K "is_whole")) ["thing"] [] := X.F_is_whole.bindsN fun _ _ _ _ _ _ us hl => match us, hl with | [_], _ => rfl
theorem ok_is_whole (X : Txt K mg) : FnOk P w K mg base CX0 1 (He.ga K "is_whole") (fdOf K (He.ga K "is_whole")) ["thing"] (spOf (cfg K) (pu (c_is_whole (cfg K)))) := by
  refine X.F_is_whole.ok sc_is_whole (fun vs H Q E h => spOf_len len_is_whole h) (fun cdv A outer s H vs Q E hr h => ⟨t_is_whole (cfg K) E, PSs.nox ?_, fn_go (pure_is_whole (sh_ok X)) vs H Q E h⟩)
  exact (pss_one (ps_ret (pe_and (pe_callB call_isi (by rfl) X.f_isinstance (by decide +kernel) (pa_cons (pv 0) (pa_cons (pe_bltn (by rfl) X.f_int (by decide +kernel) rfl) pa_nil))) (pe_one (pe_not (pe_callB call_isi (by rfl) X.f_isinstance (by decide +kernel) (pa_cons (pv 0) (pa_cons (pe_bltn (by rfl) X.f_bool (by decide +kernel) rfl) pa_nil))))))))
theorem b_is_between (X : Txt K mg) : Binds K (fdOf K (He.ga K "is_between")) ["thing", "low", "high"] [] := X.F_is_between.bindsN fun _ _ _ _ _ _ us hl => match us, hl with | [_, _, _], _ => rfl
theorem ok_is_between (X : Txt K mg) : FnOk P w K mg base CX0 2 (He.ga K "is_between") (fdOf K (He.ga K "is_between")) ["thing", "low", "high"] (spOf (cfg K) (pu (c_is_between (cfg K)))) := by
  refine X.F_is_between.ok sc_is_between (fun vs H Q E h => spOf_len len_is_between h) (fun cdv A outer s H vs Q E hr h => ⟨t_is_between (cfg K) E, PSs.nox ?_, fn_go (pure_is_between (sh_ok X)) vs H Q E h⟩)
  exact (pss_one (ps_ret (pe_and (pe_call (ok_is_whole X) (hr.mono (by decide)) (by rfl) X.g_is_whole X.F_is_whole.kp (b_is_whole X) .nil pass0 (pa_cons (pv 0) pa_nil)) (pe_one (pe_chain op_le op_le (pv 1) (pv 0) (pv 2))))))
theorem b_is_name (X : Txt K mg) : Binds K (fdOf K (He.ga K "is_name")) ["thing"] [] := X.F_is_name.bindsN fun _ _ _ _ _ _ us hl => match us, hl with | [_], _ => rfl
theorem ok_is_name (X : Txt K mg) : FnOk P w K mg base CX0 1 (He.ga K "is_name") (fdOf K (He.ga K "is_name")) ["thing"] (spOf (cfg K) (pu (c_is_name (cfg K)))) := by
  refine X.F_is_name.ok sc_is_name (fun vs H Q E h => spOf_len len_is_name h) (fun cdv A outer s H vs Q E hr h => ⟨t_is_name (cfg K) E, PSs.nox ?_, fn_go (pure_is_name (sh_ok X)) vs H Q E h⟩)
  exact (pss_cons (ps_if (PW.pt (pw_or (pt_not (pt_val (pe_callB call_isi (by rfl) X.f_isinstance (by decide +kernel) (pa_cons (pv 0) (pa_cons (pe_bltn (by rfl) X.f_str (by decide +kernel) rfl) pa_nil))))) (pw_or1 (pt_not (pt_chain op_le op_le pe_int (pe_callB call_len (by rfl) X.f_len (by decide +kernel) (pa_cons (pv 0) pa_nil)) (pe_glob (by rfl) X.k_MOST_LETTERS.choose_spec ⟨_, rfl⟩)))))) (pss_one (ps_ret pe_bl)) pss_nil)
      (pss_one (ps_ret (pe_callB (cr_all rfl) (by rfl) X.f_all (by decide +kernel) (pa_cons (pe_lc (own := [("letter", 1)]) (g := (gName 1)) (tt := tYes) (by rfl) sc_is_name.nd (pi_str (pv 0)) (blkOk_by (own := [("letter", 1)]) (N := ["thing", "letter"]) (sc := defScope s_is_name) (by decide +kernel)) (fun _ _ _ _ _ => (pg_name (i := 1) sc_is_name.nd rfl (by first | exact Or.inl rfl | exact Or.inr rfl))) (fun _ _ _ _ _ => pts_nil) (fun _ _ _ _ _ => (pe_cmpR op_in_sign (pv 1) (pe_glob (by rfl) X.k_LETTERS.choose_spec ⟨_, rfl⟩) rfl))) pa_nil)))))
theorem b_common (X : Txt K mg) : Binds K (fdOf K (He.ga K "common")) ["one", "other"] [] := X.F_common.bindsN fun _ _ _ _ _ _ us hl => match us, hl with | [_, _], _ => rfl
theorem ok_common (X : Txt K mg) : FnOk P w K mg base CX0 1 (He.ga K "common") (fdOf K (He.ga K "common")) ["one", "other"] (spOf (cfg K) (pu (c_common (cfg K)))) := by
  refine X.F_common.ok sc_common (fun vs H Q E h => spOf_len len_common h) (fun cdv A outer s H vs Q E hr h => ⟨t_common (cfg K) E, PSs.nox ?_, fn_go (pure_common (sh_ok X)) vs H Q E h⟩)
  exact (pss_cons (ps_while PassesOwn.never (pt_cmpR op_ne (pv 1) pe_int (nomark _)) (pss_one (ps_par (by rfl) sc_common.nd (i := 0) (j := 1) rfl rfl (by decide) rfl rfl (pa_cons (pv 1) (pa_cons (pe_op op_modN (pv 0) (pv 1)) pa_nil)) (by rfl))))
      (pss_one (ps_ret (pv 0))))
theorem b_Share___init___1 (X : Txt K mg) : ∃ ds, Vals ([.int 1] : List V) ds ∧ Binds K (fdOf K (He.ma K (He.ga K "Share") "__init__")) ["self", "top", "bottom"] ds := X.F_Share___init__.binds1 2 0 (by simp) rfl fun T kV doc pm an cdv ct us its h1 h2 => match us, its, h1, h2 with | [_, _], [_], _, _ => ⟨_, rfl, rfl⟩
theorem b_Share___init___2 (X : Txt K mg) : ∃ ds, Vals ([] : List V) ds ∧ Binds K (fdOf K (He.ma K (He.ga K "Share") "__init__")) ["self", "top", "bottom"] ds := X.F_Share___init__.binds1 3 1 (by simp) rfl fun T kV doc pm an cdv ct us its h1 h2 => match us, its, h1, h2 with | [_, _, _], [_], _, _ => ⟨_, rfl, rfl⟩
theorem ok_Share___init__ (X : Txt K mg) : FnOk P w K mg base (L2.CX P w) 2 (He.ma K (He.ga K "Share") "__init__") (fdOf K (He.ma K (He.ga K "Share") "__init__")) ["self", "top", "bottom"] (spOf (cfg K) (ini 0 (c_Share___init__ (cfg K)))) := by
  refine X.F_Share___init__.ok sc_Share___init__ (fun vs H Q E h => spOf_len len_Share___init__ h) (fun cdv A outer s H vs Q E hr h => ⟨t_Share___init__ (cfg K) E, ?_, fn_go (pure_Share___init__ (sh_ok X)) vs H Q E h⟩)
  exact (pss_cons (ps_if (PW.pt (pw_or (pt_not (pt_val (pe_call (ok_is_whole X) (hr.mono (by decide)) (by rfl) X.g_is_whole X.F_is_whole.kp (b_is_whole X) .nil pass0 (pa_cons (pv 1) pa_nil)))) (pw_or (pt_not (pt_val (pe_call (ok_is_whole X) (hr.mono (by decide)) (by rfl) X.g_is_whole X.F_is_whole.kp (b_is_whole X) .nil pass0 (pa_cons (pv 2) pa_nil)))) (pw_or1 (pt_cmpR op_eq (pv 2) pe_int (nomark _)))))) (pss_one (ps_raise rfl (takes_of rfl rfl rfl rfl) (pmk_own PySem.F.excBase_ValueError X.x0_NoShare X.g_NoShare X.x1_NoShare (raises_own X.x2_NoShare X.x3_NoShare) (by rfl)))) pss_nil)
      (pss_cons (ps_set (i := 3) sc_Share___init__.nd rfl (by first | exact Or.inl rfl | exact Or.inr rfl) (pe_op op_mulO (pe_call (ok_common X) (hr.mono (by decide)) (by rfl) X.g_common X.F_common.kp (b_common X) .nil pass0 (pa_cons (pe_callB call_abs (by rfl) X.f_abs (by decide +kernel) (pa_cons (pv 1) pa_nil)) (pa_cons (pe_callB call_abs (by rfl) X.f_abs (by decide +kernel) (pa_cons (pv 2) pa_nil)) pa_nil))) (pe_ifExp (pt_cmpR op_gt (pv 2) pe_int (nomark _)) pe_int (pe_un un_neg pe_int))))
      (pss_cons (ps_fld (pv 0) (pe_op op_fdivO (pv 1) (pv 3)) rfl)
      (pss_one (ps_fld (pv 0) (pe_op op_fdivO (pv 2) (pv 3)) rfl)))))
theorem b_minus (X : Txt K mg) : Binds K (fdOf K (He.ga K "minus")) ["one", "other"] [] := X.F_minus.bindsN fun _ _ _ _ _ _ us hl => match us, hl with | [_, _], _ => rfl
theorem ok_minus (X : Txt K mg) : FnOk P w K mg base CX0 4 (He.ga K "minus") (fdOf K (He.ga K "minus")) ["one", "other"] (spOf (cfg K) (pu (c_minus (cfg K)))) := by
  obtain ⟨dsShare2, hdShare2, bdShare2⟩ := b_Share___init___2 X
  refine X.F_minus.ok sc_minus (fun vs H Q E h => spOf_len len_minus h) (fun cdv A outer s H vs Q E hr h => ⟨t_minus (cfg K) E, PSs.nox ?_, fn_go (pure_minus (sh_ok X)) vs H Q E h⟩)
  exact (pss_one (ps_ret (pe_make X.mk_Share (ok_Share___init__ X) (hr.mono (by decide)) (by rfl) X.g_Share bdShare2 hdShare2 passL (pa_cons (pe_op op_sub (pe_op op_mulO (pe_fld (pv 0) rfl) (pe_fld (pv 1) rfl)) (pe_op op_mulO (pe_fld (pv 1) rfl) (pe_fld (pv 0) rfl))) (pa_cons (pe_op op_mulO (pe_fld (pv 0) rfl) (pe_fld (pv 1) rfl)) pa_nil)))))
theorem b_times (X : Txt K mg) : Binds K (fdOf K (He.ga K "times")) ["one", "other"] [] := X.F_times.bindsN fun _ _ _ _ _ _ us hl => match us, hl with | [_, _], _ => rfl
theorem ok_times (X : Txt K mg) : FnOk P w K mg base CX0 4 (He.ga K "times") (fdOf K (He.ga K "times")) ["one", "other"] (spOf (cfg K) (pu (c_times (cfg K)))) := by
  obtain ⟨dsShare2, hdShare2, bdShare2⟩ := b_Share___init___2 X
  refine X.F_times.ok sc_times (fun vs H Q E h => spOf_len len_times h) (fun cdv A outer s H vs Q E hr h => ⟨t_times (cfg K) E, PSs.nox ?_, fn_go (pure_times (sh_ok X)) vs H Q E h⟩)
  exact (pss_one (ps_ret (pe_make X.mk_Share (ok_Share___init__ X) (hr.mono (by decide)) (by rfl) X.g_Share bdShare2 hdShare2 passL (pa_cons (pe_op op_mulO (pe_fld (pv 0) rfl) (pe_fld (pv 1) rfl)) (pa_cons (pe_op op_mulO (pe_fld (pv 0) rfl) (pe_fld (pv 1) rfl)) pa_nil)))))
theorem b_less (X : Txt K mg) : Binds K (fdOf K (He.ga K "less")) ["one", "other"] [] := X.F_less.bindsN fun _ _ _ _ _ _ us hl => match us, hl with | [_, _], _ => rfl
theorem ok_less (X : Txt K mg) : FnOk P w K mg base CX0 1 (He.ga K "less") (fdOf K (He.ga K "less")) ["one", "other"] (spOf (cfg K) (pu (c_less (cfg K)))) := by
  refine X.F_less.ok sc_less (fun vs H Q E h => spOf_len len_less h) (fun cdv A outer s H vs Q E hr h => ⟨t_less (cfg K) E, PSs.nox ?_, fn_go (pure_less (sh_ok X)) vs H Q E h⟩)
  exact (pss_one (ps_ret (pe_cmpR op_lt (pe_op op_mulO (pe_fld (pv 0) rfl) (pe_fld (pv 1) rfl)) (pe_op op_mulO (pe_fld (pv 1) rfl) (pe_fld (pv 0) rfl)) (nomark _))))
theorem b_are_weights (X : Txt K mg) : Binds K (fdOf K (He.ga K "are_weights")) ["thing", "many"] [] := X.F_are_weights.bindsN fun _ _ _ _ _ _ us hl => match us, hl with | [_, _], _ => rfl
theorem ok_are_weights (X : Txt K mg) : FnOk P w K mg base CX0 2 (He.ga K "are_weights") (fdOf K (He.ga K "are_weights")) ["thing", "many"] (spOf (cfg K) (pu (c_are_weights (cfg K)))) := by
  refine X.F_are_weights.ok sc_are_weights (fun vs H Q E h => spOf_len len_are_weights h) (fun cdv A outer s H vs Q E hr h => ⟨t_are_weights (cfg K) E, PSs.nox ?_, fn_go (pure_are_weights (sh_ok X)) vs H Q E h⟩)
  exact (pss_cons (ps_if (PW.pt (pw_or (pt_not (pt_val (pe_callB call_isi (by rfl) X.f_isinstance (by decide +kernel) (pa_cons (pv 0) (pa_cons (pe_bltn (by rfl) X.f_tuple (by decide +kernel) rfl) pa_nil))))) (pw_or1 (pt_cmpR op_ne (pe_callB call_len (by rfl) X.f_len (by decide +kernel) (pa_cons (pv 0) pa_nil)) (pv 1) (nomark _))))) (pss_one (ps_ret pe_bl)) pss_nil)
      (pss_one (ps_ret (pe_and (pe_callB (cr_all rfl) (by rfl) X.f_all (by decide +kernel) (pa_cons (pe_lc (own := [("weight", 2)]) (g := (gName 2)) (tt := tYes) (by rfl) sc_are_weights.nd (pi_tup (pv 0)) (blkOk_by (own := [("weight", 2)]) (N := ["thing", "many", "weight"]) (sc := defScope s_are_weights) (by decide +kernel)) (fun _ _ _ _ _ => (pg_name (i := 2) sc_are_weights.nd rfl (by first | exact Or.inl rfl | exact Or.inr rfl))) (fun _ _ _ _ _ => pts_nil) (fun _ _ _ _ _ => (pe_and (pe_call (ok_is_whole X) (hr.mono (by decide)) (by rfl) X.g_is_whole X.F_is_whole.kp (b_is_whole X) .nil pass0 (pa_cons (pv 2) pa_nil)) (pe_one (pe_cmpR op_ge (pv 2) pe_int (nomark _)))))) pa_nil)) (pe_one (pe_cmpR op_gt (pe_callB (cr_sumT rfl) (by rfl) X.f_sum (by decide +kernel) (pa_cons (pv 0) pa_nil)) pe_int (nomark _)))))))
theorem b_is_step (X : Txt K mg) : Binds K (fdOf K (He.ga K "is_step")) ["thing", "many"] [] := X.F_is_step.bindsN fun _ _ _ _ _ _ us hl => match us, hl with | [_, _], _ => rfl
theorem ok_is_step (X : Txt K mg) : FnOk P w K mg base CX0 3 (He.ga K "is_step") (fdOf K (He.ga K "is_step")) ["thing", "many"] (spOf (cfg K) (pu (c_is_step (cfg K)))) := by
  refine X.F_is_step.ok sc_is_step (fun vs H Q E h => spOf_len len_is_step h) (fun cdv A outer s H vs Q E hr h => ⟨t_is_step (cfg K) E, PSs.nox ?_, fn_go (pure_is_step (sh_ok X)) vs H Q E h⟩)
  exact (pss_cons (ps_if (PW.pt (pw_or (pt_not (pt_val (pe_callB call_isi (by rfl) X.f_isinstance (by decide +kernel) (pa_cons (pv 0) (pa_cons (pe_bltn (by rfl) X.f_tuple (by decide +kernel) rfl) pa_nil))))) (pw_or1 (pt_cmpR op_ne (pe_callB call_len (by rfl) X.f_len (by decide +kernel) (pa_cons (pv 0) pa_nil)) pe_int (nomark _))))) (pss_one (ps_ret pe_bl)) pss_nil)
      (pss_one (ps_ret (pe_and (pe_call (ok_is_between X) (hr.mono (by decide)) (by rfl) X.g_is_between X.F_is_between.kp (b_is_between X) .nil pass0 (pa_cons (pe_ix ix_tup (pv 0) pe_int (fun _ _ => rfl)) (pa_cons pe_int (pa_cons (pe_op op_sub (pv 1) pe_int) pa_nil)))) (pe_and (pe_call (ok_is_name X) (hr.mono (by decide)) (by rfl) X.g_is_name X.F_is_name.kp (b_is_name X) .nil pass0 (pa_cons (pe_ix ix_tup (pv 0) pe_int (fun _ _ => rfl)) pa_nil)) (pe_one (pe_call (ok_are_weights X) (hr.mono (by decide)) (by rfl) X.g_are_weights X.F_are_weights.kp (b_are_weights X) .nil pass0 (pa_cons (pe_ix ix_tup (pv 0) pe_int (fun _ _ => rfl)) (pa_cons (pv 1) pa_nil)))))))))
theorem b_are_steps (X : Txt K mg) : Binds K (fdOf K (He.ga K "are_steps")) ["thing", "many"] [] := X.F_are_steps.bindsN fun _ _ _ _ _ _ us hl => match us, hl with | [_, _], _ => rfl
theorem ok_are_steps (X : Txt K mg) : FnOk P w K mg base CX0 4 (He.ga K "are_steps") (fdOf K (He.ga K "are_steps")) ["thing", "many"] (spOf (cfg K) (pu (c_are_steps (cfg K)))) := by
  refine X.F_are_steps.ok sc_are_steps (fun vs H Q E h => spOf_len len_are_steps h) (fun cdv A outer s H vs Q E hr h => ⟨t_are_steps (cfg K) E, PSs.nox ?_, fn_go (pure_are_steps (sh_ok X)) vs H Q E h⟩)
  exact (pss_cons (ps_if (PW.pt (pw_or (pt_not (pt_val (pe_callB call_isi (by rfl) X.f_isinstance (by decide +kernel) (pa_cons (pv 0) (pa_cons (pe_bltn (by rfl) X.f_list (by decide +kernel) rfl) pa_nil))))) (pw_or1 (pt_not (pt_val (pe_callB (cr_all rfl) (by rfl) X.f_all (by decide +kernel) (pa_cons (pe_lc (own := [("step", 2)]) (g := (gName 2)) (tt := tYes) (by rfl) sc_are_steps.nd (pi_list (pv 0)) (blkOk_by (own := [("step", 2)]) (N := ["thing", "many", "step"]) (sc := defScope s_are_steps) (by decide +kernel)) (fun _ _ _ _ _ => (pg_name (i := 2) sc_are_steps.nd rfl (by first | exact Or.inl rfl | exact Or.inr rfl))) (fun _ _ _ _ _ => pts_nil) (fun _ _ _ _ _ => (pe_call (ok_is_step X) (hr.mono (by decide)) (by rfl) X.g_is_step X.F_is_step.kp (b_is_step X) .nil pass0 (pa_cons (pv 2) (pa_cons (pv 1) pa_nil))))) pa_nil))))))) (pss_one (ps_ret pe_bl)) pss_nil)
      (pss_one (ps_ret (pe_cmpR op_eq (pe_lenSetM (by rfl) hr.units (by rfl) X.f_len (by rfl) X.f_set (pe_lc (own := [("step", 2)]) (g := (gName 2)) (tt := tYes) (by rfl) sc_are_steps.nd (pi_list (pv 0)) (blkOk_by (own := [("step", 2)]) (N := ["thing", "many", "step"]) (sc := defScope s_are_steps) (by decide +kernel)) (fun _ _ _ _ _ => (pg_name (i := 2) sc_are_steps.nd rfl (by first | exact Or.inl rfl | exact Or.inr rfl))) (fun _ _ _ _ _ => pts_nil) (fun _ _ _ _ _ => (pe_slice sl_tupA (pv 2) po_none (po_some pe_int))))) (pe_callB call_len (by rfl) X.f_len (by decide +kernel) (pa_cons (pv 0) pa_nil)) (nomark _)))))
theorem b_lowest (X : Txt K mg) : Binds K (fdOf K (He.ga K "lowest")) ["weights"] [] := X.F_lowest.bindsN fun _ _ _ _ _ _ us hl => match us, hl with | [_], _ => rfl
theorem ok_lowest (X : Txt K mg) : FnOk P w K mg base CX0 2 (He.ga K "lowest") (fdOf K (He.ga K "lowest")) ["weights"] (spOf (cfg K) (pu (c_lowest (cfg K)))) := by
  refine X.F_lowest.ok sc_lowest (fun vs H Q E h => spOf_len len_lowest h) (fun cdv A outer s H vs Q E hr h => ⟨t_lowest (cfg K) E, PSs.nox ?_, fn_go (pure_lowest (sh_ok X)) vs H Q E h⟩)
  exact (pss_cons (ps_set (i := 1) sc_lowest.nd rfl (by first | exact Or.inl rfl | exact Or.inr rfl) pe_int)
      (pss_cons (ps_for PassesOwn.never rfl (pi_tup (pv 0)) (pg_name (i := 2) sc_lowest.nd rfl (by first | exact Or.inl rfl | exact Or.inr rfl)) (pss_one (ps_set (i := 1) sc_lowest.nd rfl (by first | exact Or.inl rfl | exact Or.inr rfl) (pe_call (ok_common X) (hr.mono (by decide)) (by rfl) X.g_common X.F_common.kp (b_common X) .nil pass0 (pa_cons (pv 2) (pa_cons (pv 1) pa_nil))))))
      (pss_one (ps_ret (pe_callTy call_tuple_of (by rfl) X.f_tuple (by decide +kernel) (pa_cons (pe_lc (own := [("weight", 2)]) (g := (gName 2)) (tt := tYes) (by rfl) sc_lowest.nd (pi_tup (pv 0)) (blkOk_by (own := [("weight", 2)]) (N := ["weights", "by", "weight"]) (sc := defScope s_lowest) (by decide +kernel)) (fun _ _ _ _ _ => (pg_name (i := 2) sc_lowest.nd rfl (by first | exact Or.inl rfl | exact Or.inr rfl))) (fun _ _ _ _ _ => pts_nil) (fun _ _ _ _ _ => (pe_op op_fdivO (pv 2) (pv 1)))) pa_nil))))))
theorem b_Machine___init__ (X : Txt K mg) : Binds K (fdOf K (He.ma K (He.ga K "Machine") "__init__")) ["self", "many", "steps"] [] := X.F_Machine___init__.bindsN fun _ _ _ _ _ _ us hl => match us, hl with | [_, _, _], _ => rfl
theorem ok_Machine___init__ (X : Txt K mg) : FnOk P w K mg base CX0 5 (He.ma K (He.ga K "Machine") "__init__") (fdOf K (He.ma K (He.ga K "Machine") "__init__")) ["self", "many", "steps"] (spOf (cfg K) (ini 1 (c_Machine___init__ (cfg K)))) := by
  refine X.F_Machine___init__.ok sc_Machine___init__ (fun vs H Q E h => spOf_len len_Machine___init__ h) (fun cdv A outer s H vs Q E hr h => ⟨t_Machine___init__ (cfg K) E, PSs.nox ?_, fn_go (pure_Machine___init__ (ma_ok X)) vs H Q E h⟩)
  exact (pss_cons (ps_if (pt_not (pt_val (pe_call (ok_is_between X) (hr.mono (by decide)) (by rfl) X.g_is_between X.F_is_between.kp (b_is_between X) .nil pass0 (pa_cons (pv 1) (pa_cons pe_int (pa_cons (pe_glob (by rfl) X.k_MOST_ROOMS.choose_spec ⟨_, rfl⟩) pa_nil)))))) (pss_one ps_nev) pss_nil)
      (pss_cons (ps_if (pt_not (pt_val (pe_call (ok_are_steps X) (hr.mono (by decide)) (by rfl) X.g_are_steps X.F_are_steps.kp (b_are_steps X) .nil pass0 (pa_cons (pv 2) (pa_cons (pv 1) pa_nil))))) (pss_one ps_nev) pss_nil)
      (pss_cons (ps_fld (pv 0) (pv 1) rfl)
      (pss_cons (ps_fld (pv 0) (pe_callB (cr_sortD hr.units) (by rfl) X.f_sorted (by decide +kernel) (pa_cons (pe_lc (own := [("room", 3), ("sign", 4), ("weights", 5)]) (g := (gTup (cfg K).K 3 (gCons (gName 3) (gCons (gName 4) (gCons (gName 5) gNil))))) (tt := tYes) (by rfl) sc_Machine___init__.nd (pi_list (pv 2)) (blkOk_by (own := [("room", 3), ("sign", 4), ("weights", 5)]) (N := ["self", "many", "steps", "room", "sign", "weights"]) (sc := defScope s_Machine___init__) (by decide +kernel)) (fun _ _ _ _ _ => (pg_tup rfl (pgs_cons (pg_name (i := 3) sc_Machine___init__.nd rfl (by first | exact Or.inl rfl | exact Or.inr rfl)) (pgs_cons (pg_name (i := 4) sc_Machine___init__.nd rfl (by first | exact Or.inl rfl | exact Or.inr rfl)) (pgs_cons (pg_name (i := 5) sc_Machine___init__.nd rfl (by first | exact Or.inl rfl | exact Or.inr rfl)) pgs_nil))))) (fun _ _ _ _ _ => pts_nil) (fun _ _ _ _ _ => (pe_tup (pa_cons (pv 3) (pa_cons (pv 4) (pa_cons (pe_call (ok_lowest X) (hr.mono (by decide)) (by rfl) X.g_lowest X.F_lowest.kp (b_lowest X) .nil pass0 (pa_cons (pv 5) pa_nil)) pa_nil)))))) pa_nil)) rfl)
      (pss_cons (ps_fld (pv 0) (pe_lc (own := [("room", 3)]) (g := (gName 3)) (tt := tYes) (by rfl) sc_Machine___init__.nd (pi_range1 (by rfl) X.f_range (pa_cons (pv 1) pa_nil)) (blkOk_by (own := [("room", 3)]) (N := ["self", "many", "steps", "room", "sign", "weights"]) (sc := defScope s_Machine___init__) (by decide +kernel)) (fun _ _ _ _ _ => (pg_name (i := 3) sc_Machine___init__.nd rfl (by first | exact Or.inl rfl | exact Or.inr rfl))) (fun _ _ _ _ _ => pts_nil) (fun _ _ _ _ _ => pe_dnewK)) rfl)
      (pss_one (ps_for PassesOwn.never rfl (pi_list (pe_fld (pv 0) rfl)) (pg_tup rfl (pgs_cons (pg_name (i := 3) sc_Machine___init__.nd rfl (by first | exact Or.inl rfl | exact Or.inr rfl)) (pgs_cons (pg_name (i := 4) sc_Machine___init__.nd rfl (by first | exact Or.inl rfl | exact Or.inr rfl)) (pgs_cons (pg_name (i := 5) sc_Machine___init__.nd rfl (by first | exact Or.inl rfl | exact Or.inr rfl)) pgs_nil)))) (pss_one (ps_dput (hu1 hr) (pe_ix ix_list (pe_fld (pv 0) rfl) (pv 3) (fun _ _ => rfl)) (pv 4) (pv 5) (by rfl))))))))))
theorem b_check_fade (X : Txt K mg) : Binds K (fdOf K (He.ga K "check_fade")) ["fade"] [] := X.F_check_fade.bindsN fun _ _ _ _ _ _ us hl => match us, hl with | [_], _ => rfl
theorem ok_check_fade (X : Txt K mg) : FnOk P w K mg base CX0 4 (He.ga K "check_fade") (fdOf K (He.ga K "check_fade")) ["fade"] (spOf (cfg K) (pu (c_check_fade (cfg K)))) := by
  obtain ⟨dsShare1, hdShare1, bdShare1⟩ := b_Share___init___1 X
  refine X.F_check_fade.ok sc_check_fade (fun vs H Q E h => spOf_len len_check_fade h) (fun cdv A outer s H vs Q E hr h => ⟨t_check_fade (cfg K) E, PSs.nox ?_, fn_go (pure_check_fade (sh_ok X)) vs H Q E h⟩)
  exact (pss_one (ps_if (PW.pt (pw_or (pt_not (pt_val (pe_callB call_isi (by rfl) X.f_isinstance (by decide +kernel) (pa_cons (pv 0) (pa_cons (pe_glob (by rfl) X.g_Share rfl) pa_nil))))) (pw_or (pt_not (pt_val (pe_call (ok_less X) (hr.mono (by decide)) (by rfl) X.g_less X.F_less.kp (b_less X) .nil pass0 (pa_cons (pe_make X.mk_Share (ok_Share___init__ X) (hr.mono (by decide)) (by rfl) X.g_Share bdShare1 hdShare1 passL (pa_cons pe_int pa_nil)) (pa_cons (pv 0) pa_nil))))) (pw_or1 (pt_not (pt_val (pe_call (ok_less X) (hr.mono (by decide)) (by rfl) X.g_less X.F_less.kp (b_less X) .nil pass0 (pa_cons (pv 0) (pa_cons (pe_make X.mk_Share (ok_Share___init__ X) (hr.mono (by decide)) (by rfl) X.g_Share bdShare1 hdShare1 passL (pa_cons pe_int pa_nil)) pa_nil))))))))) (pss_one ps_nev) pss_nil))
theorem b_check_depth (X : Txt K mg) : Binds K (fdOf K (He.ga K "check_depth")) ["depth", "most"] [] := X.F_check_depth.bindsN fun _ _ _ _ _ _ us hl => match us, hl with | [_, _], _ => rfl
theorem ok_check_depth (X : Txt K mg) : FnOk P w K mg base CX0 3 (He.ga K "check_depth") (fdOf K (He.ga K "check_depth")) ["depth", "most"] (spOf (cfg K) (pu (c_check_depth (cfg K)))) := by
  refine X.F_check_depth.ok sc_check_depth (fun vs H Q E h => spOf_len len_check_depth h) (fun cdv A outer s H vs Q E hr h => ⟨t_check_depth (cfg K) E, PSs.nox ?_, fn_go (pure_check_depth (sh_ok X)) vs H Q E h⟩)
  exact (pss_one (ps_if (pt_not (pt_val (pe_call (ok_is_between X) (hr.mono (by decide)) (by rfl) X.g_is_between X.F_is_between.kp (b_is_between X) .nil pass0 (pa_cons (pv 0) (pa_cons pe_int (pa_cons (pv 1) pa_nil)))))) (pss_one ps_nev) pss_nil))
theorem b_signs_of (X : Txt K mg) : Binds K (fdOf K (He.ga K "signs_of")) ["machine"] [] := X.F_signs_of.bindsN fun _ _ _ _ _ _ us hl => match us, hl with | [_], _ => rfl
theorem ok_signs_of (X : Txt K mg) : FnOk P w K mg base CX0 1 (He.ga K "signs_of") (fdOf K (He.ga K "signs_of")) ["machine"] (spOf (cfg K) (pu (c_signs_of (cfg K)))) := by
  refine X.F_signs_of.ok sc_signs_of (fun vs H Q E h => spOf_len len_signs_of h) (fun cdv A outer s H vs Q E hr h => ⟨t_signs_of (cfg K) E, PSs.nox ?_, fn_go (pure_signs_of (ma_ok X)) vs H Q E h⟩)
  exact (pss_one (ps_ret (pe_sortSetT (by rfl) hr.units (by rfl) X.f_sorted (by rfl) X.f_set (pe_lc (own := [("room", 1), ("sign", 2), ("weights", 3)]) (g := (gTup (cfg K).K 3 (gCons (gName 1) (gCons (gName 2) (gCons (gName 3) gNil))))) (tt := tYes) (by rfl) sc_signs_of.nd (pi_list (pe_fld (pv 0) rfl)) (blkOk_by (own := [("room", 1), ("sign", 2), ("weights", 3)]) (N := ["machine", "room", "sign", "weights"]) (sc := defScope s_signs_of) (by decide +kernel)) (fun _ _ _ _ _ => (pg_tup rfl (pgs_cons (pg_name (i := 1) sc_signs_of.nd rfl (by first | exact Or.inl rfl | exact Or.inr rfl)) (pgs_cons (pg_name (i := 2) sc_signs_of.nd rfl (by first | exact Or.inl rfl | exact Or.inr rfl)) (pgs_cons (pg_name (i := 3) sc_signs_of.nd rfl (by first | exact Or.inl rfl | exact Or.inr rfl)) pgs_nil))))) (fun _ _ _ _ _ => pts_nil) (fun _ _ _ _ _ => (pv 2))))))
theorem b_Going___init__ (X : Txt K mg) : Binds K (fdOf K (He.ma K (He.ga K "Going") "__init__")) ["self", "machine"] [] := X.F_Going___init__.bindsN fun _ _ _ _ _ _ us hl => match us, hl with | [_, _], _ => rfl
theorem ok_Going___init__ (X : Txt K mg) : FnOk P w K mg base CX0 2 (He.ma K (He.ga K "Going") "__init__") (fdOf K (He.ma K (He.ga K "Going") "__init__")) ["self", "machine"] (spOf (cfg K) (c_Going___init__ (cfg K))) := by
  refine X.F_Going___init__.ok sc_Going___init__ (fun vs H Q E h => spOf_len len_Going___init__ h) (fun cdv A outer s H vs Q E hr h => ⟨t_Going___init__ (cfg K) E, PSs.nox ?_, fn_go (pure_Going___init__ (go_ok X)) vs H Q E h⟩)
  exact (pss_cons (ps_fld (pv 0) (pe_fld (pv 1) rfl) rfl)
      (pss_cons (ps_fld (pv 0) pe_dnewK rfl)
      (pss_cons (ps_fld (pv 0) pe_dnewT rfl)
      (pss_cons (ps_for PassesOwn.never rfl (pi_list (pe_fld (pv 1) rfl)) (pg_tup rfl (pgs_cons (pg_name (i := 2) sc_Going___init__.nd rfl (by first | exact Or.inl rfl | exact Or.inr rfl)) (pgs_cons (pg_name (i := 3) sc_Going___init__.nd rfl (by first | exact Or.inl rfl | exact Or.inr rfl)) (pgs_cons (pg_name (i := 4) sc_Going___init__.nd rfl (by first | exact Or.inl rfl | exact Or.inr rfl)) pgs_nil)))) (pss_cons (ps_set (i := 5) sc_Going___init__.nd rfl (by first | exact Or.inl rfl | exact Or.inr rfl) (pe_callB (cr_sumT rfl) (by rfl) X.f_sum (by decide +kernel) (pa_cons (pv 4) pa_nil)))
      (pss_cons (ps_set (i := 6) sc_Going___init__.nd rfl (by first | exact Or.inl rfl | exact Or.inr rfl) (pe_dget2 (hu1 hr) (pe_fld (pv 0) rfl) (pv 3) pe_int ⟨by rfl, by rfl, by rfl, by rfl⟩))
      (pss_one (ps_dput (hu1 hr) (pe_fld (pv 0) rfl) (pv 3) (pe_op op_mulO (pe_op op_fdivO (pv 6) (pe_call (ok_common X) (hr.mono (by decide)) (by rfl) X.g_common X.F_common.kp (b_common X) .nil pass0 (pa_cons (pv 6) (pa_cons (pv 5) pa_nil)))) (pv 5)) (by rfl))))))
      (pss_one (ps_for PassesOwn.never rfl (pi_list (pe_fld (pv 1) rfl)) (pg_tup rfl (pgs_cons (pg_name (i := 2) sc_Going___init__.nd rfl (by first | exact Or.inl rfl | exact Or.inr rfl)) (pgs_cons (pg_name (i := 3) sc_Going___init__.nd rfl (by first | exact Or.inl rfl | exact Or.inr rfl)) (pgs_cons (pg_name (i := 4) sc_Going___init__.nd rfl (by first | exact Or.inl rfl | exact Or.inr rfl)) pgs_nil)))) (pss_cons (ps_set (i := 7) sc_Going___init__.nd rfl (by first | exact Or.inl rfl | exact Or.inr rfl) (pe_op op_fdivO (pe_dget (hu1 hr) (pe_fld (pv 0) rfl) (pv 3) (fun _ _ => rfl)) (pe_callB (cr_sumT rfl) (by rfl) X.f_sum (by decide +kernel) (pa_cons (pv 4) pa_nil))))
      (pss_one (ps_dput (hu1 hr) (pe_fld (pv 0) rfl) (pe_tup (pa_cons (pv 2) (pa_cons (pv 3) pa_nil))) (pe_lc (own := [("to", 8), ("weight", 9)]) (g := (gTup (cfg K).K 2 (gCons (gName 8) (gCons (gName 9) gNil)))) (tt := (tTest (tOp (rI0 fun i j => .bl (decide (j < i))) (tVar 9) (tC (.int 0))))) (by rfl) sc_Going___init__.nd (pi_enumT (by rfl) X.f_enumerate (pa_cons (pv 4) pa_nil)) (blkOk_by (own := [("to", 8), ("weight", 9)]) (N := ["self", "machine", "room", "sign", "weights", "whole", "by", "part", "to", "weight"]) (sc := defScope s_Going___init__) (by decide +kernel)) (fun _ _ _ _ _ => (pg_tup rfl (pgs_cons (pg_name (i := 8) sc_Going___init__.nd rfl (by first | exact Or.inl rfl | exact Or.inr rfl)) (pgs_cons (pg_name (i := 9) sc_Going___init__.nd rfl (by first | exact Or.inl rfl | exact Or.inr rfl)) pgs_nil)))) (fun _ _ _ _ _ => (pts_one (pt_cmpR op_gt (pv 9) pe_int (nomark _)))) (fun _ _ _ _ _ => (pe_tup (pa_cons (pv 8) (pa_cons (pe_op op_mulO (pv 9) (pv 7)) pa_nil))))) (by rfl))))))))))
theorem b_Going_begun (X : Txt K mg) : Binds K (fdOf K (He.ma K (He.ga K "Going") "begun")) ["self"] [] := X.F_Going_begun.bindsN fun _ _ _ _ _ _ us hl => match us, hl with | [_], _ => rfl
theorem ok_Going_begun (X : Txt K mg) : FnOk P w K mg base CX0 1 (He.ma K (He.ga K "Going") "begun") (fdOf K (He.ma K (He.ga K "Going") "begun")) ["self"] (spOf (cfg K) (c_Going_begun (cfg K))) := by
  refine X.F_Going_begun.ok sc_Going_begun (fun vs H Q E h => spOf_len len_Going_begun h) (fun cdv A outer s H vs Q E hr h => ⟨t_Going_begun (cfg K) E, PSs.nox ?_, fn_go (pure_Going_begun (go_ok X)) vs H Q E h⟩)
  exact (pss_one (ps_ret (pe_tup (pa_cons (pe_lc (own := [("room", 1)]) (g := (gName 1)) (tt := tYes) (by rfl) sc_Going_begun.nd (pi_range1 (by rfl) X.f_range (pa_cons (pe_fld (pv 0) rfl) pa_nil)) (blkOk_by (own := [("room", 1)]) (N := ["self", "room"]) (sc := defScope s_Going_begun) (by decide +kernel)) (fun _ _ _ _ _ => (pg_name (i := 1) sc_Going_begun.nd rfl (by first | exact Or.inl rfl | exact Or.inr rfl))) (fun _ _ _ _ _ => pts_nil) (fun _ _ _ _ _ => (pe_callTy call_int1 (by rfl) X.f_int (by decide +kernel) (pa_cons (pe_cmpR op_eq (pv 1) pe_int (nomark _)) pa_nil)))) (pa_cons pe_int pa_nil)))))
theorem b_Going_gone (X : Txt K mg) : Binds K (fdOf K (He.ma K (He.ga K "Going") "gone")) ["self", "spread", "sign"] [] := X.F_Going_gone.bindsN fun _ _ _ _ _ _ us hl => match us, hl with | [_, _, _], _ => rfl
theorem ok_Going_gone (X : Txt K mg) : FnOk P w K mg base CX0 1 (He.ma K (He.ga K "Going") "gone") (fdOf K (He.ma K (He.ga K "Going") "gone")) ["self", "spread", "sign"] (spOf (cfg K) (c_Going_gone (cfg K))) := by
  refine X.F_Going_gone.ok sc_Going_gone (fun vs H Q E h => spOf_len len_Going_gone h) (fun cdv A outer s H vs Q E hr h => ⟨t_Going_gone (cfg K) E, PSs.nox ?_, fn_go (pure_Going_gone (go_ok X)) vs H Q E h⟩)
  exact (pss_cons (ps_asg (pv 1) (pg_tup rfl (pgs_cons (pg_name (i := 4) sc_Going_gone.nd rfl (by first | exact Or.inl rfl | exact Or.inr rfl)) (pgs_cons (pg_name (i := 5) sc_Going_gone.nd rfl (by first | exact Or.inl rfl | exact Or.inr rfl)) pgs_nil))))
      (pss_cons (ps_set (i := 3) sc_Going_gone.nd rfl (by first | exact Or.inl rfl | exact Or.inr rfl) (pe_op op_rep (pe_lst (pa_cons pe_int pa_nil)) (pe_fld (pv 0) rfl)))
      (pss_cons (ps_for PassesOwn.never rfl (pi_enum (by rfl) X.f_enumerate (pa_cons (pv 4) pa_nil)) (pg_tup rfl (pgs_cons (pg_name (i := 6) sc_Going_gone.nd rfl (by first | exact Or.inl rfl | exact Or.inr rfl)) (pgs_cons (pg_name (i := 7) sc_Going_gone.nd rfl (by first | exact Or.inl rfl | exact Or.inr rfl)) pgs_nil))) (pss_one (ps_if (pt_cmpR op_gt (pv 7) pe_int (nomark _)) (pss_one (ps_for PassesOwn.never rfl (pi_list (pe_dget2 (hu1 hr) (pe_fld (pv 0) rfl) (pe_tup (pa_cons (pv 6) (pa_cons (pv 2) pa_nil))) (pe_lst pa_nil) ⟨by rfl, by rfl, by rfl, by rfl⟩)) (pg_tup rfl (pgs_cons (pg_name (i := 8) sc_Going_gone.nd rfl (by first | exact Or.inl rfl | exact Or.inr rfl)) (pgs_cons (pg_name (i := 9) sc_Going_gone.nd rfl (by first | exact Or.inl rfl | exact Or.inr rfl)) pgs_nil))) (pss_one (ps_augS (pv 3) (pv 8) get_listP (pe_op op_mulO (pv 7) (pv 9)) ip_add set_list)))) pss_nil)))
      (pss_one (ps_ret (pe_tup (pa_cons (pv 3) (pa_cons (pe_op op_mulO (pv 5) (pe_dget2 (hu1 hr) (pe_fld (pv 0) rfl) (pv 2) pe_int ⟨by rfl, by rfl, by rfl, by rfl⟩)) pa_nil))))))))
theorem b_share_of (X : Txt K mg) : Binds K (fdOf K (He.ga K "share_of")) ["spread"] [] := X.F_share_of.bindsN fun _ _ _ _ _ _ us hl => match us, hl with | [_], _ => rfl
theorem ok_share_of (X : Txt K mg) : FnOk P w K mg base CX0 4 (He.ga K "share_of") (fdOf K (He.ga K "share_of")) ["spread"] (spOf (cfg K) (pu (c_share_of (cfg K)))) := by
  obtain ⟨dsShare2, hdShare2, bdShare2⟩ := b_Share___init___2 X
  refine X.F_share_of.ok sc_share_of (fun vs H Q E h => spOf_len len_share_of h) (fun cdv A outer s H vs Q E hr h => ⟨t_share_of (cfg K) E, PSs.nox ?_, fn_go (pure_share_of (sh_ok X)) vs H Q E h⟩)
  exact (pss_cons (ps_asg (pv 0) (pg_tup rfl (pgs_cons (pg_name (i := 1) sc_share_of.nd rfl (by first | exact Or.inl rfl | exact Or.inr rfl)) (pgs_cons (pg_name (i := 2) sc_share_of.nd rfl (by first | exact Or.inl rfl | exact Or.inr rfl)) pgs_nil))))
      (pss_one (ps_ret (pe_make X.mk_Share (ok_Share___init__ X) (hr.mono (by decide)) (by rfl) X.g_Share bdShare2 hdShare2 passL (pa_cons (pe_callB (cr_sum rfl) (by rfl) X.f_sum (by decide +kernel) (pa_cons (pv 1) pa_nil)) (pa_cons (pv 2) pa_nil))))))
theorem b_check_words (X : Txt K mg) : Binds K (fdOf K (He.ga K "check_words")) ["fade", "one", "other", "long"] [] := X.F_check_words.bindsN fun _ _ _ _ _ _ us hl => match us, hl with | [_, _, _, _], _ => rfl
theorem ok_check_words (X : Txt K mg) : FnOk P w K mg base CX0 5 (He.ga K "check_words") (fdOf K (He.ga K "check_words")) ["fade", "one", "other", "long"] (spOf (cfg K) (pu (c_check_words (cfg K)))) := by
  refine X.F_check_words.ok sc_check_words (fun vs H Q E h => spOf_len len_check_words h) (fun cdv A outer s H vs Q E hr h => ⟨t_check_words (cfg K) E, PSs.nox ?_, fn_go (pure_check_words (ma_ok X)) vs H Q E h⟩)
  exact (pss_cons (ps_expr (pe_call (ok_check_fade X) (hr.mono (by decide)) (by rfl) X.g_check_fade X.F_check_fade.kp (b_check_fade X) .nil pass0 (pa_cons (pv 0) pa_nil)))
      (pss_cons (ps_expr (pe_call (ok_check_depth X) (hr.mono (by decide)) (by rfl) X.g_check_depth X.F_check_depth.kp (b_check_depth X) .nil pass0 (pa_cons (pv 3) (pa_cons (pe_glob (by rfl) X.k_MOST_LONG.choose_spec ⟨_, rfl⟩) pa_nil))))
      (pss_one (ps_if (pt_cmpR op_gt (pe_lenSetT (by rfl) hr.units (by rfl) X.f_len (by rfl) X.f_set (pe_op op_cat (pe_call (ok_signs_of X) (hr.mono (by decide)) (by rfl) X.g_signs_of X.F_signs_of.kp (b_signs_of X) .nil pass0 (pa_cons (pv 1) pa_nil)) (pe_call (ok_signs_of X) (hr.mono (by decide)) (by rfl) X.g_signs_of X.F_signs_of.kp (b_signs_of X) .nil pass0 (pa_cons (pv 2) pa_nil)))) (pe_glob (by rfl) X.k_MOST_SIGNS.choose_spec ⟨_, rfl⟩) (nomark _)) (pss_one ps_nev) pss_nil))))
theorem b_farthest_wordN (X : Txt K mg) : Binds K (fdOf K (He.ga K "farthest_word")) ["fade", "one", "other", "long"] [] := X.F_farthest_wordN.bindsN fun _ _ _ _ _ _ us hl => match us, hl with | [_, _, _, _], _ => rfl
theorem ok_farthest_wordN (X : Txt K mg) : FnOk P w K mg base CX0 6 (He.ga K "farthest_word") (fdOf K (He.ga K "farthest_word")) ["fade", "one", "other", "long"] (spOf (cfg K) (c_farthest_wordN (cfg K))) := by
  obtain ⟨dsShare1, hdShare1, bdShare1⟩ := b_Share___init___1 X
  obtain ⟨dsShare2, hdShare2, bdShare2⟩ := b_Share___init___2 X
  refine X.F_farthest_wordN.ok sc_farthest_wordN (fun vs H Q E h => spOf_len len_farthest_wordN h) (fun cdv A outer s H vs Q E hr h => ⟨t_farthest_wordN (cfg K) E, PSs.nox ?_, fn_go (pure_farthest_wordN (go_ok X)) vs H Q E h⟩)
  exact (pss_cons (ps_expr (pe_call (ok_check_words X) (hr.mono (by decide)) (by rfl) X.g_check_words X.F_check_words.kp (b_check_words X) .nil pass0 (pa_cons (pv 0) (pa_cons (pv 1) (pa_cons (pv 2) (pa_cons (pv 3) pa_nil))))))
      (pss_cons (ps_asg (pe_tup (pa_cons (pe_make X.mk_Going (ok_Going___init__ X) (hr.mono (by decide)) (by rfl) X.g_Going (b_Going___init__ X) .nil pass0 (pa_cons (pv 1) pa_nil)) (pa_cons (pe_make X.mk_Going (ok_Going___init__ X) (hr.mono (by decide)) (by rfl) X.g_Going (b_Going___init__ X) .nil pass0 (pa_cons (pv 2) pa_nil)) pa_nil))) (pg_tup rfl (pgs_cons (pg_name (i := 9) sc_farthest_wordN.nd rfl (by first | exact Or.inl rfl | exact Or.inr rfl)) (pgs_cons (pg_name (i := 10) sc_farthest_wordN.nd rfl (by first | exact Or.inl rfl | exact Or.inr rfl)) pgs_nil))))
      (pss_cons (ps_set (i := 4) sc_farthest_wordN.nd rfl (by first | exact Or.inl rfl | exact Or.inr rfl) (pe_sortSetT (by rfl) hr.units (by rfl) X.f_sorted (by rfl) X.f_set (pe_op op_cat (pe_call (ok_signs_of X) (hr.mono (by decide)) (by rfl) X.g_signs_of X.F_signs_of.kp (b_signs_of X) .nil pass0 (pa_cons (pv 1) pa_nil)) (pe_call (ok_signs_of X) (hr.mono (by decide)) (by rfl) X.g_signs_of X.F_signs_of.kp (b_signs_of X) .nil pass0 (pa_cons (pv 2) pa_nil)))))
      (pss_cons (ps_set (i := 5) sc_farthest_wordN.nd rfl (by first | exact Or.inl rfl | exact Or.inr rfl) (pe_lst (pa_cons (pe_tup (pa_cons (pe_lst pa_nil) (pa_cons (pe_meth0 (pv 9) X.cl_Going X.m_Goingbegun (ok_Going_begun X) (hr.mono (by decide)) (b_Going_begun X) .nil pass0) (pa_cons (pe_meth0 (pv 10) X.cl_Going X.m_Goingbegun (ok_Going_begun X) (hr.mono (by decide)) (b_Going_begun X) .nil pass0) pa_nil)))) pa_nil)))
      (pss_cons (ps_set (i := 6) sc_farthest_wordN.nd rfl (by first | exact Or.inl rfl | exact Or.inr rfl) (pe_tup (pa_cons (pe_make X.mk_Share (ok_Share___init__ X) (hr.mono (by decide)) (by rfl) X.g_Share bdShare1 hdShare1 passL (pa_cons pe_int pa_nil)) (pa_cons (pe_lst pa_nil) pa_nil))))
      (pss_cons (ps_set (i := 7) sc_farthest_wordN.nd rfl (by first | exact Or.inl rfl | exact Or.inr rfl) (pe_make X.mk_Share (ok_Share___init__ X) (hr.mono (by decide)) (by rfl) X.g_Share bdShare1 hdShare1 passL (pa_cons pe_int pa_nil)))
      (pss_cons (ps_for PassesOwn.never rfl (pi_range1 (by rfl) X.f_range (pa_cons (pv 3) pa_nil)) (pg_name (i := 8) sc_farthest_wordN.nd rfl (by first | exact Or.inl rfl | exact Or.inr rfl)) (pss_cons (ps_set (i := 11) sc_farthest_wordN.nd rfl (by first | exact Or.inl rfl | exact Or.inr rfl) (pe_lst pa_nil))
      (pss_cons (ps_for PassesOwn.never rfl (pi_list (pv 5)) (pg_tup rfl (pgs_cons (pg_name (i := 12) sc_farthest_wordN.nd rfl (by first | exact Or.inl rfl | exact Or.inr rfl)) (pgs_cons (pg_name (i := 13) sc_farthest_wordN.nd rfl (by first | exact Or.inl rfl | exact Or.inr rfl)) (pgs_cons (pg_name (i := 14) sc_farthest_wordN.nd rfl (by first | exact Or.inl rfl | exact Or.inr rfl)) pgs_nil)))) (pss_one (ps_expr (pe_bm PySem.F.plainAttrs_list PySem.F.slot_list_extend PySem.F.type_list_extend mt_extend (pv 11) (pa_cons (pe_lc (own := [("sign", 17)]) (g := (gName 17)) (tt := tYes) (by rfl) sc_farthest_wordN.nd (pi_list (pv 4)) (blkOk_by (own := [("sign", 17)]) (N := ["fade", "one", "other", "long", "signs", "rows", "best", "factor", "k", "first", "second", "longer", "word", "mine", "yours", "by", "apart", "sign"]) (sc := defScope s_farthest_wordN) (by decide +kernel)) (fun _ _ _ _ _ => (pg_name (i := 17) sc_farthest_wordN.nd rfl (by first | exact Or.inl rfl | exact Or.inr rfl))) (fun _ _ _ _ _ => pts_nil) (fun _ _ _ _ _ => (pe_tup (pa_cons (pe_op op_cat (pv 12) (pe_lst (pa_cons (pv 17) pa_nil))) (pa_cons (pe_meth (pv 9) X.cl_Going X.m_Goinggone (ok_Going_gone X) (hr.mono (by decide)) (b_Going_gone X) .nil pass0 (pa_cons (pv 13) (pa_cons (pv 17) pa_nil))) (pa_cons (pe_meth (pv 10) X.cl_Going X.m_Goinggone (ok_Going_gone X) (hr.mono (by decide)) (b_Going_gone X) .nil pass0 (pa_cons (pv 14) (pa_cons (pv 17) pa_nil))) pa_nil)))))) pa_nil)))))
      (pss_cons (ps_set (i := 5) sc_farthest_wordN.nd rfl (by first | exact Or.inl rfl | exact Or.inr rfl) (pv 11))
      (pss_cons (ps_set (i := 7) sc_farthest_wordN.nd rfl (by first | exact Or.inl rfl | exact Or.inr rfl) (pe_call (ok_times X) (hr.mono (by decide)) (by rfl) X.g_times X.F_times.kp (b_times X) .nil pass0 (pa_cons (pv 7) (pa_cons (pv 0) pa_nil))))
      (pss_one (ps_for PassesOwn.never rfl (pi_list (pv 5)) (pg_tup rfl (pgs_cons (pg_name (i := 12) sc_farthest_wordN.nd rfl (by first | exact Or.inl rfl | exact Or.inr rfl)) (pgs_cons (pg_name (i := 13) sc_farthest_wordN.nd rfl (by first | exact Or.inl rfl | exact Or.inr rfl)) (pgs_cons (pg_name (i := 14) sc_farthest_wordN.nd rfl (by first | exact Or.inl rfl | exact Or.inr rfl)) pgs_nil)))) (pss_cons (ps_set (i := 15) sc_farthest_wordN.nd rfl (by first | exact Or.inl rfl | exact Or.inr rfl) (pe_call (ok_minus X) (hr.mono (by decide)) (by rfl) X.g_minus X.F_minus.kp (b_minus X) .nil pass0 (pa_cons (pe_call (ok_share_of X) (hr.mono (by decide)) (by rfl) X.g_share_of X.F_share_of.kp (b_share_of X) .nil pass0 (pa_cons (pv 13) pa_nil)) (pa_cons (pe_call (ok_share_of X) (hr.mono (by decide)) (by rfl) X.g_share_of X.F_share_of.kp (b_share_of X) .nil pass0 (pa_cons (pv 14) pa_nil)) pa_nil))))
      (pss_cons (ps_set (i := 16) sc_farthest_wordN.nd rfl (by first | exact Or.inl rfl | exact Or.inr rfl) (pe_call (ok_times X) (hr.mono (by decide)) (by rfl) X.g_times X.F_times.kp (b_times X) .nil pass0 (pa_cons (pv 7) (pa_cons (pe_make X.mk_Share (ok_Share___init__ X) (hr.mono (by decide)) (by rfl) X.g_Share bdShare2 hdShare2 passL (pa_cons (pe_callB call_abs (by rfl) X.f_abs (by decide +kernel) (pa_cons (pe_fld (pv 15) rfl) pa_nil)) (pa_cons (pe_fld (pv 15) rfl) pa_nil))) pa_nil))))
      (pss_one (ps_if (pt_val (pe_call (ok_less X) (hr.mono (by decide)) (by rfl) X.g_less X.F_less.kp (b_less X) .nil pass0 (pa_cons (pe_ix ix_tup (pv 6) pe_int (fun _ _ => rfl)) (pa_cons (pv 16) pa_nil)))) (pss_one (ps_set (i := 6) sc_farthest_wordN.nd rfl (by first | exact Or.inl rfl | exact Or.inr rfl) (pe_tup (pa_cons (pv 16) (pa_cons (pv 12) pa_nil))))) pss_nil)))))))))))
      (pss_one (ps_ret (pe_tup (pa_cons (pe_ix ix_tup (pv 6) pe_int (fun _ _ => rfl)) (pa_cons (pe_callTy call_list_of (by rfl) X.f_list (by decide +kernel) (pa_cons (pe_ix ix_tup (pv 6) pe_int (fun _ _ => rfl)) pa_nil)) pa_nil))))))))))))
theorem b_Lwell (X : Txt K mg) : Binds K (fdOf K (He.ga K "_law_well")) ["_law_cell"] [] := X.F_Lwell.bindsN fun _ _ _ _ _ _ us hl => match us, hl with | [_], _ => rfl
theorem ok_Lwell (X : Txt K mg) : FnOk P w K mg base CX0 1 (He.ga K "_law_well") (fdOf K (He.ga K "_law_well")) ["_law_cell"] (spOf (cfg K) (c_Lwell (cfg K))) := by
  refine X.F_Lwell.ok sc_Lwell (fun vs H Q E h => spOf_len len_Lwell h) (fun cdv A outer s H vs Q E hr h => ⟨t_Lwell (cfg K) E, PSs.nox ?_, fn_go (pure_Lwell (sh_ok X)) vs H Q E h⟩)
  exact (pss_one (ps_ret (pe_lst (pa_cons (pe_op op_mulO (pv 0) (pe_callTy call_int1 (by rfl) X.f_int (by decide +kernel) (pa_cons (pe_cmpR op_ge (pv 0) (pe_op op_pow pe_int pe_int) (nomark _)) pa_nil))) (pa_cons (pe_op op_modN (pv 0) pe_int) (pa_cons pe_int pa_nil))))))
theorem b_Ldraw (X : Txt K mg) : Binds K (fdOf K (He.ga K "_law_draw")) ["_law_well_here", "_law_many"] [] := X.F_Ldraw.bindsN fun _ _ _ _ _ _ us hl => match us, hl with | [_, _], _ => rfl
theorem ok_Ldraw (X : Txt K mg) : FnOk P w K mg base CX0 1 (He.ga K "_law_draw") (fdOf K (He.ga K "_law_draw")) ["_law_well_here", "_law_many"] (spOf (cfg K) (wl (c_Ldraw (cfg K)))) := by
  refine X.F_Ldraw.ok sc_Ldraw (fun vs H Q E h => spOf_len len_Ldraw h) (fun cdv A outer s H vs Q E hr h => ⟨t_Ldraw (cfg K) E, PSs.nox ?_, fn_go (pure_Ldraw (sh_ok X)) vs H Q E h⟩)
  exact (pss_cons (ps_if (pt_cmpR op_gt (pe_ix ix_list (pv 0) pe_int (fun _ _ => rfl)) pe_int (nomark _)) (pss_cons (ps_set (i := 4) sc_Ldraw.nd rfl (by first | exact Or.inl rfl | exact Or.inr rfl) (pe_op op_modN (pe_ix ix_list (pv 0) pe_int (fun _ _ => rfl)) (pv 1)))
      (pss_cons (ps_asg (pe_op op_fdivO (pe_ix ix_list (pv 0) pe_int (fun _ _ => rfl)) (pv 1)) (pg_sub (pv 0) pe_int set_list))
      (pss_one (ps_ret (pv 4))))) pss_nil)
      (pss_cons (ps_asg (pe_op op_add (pe_ix ix_list (pv 0) pe_int (fun _ _ => rfl)) pe_int) (pg_sub (pv 0) pe_int set_list))
      (pss_cons (ps_set (i := 2) sc_Ldraw.nd rfl (by first | exact Or.inl rfl | exact Or.inr rfl) (pe_ix ix_list (pe_lst (pa_cons pe_int (pa_cons pe_int (pa_cons pe_int (pa_cons pe_int (pa_cons pe_int (pa_cons pe_int (pa_cons pe_int pa_nil)))))))) (pe_op op_modN (pe_ix ix_list (pv 0) pe_int (fun _ _ => rfl)) pe_int) (fun _ _ => rfl)))
      (pss_cons (ps_set (i := 3) sc_Ldraw.nd rfl (by first | exact Or.inl rfl | exact Or.inr rfl) (pe_op op_modN (pe_op op_pow (pe_op op_add (pe_op op_add (pe_ix ix_list (pv 0) pe_int (fun _ _ => rfl)) (pe_op op_mulO pe_int (pe_ix ix_list (pv 0) pe_int (fun _ _ => rfl)))) pe_int) pe_int) (pv 2)))
      (pss_cons (ps_set (i := 3) sc_Ldraw.nd rfl (by first | exact Or.inl rfl | exact Or.inr rfl) (pe_op op_modN (pe_op op_mulO (pe_op op_add (pv 3) (pe_ix ix_list (pv 0) pe_int (fun _ _ => rfl))) (pe_op op_add (pe_op op_fdivO (pv 3) pe_int) pe_int)) (pv 2)))
      (pss_one (ps_ret (pe_op op_modN (pe_op op_fdivO (pv 3) pe_int) (pv 1)))))))))
theorem b_Lone (X : Txt K mg) : Binds K (fdOf K (He.ga K "_law_one")) ["_law_well_here", "_law_some"] [] := X.F_Lone.bindsN fun _ _ _ _ _ _ us hl => match us, hl with | [_, _], _ => rfl
theorem ok_Lone (X : Txt K mg) : FnOk P w K mg base CX0 2 (He.ga K "_law_one") (fdOf K (He.ga K "_law_one")) ["_law_well_here", "_law_some"] (spOf (cfg K) (wl (c_Lone (cfg K)))) := by
  refine X.F_Lone.ok sc_Lone (fun vs H Q E h => spOf_len len_Lone h) (fun cdv A outer s H vs Q E hr h => ⟨t_Lone (cfg K) E, PSs.nox ?_, fn_go (pure_Lone (sh_ok X)) vs H Q E h⟩)
  exact (pss_one (ps_ret (pe_ix ix_list (pv 1) (pe_call (ok_Ldraw X) (hr.mono (by decide)) (by rfl) X.g_Ldraw X.F_Ldraw.kp (b_Ldraw X) .nil pass0 (pa_cons (pv 0) (pa_cons (pe_callB call_len (by rfl) X.f_len (by decide +kernel) (pa_cons (pv 1) pa_nil)) pa_nil))) (fun _ _ => rfl))))
theorem b_Llow (X : Txt K mg) : Binds K (fdOf K (He.ga K "_law_low")) ["_law_top", "_law_bottom"] [] := X.F_Llow.bindsN fun _ _ _ _ _ _ us hl => match us, hl with | [_, _], _ => rfl
theorem ok_Llow (X : Txt K mg) : FnOk P w K mg base CX0 1 (He.ga K "_law_low") (fdOf K (He.ga K "_law_low")) ["_law_top", "_law_bottom"] (spOf (cfg K) (pu (c_Llow (cfg K)))) := by
  refine X.F_Llow.ok sc_Llow (fun vs H Q E h => spOf_len len_Llow h) (fun cdv A outer s H vs Q E hr h => ⟨t_Llow (cfg K) E, PSs.nox ?_, fn_go (pure_Llow (sh_ok X)) vs H Q E h⟩)
  exact (pss_cons (ps_par (by rfl) sc_Llow.nd (i := 2) (j := 3) rfl rfl (by decide) rfl rfl (pa_cons (pe_callB call_abs (by rfl) X.f_abs (by decide +kernel) (pa_cons (pv 0) pa_nil)) (pa_cons (pe_callB call_abs (by rfl) X.f_abs (by decide +kernel) (pa_cons (pv 1) pa_nil)) pa_nil)) (by rfl))
      (pss_cons (ps_while PassesOwn.never (pt_cmpR op_gt (pv 3) pe_int (nomark _)) (pss_one (ps_par (by rfl) sc_Llow.nd (i := 2) (j := 3) rfl rfl (by decide) rfl rfl (pa_cons (pv 3) (pa_cons (pe_op op_modN (pv 2) (pv 3)) pa_nil)) (by rfl))))
      (pss_cons (ps_if (pt_cmpR op_lt (pv 1) pe_int (nomark _)) (pss_one (ps_set (i := 2) sc_Llow.nd rfl (by first | exact Or.inl rfl | exact Or.inr rfl) (pe_op op_sub pe_int (pv 2)))) pss_nil)
      (pss_one (ps_ret (pe_tup (pa_cons (pe_op op_fdivO (pv 0) (pv 2)) (pa_cons (pe_op op_fdivO (pv 1) (pv 2)) pa_nil))))))))
theorem b_Lpair (X : Txt K mg) : Binds K (fdOf K (He.ga K "_law_pair")) ["_law_share"] [] := X.F_Lpair.bindsN fun _ _ _ _ _ _ us hl => match us, hl with | [_], _ => rfl
theorem ok_Lpair (X : Txt K mg) : FnOk P w K mg base CX0 2 (He.ga K "_law_pair") (fdOf K (He.ga K "_law_pair")) ["_law_share"] (spOf (cfg K) (pu (c_Lpair (cfg K)))) := by
  refine X.F_Lpair.ok sc_Lpair (fun vs H Q E h => spOf_len len_Lpair h) (fun cdv A outer s H vs Q E hr h => ⟨t_Lpair (cfg K) E, PSs.nox ?_, fn_go (pure_Lpair (sh_ok X)) vs H Q E h⟩)
  exact (pss_cons (ps_if (PW.pt (pw_or (pt_not (pt_val (pe_callB call_isi (by rfl) X.f_isinstance (by decide +kernel) (pa_cons (pv 0) (pa_cons (pe_glob (by rfl) X.g_Share rfl) pa_nil))))) (pw_or (pt_val (pe_callB call_isi (by rfl) X.f_isinstance (by decide +kernel) (pa_cons (pe_fld (pv 0) rfl) (pa_cons (pe_bltn (by rfl) X.f_bool (by decide +kernel) rfl) pa_nil)))) (pw_or1 (pt_val (pe_callB call_isi (by rfl) X.f_isinstance (by decide +kernel) (pa_cons (pe_fld (pv 0) rfl) (pa_cons (pe_bltn (by rfl) X.f_bool (by decide +kernel) rfl) pa_nil)))))))) (pss_one (ps_ret (pe_tup (pa_cons pe_int (pa_cons pe_int pa_nil))))) pss_nil)
      (pss_cons (ps_if (PW.pt (pw_or (pt_not (pt_val (pe_callB call_isi (by rfl) X.f_isinstance (by decide +kernel) (pa_cons (pe_fld (pv 0) rfl) (pa_cons (pe_bltn (by rfl) X.f_int (by decide +kernel) rfl) pa_nil))))) (pw_or (pt_not (pt_val (pe_callB call_isi (by rfl) X.f_isinstance (by decide +kernel) (pa_cons (pe_fld (pv 0) rfl) (pa_cons (pe_bltn (by rfl) X.f_int (by decide +kernel) rfl) pa_nil))))) (pw_or1 (pt_cmpR op_lt (pe_fld (pv 0) rfl) pe_int (nomark _)))))) (pss_one (ps_ret (pe_tup (pa_cons pe_int (pa_cons pe_int pa_nil))))) pss_nil)
      (pss_one (ps_ret (pe_ifExp (pt_cmpR (op_eqD hr.units) (pe_call (ok_Llow X) (hr.mono (by decide)) (by rfl) X.g_Llow X.F_Llow.kp (b_Llow X) .nil pass0 (pa_cons (pe_fld (pv 0) rfl) (pa_cons (pe_fld (pv 0) rfl) pa_nil))) (pe_tup (pa_cons (pe_fld (pv 0) rfl) (pa_cons (pe_fld (pv 0) rfl) pa_nil))) (nomark _)) (pe_tup (pa_cons (pe_fld (pv 0) rfl) (pa_cons (pe_fld (pv 0) rfl) pa_nil))) (pe_tup (pa_cons pe_int (pa_cons pe_int pa_nil))))))))
theorem b_Lnames (X : Txt K mg) : Binds K (fdOf K (He.ga K "_law_names")) ["_law_well_here", "_law_many"] [] := X.F_Lnames.bindsN fun _ _ _ _ _ _ us hl => match us, hl with | [_, _], _ => rfl
theorem ok_Lnames (X : Txt K mg) : FnOk P w K mg base CX0 3 (He.ga K "_law_names") (fdOf K (He.ga K "_law_names")) ["_law_well_here", "_law_many"] (spOf (cfg K) (wl (c_Lnames (cfg K)))) := by
  refine X.F_Lnames.ok sc_Lnames (fun vs H Q E h => spOf_len len_Lnames h) (fun cdv A outer s H vs Q E hr h => ⟨t_Lnames (cfg K) E, PSs.nox ?_, fn_go (pure_Lnames (sh_ok X)) vs H Q E h⟩)
  exact (pss_cons (ps_if (pt_cmpR op_eq (pe_call (ok_Ldraw X) (hr.mono (by decide)) (by rfl) X.g_Ldraw X.F_Ldraw.kp (b_Ldraw X) .nil pass0 (pa_cons (pv 0) (pa_cons pe_int pa_nil))) pe_int (nomark _)) (pss_cons (ps_set (i := 4) sc_Lnames.nd rfl (by first | exact Or.inl rfl | exact Or.inr rfl) (pe_lst (pa_cons pe_str (pa_cons pe_str (pa_cons pe_str (pa_cons pe_str (pa_cons pe_str (pa_cons pe_str (pa_cons pe_str (pa_cons pe_str (pa_cons pe_str (pa_cons pe_str pa_nil))))))))))))
      (pss_cons (ps_set (i := 5) sc_Lnames.nd rfl (by first | exact Or.inl rfl | exact Or.inr rfl) (pe_call (ok_Ldraw X) (hr.mono (by decide)) (by rfl) X.g_Ldraw X.F_Ldraw.kp (b_Ldraw X) .nil pass0 (pa_cons (pv 0) (pa_cons pe_int pa_nil))))
      (pss_one (ps_ret (pe_slice sl_list (pe_op op_cat (pe_slice sl_list (pv 4) (po_some (pv 5)) po_none) (pe_slice sl_list (pv 4) po_none (po_some (pv 5)))) po_none (po_some (pv 1))))))) pss_nil)
      (pss_cons (ps_set (i := 2) sc_Lnames.nd rfl (by first | exact Or.inl rfl | exact Or.inr rfl) (pe_lst pa_nil))
      (pss_cons (ps_for PassesOwn.never rfl (pi_str (pe_slice sl_str pe_str po_none (po_some (pv 1)))) (pg_name (i := 3) sc_Lnames.nd rfl (by first | exact Or.inl rfl | exact Or.inr rfl)) (pss_cons (ps_set (i := 6) sc_Lnames.nd rfl (by first | exact Or.inl rfl | exact Or.inr rfl) pe_str)
      (pss_cons (ps_for PassesOwn.never rfl (pi_range1 (by rfl) X.f_range (pa_cons (pe_call (ok_Lone X) (hr.mono (by decide)) (by rfl) X.g_Lone X.F_Lone.kp (b_Lone X) .nil pass0 (pa_cons (pv 0) (pa_cons (pe_lst (pa_cons pe_int (pa_cons pe_int (pa_cons pe_int (pa_cons (pe_call (ok_Ldraw X) (hr.mono (by decide)) (by rfl) X.g_Ldraw X.F_Ldraw.kp (b_Ldraw X) .nil pass0 (pa_cons (pv 0) (pa_cons pe_int pa_nil))) pa_nil))))) pa_nil))) pa_nil)) (pg_name (i := 7) sc_Lnames.nd rfl (by first | exact Or.inl rfl | exact Or.inr rfl)) (pss_one (ps_set (i := 6) sc_Lnames.nd rfl (by first | exact Or.inl rfl | exact Or.inr rfl) (pe_op op_add_str (pv 6) (pe_ix ix_str pe_str (pe_call (ok_Ldraw X) (hr.mono (by decide)) (by rfl) X.g_Ldraw X.F_Ldraw.kp (b_Ldraw X) .nil pass0 (pa_cons (pv 0) (pa_cons pe_int pa_nil))) (fun _ _ => rfl))))))
      (pss_one (ps_expr (pe_bm PySem.F.plainAttrs_list PySem.F.slot_list_append PySem.F.type_list_append mt_append (pv 2) (pa_cons (pe_op op_add_str (pv 6) (pv 3)) pa_nil)))))))
      (pss_one (ps_ret (pv 2))))))
theorem b_Lweights (X : Txt K mg) : Binds K (fdOf K (He.ga K "_law_weights")) ["_law_well_here", "_law_many"] [] := X.F_Lweights.bindsN fun _ _ _ _ _ _ us hl => match us, hl with | [_, _], _ => rfl
theorem ok_Lweights (X : Txt K mg) : FnOk P w K mg base CX0 2 (He.ga K "_law_weights") (fdOf K (He.ga K "_law_weights")) ["_law_well_here", "_law_many"] (spOf (cfg K) (wl (c_Lweights (cfg K)))) := by
  refine X.F_Lweights.ok sc_Lweights (fun vs H Q E h => spOf_len len_Lweights h) (fun cdv A outer s H vs Q E hr h => ⟨t_Lweights (cfg K) E, PSs.nox ?_, fn_go (pure_Lweights (sh_ok X)) vs H Q E h⟩)
  exact (pss_cons (ps_set (i := 2) sc_Lweights.nd rfl (by first | exact Or.inl rfl | exact Or.inr rfl) (pe_call (ok_Ldraw X) (hr.mono (by decide)) (by rfl) X.g_Ldraw X.F_Ldraw.kp (b_Ldraw X) .nil pass0 (pa_cons (pv 0) (pa_cons pe_int pa_nil))))
      (pss_cons (ps_set (i := 3) sc_Lweights.nd rfl (by first | exact Or.inl rfl | exact Or.inr rfl) (pe_op op_rep (pe_lst (pa_cons pe_int pa_nil)) (pv 1)))
      (pss_cons (ps_if (pt_cmpR op_lt (pv 2) pe_int (nomark _)) (pss_one (ps_for PassesOwn.never rfl (pi_range1 (by rfl) X.f_range (pa_cons (pe_op op_add pe_int (pe_callTy call_int1 (by rfl) X.f_int (by decide +kernel) (pa_cons (pe_cmpR op_gt (pv 2) pe_int (nomark _)) pa_nil))) pa_nil)) (pg_name (i := 4) sc_Lweights.nd rfl (by first | exact Or.inl rfl | exact Or.inr rfl)) (pss_cons (ps_set (i := 5) sc_Lweights.nd rfl (by first | exact Or.inl rfl | exact Or.inr rfl) (pe_call (ok_Ldraw X) (hr.mono (by decide)) (by rfl) X.g_Ldraw X.F_Ldraw.kp (b_Ldraw X) .nil pass0 (pa_cons (pv 0) (pa_cons (pv 1) pa_nil))))
      (pss_one (ps_asg (pe_op op_add (pe_op op_add (pe_ix ix_list (pv 3) (pv 5) (fun _ _ => rfl)) pe_int) (pe_call (ok_Ldraw X) (hr.mono (by decide)) (by rfl) X.g_Ldraw X.F_Ldraw.kp (b_Ldraw X) .nil pass0 (pa_cons (pv 0) (pa_cons pe_int pa_nil)))) (pg_sub (pv 3) (pv 5) set_list)))))) (pss_one (ps_setLc (i := 3) (own := [("_law_room", 6)]) (g := (gName 6)) (tt := tYes) (by rfl) sc_Lweights.nd rfl rfl (sw_true rfl rfl rfl (by decide +kernel)) (pi_range1 (by rfl) X.f_range (pa_cons (pv 1) pa_nil)) (blkOk_by (own := [("_law_room", 6)]) (N := ["_law_well_here", "_law_many", "_law_way", "_law_found", "_law_k", "_law_at", "_law_room"]) (sc := defScope s_Lweights) (by decide +kernel)) (fun _ _ _ _ _ => (pg_name (i := 6) sc_Lweights.nd rfl (by first | exact Or.inl rfl | exact Or.inr rfl))) (fun _ _ _ _ _ => pts_nil) (fun _ _ _ _ _ => (pe_call (ok_Ldraw X) (hr.mono (by decide)) (by rfl) X.g_Ldraw X.F_Ldraw.kp (b_Ldraw X) .nil pass0 (pa_cons (pv 0) (pa_cons pe_int pa_nil)))))))
      (pss_cons (ps_if (pt_cmpR op_eq (pe_callB (cr_sum rfl) (by rfl) X.f_sum (by decide +kernel) (pa_cons (pv 3) pa_nil)) pe_int (nomark _)) (pss_one (ps_asg pe_int (pg_sub (pv 3) (pe_call (ok_Ldraw X) (hr.mono (by decide)) (by rfl) X.g_Ldraw X.F_Ldraw.kp (b_Ldraw X) .nil pass0 (pa_cons (pv 0) (pa_cons (pv 1) pa_nil))) set_list))) pss_nil)
      (pss_one (ps_ret (pe_callTy call_tuple_of (by rfl) X.f_tuple (by decide +kernel) (pa_cons (pv 3) pa_nil))))))))
theorem b_Lmachine (X : Txt K mg) : Binds K (fdOf K (He.ga K "_law_machine")) ["_law_well_here", "_law_signs", "_law_most"] [] := X.F_Lmachine.bindsN fun _ _ _ _ _ _ us hl => match us, hl with | [_, _, _], _ => rfl
theorem ok_Lmachine (X : Txt K mg) : FnOk P w K mg base CX0 3 (He.ga K "_law_machine") (fdOf K (He.ga K "_law_machine")) ["_law_well_here", "_law_signs", "_law_most"] (spOf (cfg K) (wl (c_Lmachine (cfg K)))) := by
  refine X.F_Lmachine.ok sc_Lmachine (fun vs H Q E h => spOf_len len_Lmachine h) (fun cdv A outer s H vs Q E hr h => ⟨t_Lmachine (cfg K) E, PSs.nox ?_, fn_go (pure_Lmachine (sh_ok X)) vs H Q E h⟩)
  exact (pss_cons (ps_set (i := 3) sc_Lmachine.nd rfl (by first | exact Or.inl rfl | exact Or.inr rfl) (pe_op op_add pe_int (pe_call (ok_Ldraw X) (hr.mono (by decide)) (by rfl) X.g_Ldraw X.F_Ldraw.kp (b_Ldraw X) .nil pass0 (pa_cons (pv 0) (pa_cons (pv 2) pa_nil)))))
      (pss_cons (ps_set (i := 4) sc_Lmachine.nd rfl (by first | exact Or.inl rfl | exact Or.inr rfl) (pe_call (ok_Ldraw X) (hr.mono (by decide)) (by rfl) X.g_Ldraw X.F_Ldraw.kp (b_Ldraw X) .nil pass0 (pa_cons (pv 0) (pa_cons pe_int pa_nil))))
      (pss_cons (ps_set (i := 5) sc_Lmachine.nd rfl (by first | exact Or.inl rfl | exact Or.inr rfl) (pe_call (ok_Ldraw X) (hr.mono (by decide)) (by rfl) X.g_Ldraw X.F_Ldraw.kp (b_Ldraw X) .nil pass0 (pa_cons (pv 0) (pa_cons (pe_op op_add (pv 3) pe_int) pa_nil))))
      (pss_cons (ps_set (i := 6) sc_Lmachine.nd rfl (by first | exact Or.inl rfl | exact Or.inr rfl) (pe_call (ok_Ldraw X) (hr.mono (by decide)) (by rfl) X.g_Ldraw X.F_Ldraw.kp (b_Ldraw X) .nil pass0 (pa_cons (pv 0) (pa_cons (pe_callB call_len (by rfl) X.f_len (by decide +kernel) (pa_cons (pv 1) pa_nil)) pa_nil))))
      (pss_cons (ps_set (i := 7) sc_Lmachine.nd rfl (by first | exact Or.inl rfl | exact Or.inr rfl) (pe_lst pa_nil))
      (pss_cons (ps_for PassesOwn.never rfl (pi_range1 (by rfl) X.f_range (pa_cons (pv 3) pa_nil)) (pg_name (i := 8) sc_Lmachine.nd rfl (by first | exact Or.inl rfl | exact Or.inr rfl)) (pss_one (ps_for PassesOwn.never rfl (pi_enum (by rfl) X.f_enumerate (pa_cons (pv 1) pa_nil)) (pg_tup rfl (pgs_cons (pg_name (i := 9) sc_Lmachine.nd rfl (by first | exact Or.inl rfl | exact Or.inr rfl)) (pgs_cons (pg_name (i := 10) sc_Lmachine.nd rfl (by first | exact Or.inl rfl | exact Or.inr rfl)) pgs_nil))) (pss_one (ps_if (PW.pt (pw_or (PW.pt (pw_and (pt_cmpR op_lt (pv 4) pe_int (nomark _)) (pw_and1 (PW.pt (pw_or (pt_cmpR op_ne (pv 8) (pv 5) (nomark _)) (pw_or1 (pt_cmpR op_lt (pv 9) (pv 6) (nomark _)))))))) (pw_or1 (PW.pt (pw_and (pt_cmpR op_eq (pv 4) pe_int (nomark _)) (pw_and1 (pt_cmpR op_gt (pe_call (ok_Ldraw X) (hr.mono (by decide)) (by rfl) X.g_Ldraw X.F_Ldraw.kp (b_Ldraw X) .nil pass0 (pa_cons (pv 0) (pa_cons pe_int pa_nil))) pe_int (nomark _)))))))) (pss_one (ps_expr (pe_bm PySem.F.plainAttrs_list PySem.F.slot_list_append PySem.F.type_list_append mt_append (pv 7) (pa_cons (pe_tup (pa_cons (pv 8) (pa_cons (pv 10) (pa_cons (pe_call (ok_Lweights X) (hr.mono (by decide)) (by rfl) X.g_Lweights X.F_Lweights.kp (b_Lweights X) .nil pass0 (pa_cons (pv 0) (pa_cons (pv 3) pa_nil))) pa_nil)))) pa_nil)))) pss_nil)))))
      (pss_one (ps_ret (pe_tup (pa_cons (pv 3) (pa_cons (pv 7) pa_nil)))))))))))
theorem b_Lspread62 (X : Txt K mg) : Binds K (fdOf K (He.ga K "_law_spread")) ["_law_steps", "_law_many", "_law_spread_here", "_law_sign"] [] := X.F_Lspread62.bindsN fun _ _ _ _ _ _ us hl => match us, hl with | [_, _, _, _], _ => rfl
theorem ok_Lspread62 (X : Txt K mg) : FnOk P w K mg base CX0 2 (He.ga K "_law_spread") (fdOf K (He.ga K "_law_spread")) ["_law_steps", "_law_many", "_law_spread_here", "_law_sign"] (spOf (cfg K) (pu (c_Lspread62 (cfg K)))) := by
  refine X.F_Lspread62.ok sc_Lspread62 (fun vs H Q E h => spOf_len len_Lspread62 h) (fun cdv A outer s H vs Q E hr h => ⟨t_Lspread62 (cfg K) E, PSs.nox ?_, fn_go (pure_Lspread62 (sh_ok X)) vs H Q E h⟩)
  exact (pss_cons (ps_set (i := 4) sc_Lspread62.nd rfl (by first | exact Or.inl rfl | exact Or.inr rfl) (pe_callTy (call_dictP rfl) (by rfl) X.f_dict (by decide +kernel) (pa_cons (pe_lc (own := [("_law_here", 13), ("_law_mine", 14), ("_law_weights_here", 15)]) (g := (gTup (cfg K).K 3 (gCons (gName 13) (gCons (gName 14) (gCons (gName 15) gNil))))) (tt := (tTest (tOp rEq (tVar 14) (tVar 3)))) (by rfl) sc_Lspread62.nd (pi_list (pv 0)) (blkOk_by (own := [("_law_here", 13), ("_law_mine", 14), ("_law_weights_here", 15)]) (N := ["_law_steps", "_law_many", "_law_spread_here", "_law_sign", "_law_onward", "_law_later", "_law_room", "_law_top", "_law_bottom", "_law_whole", "_law_to", "_law_weight", "_law_by", "_law_here", "_law_mine", "_law_weights_here", "_law_one_here", "_law_other_here"]) (sc := defScope s_Lspread62) (by decide +kernel)) (fun _ _ _ _ _ => (pg_tup rfl (pgs_cons (pg_name (i := 13) sc_Lspread62.nd rfl (by first | exact Or.inl rfl | exact Or.inr rfl)) (pgs_cons (pg_name (i := 14) sc_Lspread62.nd rfl (by first | exact Or.inl rfl | exact Or.inr rfl)) (pgs_cons (pg_name (i := 15) sc_Lspread62.nd rfl (by first | exact Or.inl rfl | exact Or.inr rfl)) pgs_nil))))) (fun _ _ _ _ _ => (pts_one (pt_cmpR op_eq (pv 14) (pv 3) (nomark _)))) (fun _ _ _ _ _ => (pe_tup (pa_cons (pv 13) (pa_cons (pv 15) pa_nil))))) pa_nil)))
      (pss_cons (ps_set (i := 5) sc_Lspread62.nd rfl (by first | exact Or.inl rfl | exact Or.inr rfl) (pe_op op_rep (pe_lst (pa_cons (pe_tup (pa_cons pe_int (pa_cons pe_int pa_nil))) pa_nil)) (pv 1)))
      (pss_cons (ps_for PassesOwn.never rfl (pi_enum (by rfl) X.f_enumerate (pa_cons (pv 2) pa_nil)) (pg_tup rfl (pgs_cons (pg_name (i := 6) sc_Lspread62.nd rfl (by first | exact Or.inl rfl | exact Or.inr rfl)) (pgs_cons (pg_tup rfl (pgs_cons (pg_name (i := 7) sc_Lspread62.nd rfl (by first | exact Or.inl rfl | exact Or.inr rfl)) (pgs_cons (pg_name (i := 8) sc_Lspread62.nd rfl (by first | exact Or.inl rfl | exact Or.inr rfl)) pgs_nil))) pgs_nil))) (pss_one (ps_if (PW.pt (pw_and (pt_cmpR op_gt (pv 7) pe_int (nomark _)) (pw_and1 (pt_cmp (pc_din (hu1 hr) (pv 6) (pv 4)))))) (pss_cons (ps_set (i := 9) sc_Lspread62.nd rfl (by first | exact Or.inl rfl | exact Or.inr rfl) (pe_callB (cr_sumT rfl) (by rfl) X.f_sum (by decide +kernel) (pa_cons (pe_dget (hu1 hr) (pv 4) (pv 6) (fun _ _ => rfl)) pa_nil)))
      (pss_one (ps_for PassesOwn.never rfl (pi_enumT (by rfl) X.f_enumerate (pa_cons (pe_dget (hu1 hr) (pv 4) (pv 6) (fun _ _ => rfl)) pa_nil)) (pg_tup rfl (pgs_cons (pg_name (i := 10) sc_Lspread62.nd rfl (by first | exact Or.inl rfl | exact Or.inr rfl)) (pgs_cons (pg_name (i := 11) sc_Lspread62.nd rfl (by first | exact Or.inl rfl | exact Or.inr rfl)) pgs_nil))) (pss_cons (ps_asg (pe_ix ix_list (pv 5) (pv 10) (fun _ _ => rfl)) (pg_tup rfl (pgs_cons (pg_name (i := 16) sc_Lspread62.nd rfl (by first | exact Or.inl rfl | exact Or.inr rfl)) (pgs_cons (pg_name (i := 17) sc_Lspread62.nd rfl (by first | exact Or.inl rfl | exact Or.inr rfl)) pgs_nil))))
      (pss_cons (ps_set (i := 12) sc_Lspread62.nd rfl (by first | exact Or.inl rfl | exact Or.inr rfl) (pe_op op_mulO (pv 8) (pv 9)))
      (pss_one (ps_asg (pe_call (ok_Llow X) (hr.mono (by decide)) (by rfl) X.g_Llow X.F_Llow.kp (b_Llow X) .nil pass0 (pa_cons (pe_op op_add (pe_op op_mulO (pv 16) (pv 12)) (pe_op op_mulO (pe_op op_mulO (pv 7) (pv 11)) (pv 17))) (pa_cons (pe_op op_mulO (pv 17) (pv 12)) pa_nil))) (pg_sub (pv 5) (pv 10) set_list)))))))) pss_nil)))
      (pss_one (ps_ret (pv 5))))))
theorem b_Ltotal62 (X : Txt K mg) : Binds K (fdOf K (He.ga K "_law_total")) ["_law_pairs"] [] := X.F_Ltotal62.bindsN fun _ _ _ _ _ _ us hl => match us, hl with | [_], _ => rfl
theorem ok_Ltotal62 (X : Txt K mg) : FnOk P w K mg base CX0 2 (He.ga K "_law_total") (fdOf K (He.ga K "_law_total")) ["_law_pairs"] (spOf (cfg K) (pu (c_Ltotal62 (cfg K)))) := by
  refine X.F_Ltotal62.ok sc_Ltotal62 (fun vs H Q E h => spOf_len len_Ltotal62 h) (fun cdv A outer s H vs Q E hr h => ⟨t_Ltotal62 (cfg K) E, PSs.nox ?_, fn_go (pure_Ltotal62 (sh_ok X)) vs H Q E h⟩)
  exact (pss_cons (ps_set (i := 1) sc_Ltotal62.nd rfl (by first | exact Or.inl rfl | exact Or.inr rfl) (pe_tup (pa_cons pe_int (pa_cons pe_int pa_nil))))
      (pss_cons (ps_for PassesOwn.never rfl (pi_list (pv 0)) (pg_tup rfl (pgs_cons (pg_name (i := 2) sc_Ltotal62.nd rfl (by first | exact Or.inl rfl | exact Or.inr rfl)) (pgs_cons (pg_name (i := 3) sc_Ltotal62.nd rfl (by first | exact Or.inl rfl | exact Or.inr rfl)) pgs_nil))) (pss_one (ps_set (i := 1) sc_Ltotal62.nd rfl (by first | exact Or.inl rfl | exact Or.inr rfl) (pe_call (ok_Llow X) (hr.mono (by decide)) (by rfl) X.g_Llow X.F_Llow.kp (b_Llow X) .nil pass0 (pa_cons (pe_op op_add (pe_op op_mulO (pe_ix ix_tup (pv 1) pe_int (fun _ _ => rfl)) (pv 3)) (pe_op op_mulO (pv 2) (pe_ix ix_tup (pv 1) pe_int (fun _ _ => rfl)))) (pa_cons (pe_op op_mulO (pe_ix ix_tup (pv 1) pe_int (fun _ _ => rfl)) (pv 3)) pa_nil))))))
      (pss_one (ps_ret (pv 1)))))
theorem b_Lnumber62 (X : Txt K mg) : Binds K (fdOf K (He.ga K "_law_number")) ["_law_spreads", "_law_factor"] [] := X.F_Lnumber62.bindsN fun _ _ _ _ _ _ us hl => match us, hl with | [_, _], _ => rfl
theorem ok_Lnumber62 (X : Txt K mg) : FnOk P w K mg base CX0 3 (He.ga K "_law_number") (fdOf K (He.ga K "_law_number")) ["_law_spreads", "_law_factor"] (spOf (cfg K) (pu (c_Lnumber62 (cfg K)))) := by
  refine X.F_Lnumber62.ok sc_Lnumber62 (fun vs H Q E h => spOf_len len_Lnumber62 h) (fun cdv A outer s H vs Q E hr h => ⟨t_Lnumber62 (cfg K) E, PSs.nox ?_, fn_go (pure_Lnumber62 (sh_ok X)) vs H Q E h⟩)
  exact (pss_cons (ps_asg (pe_lc (own := [("_law_spread_here", 5)]) (g := (gName 5)) (tt := tYes) (by rfl) sc_Lnumber62.nd (pi_list (pv 0)) (blkOk_by (own := [("_law_spread_here", 5)]) (N := ["_law_spreads", "_law_factor", "_law_by", "_law_one_here", "_law_other_here", "_law_spread_here"]) (sc := defScope s_Lnumber62) (by decide +kernel)) (fun _ _ _ _ _ => (pg_name (i := 5) sc_Lnumber62.nd rfl (by first | exact Or.inl rfl | exact Or.inr rfl))) (fun _ _ _ _ _ => pts_nil) (fun _ _ _ _ _ => (pe_call (ok_Ltotal62 X) (hr.mono (by decide)) (by rfl) X.g_Ltotal62 X.F_Ltotal62.kp (b_Ltotal62 X) .nil pass0 (pa_cons (pv 5) pa_nil)))) (pg_lst rfl (pgs_cons (pg_name (i := 3) sc_Lnumber62.nd rfl (by first | exact Or.inl rfl | exact Or.inr rfl)) (pgs_cons (pg_name (i := 4) sc_Lnumber62.nd rfl (by first | exact Or.inl rfl | exact Or.inr rfl)) pgs_nil))))
      (pss_cons (ps_set (i := 2) sc_Lnumber62.nd rfl (by first | exact Or.inl rfl | exact Or.inr rfl) (pe_op op_mulO (pe_callB call_abs (by rfl) X.f_abs (by decide +kernel) (pa_cons (pe_op op_sub (pe_op op_mulO (pe_ix ix_tup (pv 3) pe_int (fun _ _ => rfl)) (pe_ix ix_tup (pv 4) pe_int (fun _ _ => rfl))) (pe_op op_mulO (pe_ix ix_tup (pv 4) pe_int (fun _ _ => rfl)) (pe_ix ix_tup (pv 3) pe_int (fun _ _ => rfl)))) pa_nil)) (pe_ix ix_tup (pv 1) pe_int (fun _ _ => rfl))))
      (pss_one (ps_ret (pe_call (ok_Llow X) (hr.mono (by decide)) (by rfl) X.g_Llow X.F_Llow.kp (b_Llow X) .nil pass0 (pa_cons (pv 2) (pa_cons (pe_op op_mulO (pe_op op_mulO (pe_ix ix_tup (pv 3) pe_int (fun _ _ => rfl)) (pe_ix ix_tup (pv 4) pe_int (fun _ _ => rfl))) (pe_ix ix_tup (pv 1) pe_int (fun _ _ => rfl))) pa_nil)))))))
theorem b_Lfarthest62 (X : Txt K mg) : Binds K (fdOf K (He.ga K "_law_farthest")) ["_law_fade", "_law_some", "_law_long"] [] := X.F_Lfarthest62.bindsN fun _ _ _ _ _ _ us hl => match us, hl with | [_, _, _], _ => rfl
theorem ok_Lfarthest62 (X : Txt K mg) : FnOk P w K mg base CX0 4 (He.ga K "_law_farthest") (fdOf K (He.ga K "_law_farthest")) ["_law_fade", "_law_some", "_law_long"] (spOf (cfg K) (pu (c_Lfarthest62 (cfg K)))) := by
  refine X.F_Lfarthest62.ok sc_Lfarthest62 (fun vs H Q E h => spOf_len len_Lfarthest62 h) (fun cdv A outer s H vs Q E hr h => ⟨t_Lfarthest62 (cfg K) E, PSs.nox ?_, fn_go (pure_Lfarthest62 (sh_ok X)) vs H Q E h⟩)
  exact (pss_cons (ps_set (i := 3) sc_Lfarthest62.nd rfl (by first | exact Or.inl rfl | exact Or.inr rfl) (pe_sortSetT (by rfl) hr.units (by rfl) X.f_sorted (by rfl) X.f_set (pe_lc (own := [("_law_step", 14)]) (g := (gName 14)) (tt := tYes) (by rfl) sc_Lfarthest62.nd (pi_list (pe_op op_cat (pe_ix ix_tup (pe_ix ix_list (pv 1) pe_int (fun _ _ => rfl)) pe_int (fun _ _ => rfl)) (pe_ix ix_tup (pe_ix ix_list (pv 1) pe_int (fun _ _ => rfl)) pe_int (fun _ _ => rfl)))) (blkOk_by (own := [("_law_step", 14)]) (N := ["_law_fade", "_law_some", "_law_long", "_law_signs", "_law_rows", "_law_best", "_law_factor", "_law_k", "_law_longer", "_law_word", "_law_spreads", "_law_sign", "_law_later", "_law_number_here", "_law_step", "_law_spread_here", "_law_many", "_law_steps"]) (sc := defScope s_Lfarthest62) (by decide +kernel)) (fun _ _ _ _ _ => (pg_name (i := 14) sc_Lfarthest62.nd rfl (by first | exact Or.inl rfl | exact Or.inr rfl))) (fun _ _ _ _ _ => pts_nil) (fun _ _ _ _ _ => (pe_ix ix_tup (pv 14) pe_int (fun _ _ => rfl))))))
      (pss_cons (ps_set (i := 4) sc_Lfarthest62.nd rfl (by first | exact Or.inl rfl | exact Or.inr rfl) (pe_lst (pa_cons (pe_tup (pa_cons (pe_lst pa_nil) (pa_cons (pe_lc (own := [("_law_many", 16), ("_law_steps", 17)]) (g := (gTup (cfg K).K 2 (gCons (gName 16) (gCons (gName 17) gNil)))) (tt := tYes) (by rfl) sc_Lfarthest62.nd (pi_list (pv 1)) (blkOk_by (own := [("_law_many", 16), ("_law_steps", 17)]) (N := ["_law_fade", "_law_some", "_law_long", "_law_signs", "_law_rows", "_law_best", "_law_factor", "_law_k", "_law_longer", "_law_word", "_law_spreads", "_law_sign", "_law_later", "_law_number_here", "_law_step", "_law_spread_here", "_law_many", "_law_steps"]) (sc := defScope s_Lfarthest62) (by decide +kernel)) (fun _ _ _ _ _ => (pg_tup rfl (pgs_cons (pg_name (i := 16) sc_Lfarthest62.nd rfl (by first | exact Or.inl rfl | exact Or.inr rfl)) (pgs_cons (pg_name (i := 17) sc_Lfarthest62.nd rfl (by first | exact Or.inl rfl | exact Or.inr rfl)) pgs_nil)))) (fun _ _ _ _ _ => pts_nil) (fun _ _ _ _ _ => (pe_op op_cat (pe_lst (pa_cons (pe_tup (pa_cons pe_int (pa_cons pe_int pa_nil))) pa_nil)) (pe_op op_rep (pe_lst (pa_cons (pe_tup (pa_cons pe_int (pa_cons pe_int pa_nil))) pa_nil)) (pe_op op_sub (pv 16) pe_int))))) pa_nil))) pa_nil)))
      (pss_cons (ps_set (i := 5) sc_Lfarthest62.nd rfl (by first | exact Or.inl rfl | exact Or.inr rfl) (pe_tup (pa_cons (pe_tup (pa_cons pe_int (pa_cons pe_int pa_nil))) (pa_cons (pe_lst pa_nil) pa_nil))))
      (pss_cons (ps_set (i := 6) sc_Lfarthest62.nd rfl (by first | exact Or.inl rfl | exact Or.inr rfl) (pe_tup (pa_cons pe_int (pa_cons pe_int pa_nil))))
      (pss_cons (ps_for PassesOwn.never rfl (pi_range1 (by rfl) X.f_range (pa_cons (pv 2) pa_nil)) (pg_name (i := 7) sc_Lfarthest62.nd rfl (by first | exact Or.inl rfl | exact Or.inr rfl)) (pss_cons (ps_set (i := 8) sc_Lfarthest62.nd rfl (by first | exact Or.inl rfl | exact Or.inr rfl) (pe_lst pa_nil))
      (pss_cons (ps_set (i := 6) sc_Lfarthest62.nd rfl (by first | exact Or.inl rfl | exact Or.inr rfl) (pe_call (ok_Llow X) (hr.mono (by decide)) (by rfl) X.g_Llow X.F_Llow.kp (b_Llow X) .nil pass0 (pa_cons (pe_op op_mulO (pe_ix ix_tup (pv 6) pe_int (fun _ _ => rfl)) (pe_ix ix_tup (pv 0) pe_int (fun _ _ => rfl))) (pa_cons (pe_op op_mulO (pe_ix ix_tup (pv 6) pe_int (fun _ _ => rfl)) (pe_ix ix_tup (pv 0) pe_int (fun _ _ => rfl))) pa_nil))))
      (pss_cons (ps_for PassesOwn.never rfl (pi_list (pv 4)) (pg_tup rfl (pgs_cons (pg_name (i := 9) sc_Lfarthest62.nd rfl (by first | exact Or.inl rfl | exact Or.inr rfl)) (pgs_cons (pg_name (i := 10) sc_Lfarthest62.nd rfl (by first | exact Or.inl rfl | exact Or.inr rfl)) pgs_nil))) (pss_one (ps_for PassesOwn.never rfl (pi_list (pv 3)) (pg_name (i := 11) sc_Lfarthest62.nd rfl (by first | exact Or.inl rfl | exact Or.inr rfl)) (pss_cons (ps_set (i := 12) sc_Lfarthest62.nd rfl (by first | exact Or.inl rfl | exact Or.inr rfl) (pe_lst pa_nil))
      (pss_cons (ps_for PassesOwn.never rfl (pi_zip (by rfl) X.f_zip (pa_cons (pv 1) (pa_cons (pv 10) pa_nil))) (pg_tup rfl (pgs_cons (pg_tup rfl (pgs_cons (pg_name (i := 16) sc_Lfarthest62.nd rfl (by first | exact Or.inl rfl | exact Or.inr rfl)) (pgs_cons (pg_name (i := 17) sc_Lfarthest62.nd rfl (by first | exact Or.inl rfl | exact Or.inr rfl)) pgs_nil))) (pgs_cons (pg_name (i := 15) sc_Lfarthest62.nd rfl (by first | exact Or.inl rfl | exact Or.inr rfl)) pgs_nil))) (pss_one (ps_expr (pe_bm PySem.F.plainAttrs_list PySem.F.slot_list_append PySem.F.type_list_append mt_append (pv 12) (pa_cons (pe_call (ok_Lspread62 X) (hr.mono (by decide)) (by rfl) X.g_Lspread62 X.F_Lspread62.kp (b_Lspread62 X) .nil pass0 (pa_cons (pv 17) (pa_cons (pv 16) (pa_cons (pv 15) (pa_cons (pv 11) pa_nil))))) pa_nil)))))
      (pss_cons (ps_expr (pe_bm PySem.F.plainAttrs_list PySem.F.slot_list_append PySem.F.type_list_append mt_append (pv 8) (pa_cons (pe_tup (pa_cons (pe_op op_cat (pv 9) (pe_lst (pa_cons (pv 11) pa_nil))) (pa_cons (pv 12) pa_nil))) pa_nil)))
      (pss_cons (ps_set (i := 13) sc_Lfarthest62.nd rfl (by first | exact Or.inl rfl | exact Or.inr rfl) (pe_call (ok_Lnumber62 X) (hr.mono (by decide)) (by rfl) X.g_Lnumber62 X.F_Lnumber62.kp (b_Lnumber62 X) .nil pass0 (pa_cons (pv 12) (pa_cons (pv 6) pa_nil))))
      (pss_one (ps_if (pt_cmpR op_gt (pe_op op_mulO (pe_ix ix_tup (pv 13) pe_int (fun _ _ => rfl)) (pe_ix ix_tup (pe_ix ix_tup (pv 5) pe_int (fun _ _ => rfl)) pe_int (fun _ _ => rfl))) (pe_op op_mulO (pe_ix ix_tup (pe_ix ix_tup (pv 5) pe_int (fun _ _ => rfl)) pe_int (fun _ _ => rfl)) (pe_ix ix_tup (pv 13) pe_int (fun _ _ => rfl))) (nomark _)) (pss_one (ps_set (i := 5) sc_Lfarthest62.nd rfl (by first | exact Or.inl rfl | exact Or.inr rfl) (pe_tup (pa_cons (pv 13) (pa_cons (pe_op op_cat (pv 9) (pe_lst (pa_cons (pv 11) pa_nil))) pa_nil))))) pss_nil)))))))))
      (pss_one (ps_set (i := 4) sc_Lfarthest62.nd rfl (by first | exact Or.inl rfl | exact Or.inr rfl) (pv 8)))))))
      (pss_one (ps_ret (pv 5))))))))
theorem b_Lother62 (X : Txt K mg) : Binds K (fdOf K (He.ga K "_law_other")) ["_law_well_here", "_law_many", "_law_steps", "_law_names_here"] [] := X.F_Lother62.bindsN fun _ _ _ _ _ _ us hl => match us, hl with | [_, _, _, _], _ => rfl
theorem ok_Lother62 (X : Txt K mg) : FnOk P w K mg base CX0 4 (He.ga K "_law_other") (fdOf K (He.ga K "_law_other")) ["_law_well_here", "_law_many", "_law_steps", "_law_names_here"] (spOf (cfg K) (wl (c_Lother62 (cfg K)))) := by
  refine X.F_Lother62.ok sc_Lother62 (fun vs H Q E h => spOf_len len_Lother62 h) (fun cdv A outer s H vs Q E hr h => ⟨t_Lother62 (cfg K) E, PSs.nox ?_, fn_go (pure_Lother62 (sh_ok X)) vs H Q E h⟩)
  exact (pss_cons (ps_if (PW.pt (pw_or (pt_cmpR op_eq (pe_call (ok_Ldraw X) (hr.mono (by decide)) (by rfl) X.g_Ldraw X.F_Ldraw.kp (b_Ldraw X) .nil pass0 (pa_cons (pv 0) (pa_cons pe_int pa_nil))) pe_int (nomark _)) (pw_or1 (pt_cmpR (op_eqD hr.units) (pv 2) (pe_lst pa_nil) (nomark _))))) (pss_one (ps_ret (pe_call (ok_Lmachine X) (hr.mono (by decide)) (by rfl) X.g_Lmachine X.F_Lmachine.kp (b_Lmachine X) .nil pass0 (pa_cons (pv 0) (pa_cons (pv 3) (pa_cons pe_int pa_nil)))))) pss_nil)
      (pss_cons (ps_set (i := 4) sc_Lother62.nd rfl (by first | exact Or.inl rfl | exact Or.inr rfl) (pe_call (ok_Ldraw X) (hr.mono (by decide)) (by rfl) X.g_Ldraw X.F_Ldraw.kp (b_Ldraw X) .nil pass0 (pa_cons (pv 0) (pa_cons (pe_callB call_len (by rfl) X.f_len (by decide +kernel) (pa_cons (pv 2) pa_nil)) pa_nil))))
      (pss_cons (ps_asg (pe_ix ix_list (pv 2) (pv 4) (fun _ _ => rfl)) (pg_tup rfl (pgs_cons (pg_name (i := 7) sc_Lother62.nd rfl (by first | exact Or.inl rfl | exact Or.inr rfl)) (pgs_cons (pg_name (i := 8) sc_Lother62.nd rfl (by first | exact Or.inl rfl | exact Or.inr rfl)) (pgs_cons (pg_name (i := 9) sc_Lother62.nd rfl (by first | exact Or.inl rfl | exact Or.inr rfl)) pgs_nil)))))
      (pss_cons (ps_set (i := 5) sc_Lother62.nd rfl (by first | exact Or.inl rfl | exact Or.inr rfl) (pe_call (ok_Ldraw X) (hr.mono (by decide)) (by rfl) X.g_Ldraw X.F_Ldraw.kp (b_Ldraw X) .nil pass0 (pa_cons (pv 0) (pa_cons (pv 1) pa_nil))))
      (pss_cons (ps_set (i := 6) sc_Lother62.nd rfl (by first | exact Or.inl rfl | exact Or.inr rfl) (pe_callTy call_list_of (by rfl) X.f_list (by decide +kernel) (pa_cons (pv 9) pa_nil)))
      (pss_cons (ps_asg (pe_op op_add (pe_ix ix_list (pv 6) (pv 5) (fun _ _ => rfl)) (pe_call (ok_Ldraw X) (hr.mono (by decide)) (by rfl) X.g_Ldraw X.F_Ldraw.kp (b_Ldraw X) .nil pass0 (pa_cons (pv 0) (pa_cons pe_int pa_nil)))) (pg_sub (pv 6) (pv 5) set_list))
      (pss_one (ps_ret (pe_tup (pa_cons (pv 1) (pa_cons (pe_op op_cat (pe_op op_cat (pe_slice sl_list (pv 2) po_none (po_some (pv 4))) (pe_lst (pa_cons (pe_tup (pa_cons (pv 7) (pa_cons (pv 8) (pa_cons (pe_callTy call_tuple_of (by rfl) X.f_tuple (by decide +kernel) (pa_cons (pv 6) pa_nil)) pa_nil)))) pa_nil))) (pe_slice sl_list (pv 2) (po_some (pe_op op_add (pv 4) pe_int)) po_none)) pa_nil)))))))))))
theorem ok_law (X : Txt K mg) : FnOk P w K mg base CX0 7 (He.ga K "law") (fdOf K (He.ga K "law")) ["_law_script"] (spOf (cfg K) (c_law (cfg K))) := by
  obtain ⟨dsShare2, hdShare2, bdShare2⟩ := b_Share___init___2 X
  refine X.F_law.ok sc_law (fun vs H Q E h => spOf_len len_law h) (fun cdv A outer s H vs Q E hr h => ⟨t_law (cfg K) E, PSs.nox ?_, fn_go (pure_law (go_ok X)) vs H Q E h⟩)
  exact (pss_cons (ps_for PassesOwn.never rfl (pi_list (pe_op op_cat (pe_slice sl_list (pv 0) po_none (po_some pe_int)) (pe_lst (pa_cons pe_int pa_nil)))) (pg_name (i := 1) sc_law.nd rfl (by first | exact Or.inl rfl | exact Or.inr rfl)) (pss_cons (ps_set (i := 2) sc_law.nd rfl (by first | exact Or.inl rfl | exact Or.inr rfl) (pe_call (ok_Lwell X) (hr.mono (by decide)) (by rfl) X.g_Lwell X.F_Lwell.kp (b_Lwell X) .nil pass0 (pa_cons (pv 1) pa_nil)))
      (pss_cons (ps_set (i := 3) sc_law.nd rfl (by first | exact Or.inl rfl | exact Or.inr rfl) (pe_call (ok_Lnames X) (hr.mono (by decide)) (by rfl) X.g_Lnames X.F_Lnames.kp (b_Lnames X) .nil pass0 (pa_cons (pv 2) (pa_cons pe_int pa_nil))))
      (pss_cons (ps_set (i := 4) sc_law.nd rfl (by first | exact Or.inl rfl | exact Or.inr rfl) (pe_slice sl_list (pv 3) po_none (po_some (pe_call (ok_Lone X) (hr.mono (by decide)) (by rfl) X.g_Lone X.F_Lone.kp (b_Lone X) .nil pass0 (pa_cons (pv 2) (pa_cons (pe_lst (pa_cons pe_int (pa_cons pe_int (pa_cons pe_int pa_nil)))) pa_nil))))))
      (pss_cons (ps_asg (pe_call (ok_Lmachine X) (hr.mono (by decide)) (by rfl) X.g_Lmachine X.F_Lmachine.kp (b_Lmachine X) .nil pass0 (pa_cons (pv 2) (pa_cons (pv 4) (pa_cons pe_int pa_nil)))) (pg_tup rfl (pgs_cons (pg_name (i := 12) sc_law.nd rfl (by first | exact Or.inl rfl | exact Or.inr rfl)) (pgs_cons (pg_name (i := 13) sc_law.nd rfl (by first | exact Or.inl rfl | exact Or.inr rfl)) pgs_nil))))
      (pss_cons (ps_set (i := 5) sc_law.nd rfl (by first | exact Or.inl rfl | exact Or.inr rfl) (pe_lst (pa_cons (pe_tup (pa_cons (pv 12) (pa_cons (pv 13) pa_nil))) (pa_cons (pe_call (ok_Lother62 X) (hr.mono (by decide)) (by rfl) X.g_Lother62 X.F_Lother62.kp (b_Lother62 X) .nil pass0 (pa_cons (pv 2) (pa_cons (pv 12) (pa_cons (pv 13) (pa_cons (pe_call (ok_Lone X) (hr.mono (by decide)) (by rfl) X.g_Lone X.F_Lone.kp (b_Lone X) .nil pass0 (pa_cons (pv 2) (pa_cons (pe_lst (pa_cons (pv 4) (pa_cons (pv 4) (pa_cons (pe_slice sl_list (pv 3) (po_some pe_int) po_none) pa_nil)))) pa_nil))) pa_nil))))) pa_nil))))
      (pss_cons (ps_set (i := 6) sc_law.nd rfl (by first | exact Or.inl rfl | exact Or.inr rfl) (pe_lenSetT (by rfl) hr.units (by rfl) X.f_len (by rfl) X.f_set (pe_lc (own := [("_law_step", 17)]) (g := (gName 17)) (tt := tYes) (by rfl) sc_law.nd (pi_list (pe_op op_cat (pe_ix ix_tup (pe_ix ix_list (pv 5) pe_int (fun _ _ => rfl)) pe_int (fun _ _ => rfl)) (pe_ix ix_tup (pe_ix ix_list (pv 5) pe_int (fun _ _ => rfl)) pe_int (fun _ _ => rfl)))) (blkOk_by (own := [("_law_step", 17)]) (N := ["_law_script", "_law_cell", "_law_well_here", "_law_names_here", "_law_mine", "_law_some", "_law_wide", "_law_long", "_law_fade", "_law_machines", "_law_due", "_law_turn", "_law_many", "_law_steps", "_law_found", "_law_amount", "_law_row", "_law_step"]) (sc := defScope s_law) (by decide +kernel)) (fun _ _ _ _ _ => (pg_name (i := 17) sc_law.nd rfl (by first | exact Or.inl rfl | exact Or.inr rfl))) (fun _ _ _ _ _ => pts_nil) (fun _ _ _ _ _ => (pe_ix ix_tup (pv 17) pe_int (fun _ _ => rfl))))))
      (pss_cons (ps_set (i := 7) sc_law.nd rfl (by first | exact Or.inl rfl | exact Or.inr rfl) (pe_call (ok_Lone X) (hr.mono (by decide)) (by rfl) X.g_Lone X.F_Lone.kp (b_Lone X) .nil pass0 (pa_cons (pv 2) (pa_cons (pe_ix ix_list (pe_lst (pa_cons (pe_lst (pa_cons pe_int (pa_cons pe_int (pa_cons pe_int (pa_cons pe_int pa_nil))))) (pa_cons (pe_lst (pa_cons pe_int (pa_cons pe_int (pa_cons pe_int (pa_cons pe_int pa_nil))))) (pa_cons (pe_lst (pa_cons pe_int (pa_cons pe_int (pa_cons pe_int (pa_cons pe_int pa_nil))))) pa_nil)))) (pe_callB (call_max2 (by rfl)) (by rfl) X.f_max (by decide +kernel) (pa_cons pe_int (pa_cons (pe_op op_sub (pv 6) pe_int) pa_nil))) (fun _ _ => rfl)) pa_nil))))
      (pss_cons (ps_set (i := 8) sc_law.nd rfl (by first | exact Or.inl rfl | exact Or.inr rfl) (pe_call (ok_Lone X) (hr.mono (by decide)) (by rfl) X.g_Lone X.F_Lone.kp (b_Lone X) .nil pass0 (pa_cons (pv 2) (pa_cons (pe_lst (pa_cons (pe_tup (pa_cons pe_int (pa_cons pe_int pa_nil))) (pa_cons (pe_tup (pa_cons pe_int (pa_cons pe_int pa_nil))) (pa_cons (pe_tup (pa_cons pe_int (pa_cons pe_int pa_nil))) (pa_cons (pe_tup (pa_cons pe_int (pa_cons pe_int pa_nil))) pa_nil))))) pa_nil))))
      (pss_cons (ps_setLc (i := 9) (own := [("_law_amount", 15), ("_law_row", 16)]) (g := (gTup (cfg K).K 2 (gCons (gName 15) (gCons (gName 16) gNil)))) (tt := tYes) (by rfl) sc_law.nd rfl rfl (sw_true rfl rfl rfl (by decide +kernel)) (pi_list (pv 5)) (blkOk_by (own := [("_law_amount", 15), ("_law_row", 16)]) (N := ["_law_script", "_law_cell", "_law_well_here", "_law_names_here", "_law_mine", "_law_some", "_law_wide", "_law_long", "_law_fade", "_law_machines", "_law_due", "_law_turn", "_law_many", "_law_steps", "_law_found", "_law_amount", "_law_row", "_law_step"]) (sc := defScope s_law) (by decide +kernel)) (fun _ _ _ _ _ => (pg_tup rfl (pgs_cons (pg_name (i := 15) sc_law.nd rfl (by first | exact Or.inl rfl | exact Or.inr rfl)) (pgs_cons (pg_name (i := 16) sc_law.nd rfl (by first | exact Or.inl rfl | exact Or.inr rfl)) pgs_nil)))) (fun _ _ _ _ _ => pts_nil) (fun _ _ _ _ _ => (pe_make X.mk_Machine (ok_Machine___init__ X) (hr.mono (by decide)) (by rfl) X.g_Machine (b_Machine___init__ X) .nil pass0 (pa_cons (pv 15) (pa_cons (pe_callTy call_list_of (by rfl) X.f_list (by decide +kernel) (pa_cons (pv 16) pa_nil)) pa_nil)))))
      (pss_cons (ps_set (i := 10) sc_law.nd rfl (by first | exact Or.inl rfl | exact Or.inr rfl) (pe_call (ok_Lfarthest62 X) (hr.mono (by decide)) (by rfl) X.g_Lfarthest62 X.F_Lfarthest62.kp (b_Lfarthest62 X) .nil pass0 (pa_cons (pv 8) (pa_cons (pv 5) (pa_cons (pv 7) pa_nil)))))
      (pss_one (ps_for PassesOwn.never rfl (pi_range1 (by rfl) X.f_range (pa_cons pe_int pa_nil)) (pg_name (i := 11) sc_law.nd rfl (by first | exact Or.inl rfl | exact Or.inr rfl)) (pss_cons (ps_set (i := 14) sc_law.nd rfl (by first | exact Or.inl rfl | exact Or.inr rfl) (pe_call (ok_farthest_wordN X) (hr.mono (by decide)) (by rfl) X.g_farthest_wordN X.F_farthest_wordN.kp (b_farthest_wordN X) .nil pass0 (pa_cons (pe_make X.mk_Share (ok_Share___init__ X) (hr.mono (by decide)) (by rfl) X.g_Share bdShare2 hdShare2 passL (pa_cons (pe_ix ix_tup (pv 8) pe_int (fun _ _ => rfl)) (pa_cons (pe_ix ix_tup (pv 8) pe_int (fun _ _ => rfl)) pa_nil))) (pa_cons (pe_ix ix_list (pv 9) pe_int (fun _ _ => rfl)) (pa_cons (pe_ix ix_list (pv 9) pe_int (fun _ _ => rfl)) (pa_cons (pv 7) pa_nil))))))
      (pss_cons (ps_if (PW.pt (pw_or (pt_not (pt_val (pe_callB call_isi (by rfl) X.f_isinstance (by decide +kernel) (pa_cons (pv 14) (pa_cons (pe_bltn (by rfl) X.f_tuple (by decide +kernel) rfl) pa_nil))))) (pw_or (pt_cmpR op_ne (pe_callB call_len (by rfl) X.f_len (by decide +kernel) (pa_cons (pv 14) pa_nil)) pe_int (nomark _)) (pw_or1 (pt_not (pt_val (pe_callB call_isi (by rfl) X.f_isinstance (by decide +kernel) (pa_cons (pe_ix ix_tup (pv 14) pe_int (fun _ _ => rfl)) (pa_cons (pe_bltn (by rfl) X.f_list (by decide +kernel) rfl) pa_nil))))))))) (pss_one (ps_ret pe_bl)) pss_nil)
      (pss_cons (ps_if (pt_cmpR (op_neD hr.units) (pe_tup (pa_cons (pe_call (ok_Lpair X) (hr.mono (by decide)) (by rfl) X.g_Lpair X.F_Lpair.kp (b_Lpair X) .nil pass0 (pa_cons (pe_ix ix_tup (pv 14) pe_int (fun _ _ => rfl)) pa_nil)) (pa_cons (pe_ix ix_tup (pv 14) pe_int (fun _ _ => rfl)) pa_nil))) (pv 10) (nomark _)) (pss_one (ps_ret pe_bl)) pss_nil)
      (pss_one (ps_expr (pe_bm PySem.F.plainAttrs_list PySem.F.slot_list_append PySem.F.type_list_append mt_append (pe_ix ix_tup (pv 14) pe_int (fun _ _ => rfl)) (pa_cons pe_str pa_nil))))))))))))))))))))
      (pss_one (ps_ret pe_bl)))
end
end Lw
open PySem PySem.W PySem.Calls PyProof.Rows
theorem PySem.Challenge.cw_farbetween_k62_farthest_words_holds : PySem.Challenge.rw_farbetween_k62_farthest_words.Holds := by
  w_on; o_law
  refine HandSHeadRun.head_any (r := OpenLaw.row PySem.Challenge.rw_farbetween_k62_farthest_words) (q := view (OpenLaw.row PySem.Challenge.rw_farbetween_k62_farthest_words).prog [51]) (H := Lw.hk) (ob := Lw.ob) (M := 6000) (loose := Lw.loose) (d := HandSHeadRun.topDef (OpenLaw.row PySem.Challenge.rw_farbetween_k62_farthest_words).prog 51) (kwd := []) Lw.ob_eq
    (by kernel_rfl) (fun s => by kernel_rfl) Lw.run (by kernel_rfl) (by kernel_rfl) (by kernel_rfl) (by rfl) (by first | assumption | decide +kernel) (by decide +kernel) ⟨rfl, rfl, rfl, rfl, rfl, by decide +kernel⟩ ?hw ?hc
  case hw => w_witness2
  case hc =>
    refine L2.walk_ofE (l := PySem.Challenge.rw_farbetween_k62_farthest_words) (n := 63) (k := 7) (x := "_law_script") (CX := L2.CX0) rfl (by decide) (by kernel_rfl) ⟨rfl, by decide, by decide⟩ ?F (fun _ _ _ _ z => z)
    intro w mg fa h Y G hmg0
    obtain ⟨K, KX, c⟩ := Y
    have hmg : mg ("law" : PySem.Str) = some (.ref fa) := by
      have e : (HandSHeadRun.topDef (OpenLaw.row PySem.Challenge.rw_farbetween_k62_farthest_words).prog 51).name = ("law" : PySem.Str) := by kernel_rfl
      rw [← e]
      exact hmg0
    have X := Lw.txt_of KX G c
    have e := hmg.symm.trans X.g_law
    cases e
    exact ⟨K, _, _, KX, fun s v => (L2.FunD.bindsA (ps := ["_law_script"]) X.F_law fun _ _ _ _ _ _ us hl => match us, hl with | [_], _ => rfl) s [v] rfl, fun H a ns hl _ hS => Pw.law_start hl hS, fun base _ _ => Lw.ok_law X⟩
