import PyProof.Rows.All
import Wide.All
import OpenK.AllK
import Wide.FinOn
import HandS.ForMost
import HandS.ForExc
import HandS.Lambda
import HandS.Evl
import HandS.Wide
import HandS.FStr
import HandS.IsInst
import HandS.Defaults
import HandS.OwnEq
import KE.KCallOwn
import HandS.Head0
import HandS.Head1
import HandS.Head2
import HandS.HeadEnd
import HandS.HeadHook1
import HandS.HeadHook2
import HandS.HeadWalk
import KE.KNest
import PyProof.ZipIter
import KE.KItemsList
import HandS.Style
import HandS.TryOnly
import HandS.ExcIs
import HandS.TupAny
import HandS.Zip
import HandS.SortKw
import KE.DataMinMax
import HandS.More
import HandS.HeadHook3
import HandS.TupLe
import PyProof.NeKinds
import HandS.TupSets
import HandS.DictTup
import KE.SortData
import KE.GoesMore
import KE.KTupSum
import HandS.Conv
import HandS.ExcInit
import HandS.ExcField
import HandS.TryMany
import HandS.TupMul
import KE.KIsAll
import KE.KDictPairs
import KE.KDictCopyH
import HandS.CallLocal
import KE.GoesEnum
import KE.KDictList
import HandS.DictSubView
import KE.DataEq
import KE.KTurns
import PySem.Challenge.RW_farbetween_k13_cheapest_plans
set_option Elab.async false
set_option linter.all false
set_option maxRecDepth 100000
set_option maxHeartbeats 4000000
namespace Pw
open PySem PySem.Spec PyProof.Rows L2
open Evl (Ex)
abbrev mkC : HO := .own 1
abbrev mkO : HO := .own 0
structure IsCod (c : Addr) (oc : Obj) (P : Addr) (q : Str) : Prop where
  hd : ∀ h : PySem.Heap, h.get? c = some oc → PySem.W.CodeHd h c P
  nm : ∃ (vs : Array Value) (t : Tok), oc.data = .fields vs ∧ vs[1]? = some (.str q t)
def Tab (H : Hp) (P : Addr) (q : Str) : Prop := ∃ ps : Array Value, H P = some (.tbl ps) ∧ TriplesOk ps.toList ∧ ∀ (pos : Pos) (cv : Value), codeAmong pos ps.toList = some cv → ∃ c oc P', cv = .ref c ∧ H c = some (.frz oc mkC) ∧ IsCod c oc P' q
def innerQ (q : Str) : Str := (q ++ ".<locals>.") ++ "<lambda>"
def Nm (tbs : List (Addr × Str)) (H : Hp) (P : Addr) (q : Str) : Prop := (P, q) ∈ tbs ∨ ∃ c oc q0, H c = some (.frz oc mkC) ∧ IsCod c oc P q0 ∧ q = innerQ q0
structure TabsOk (tbs : List (Addr × Str)) (H : Hp) : Prop where
  tab : ∀ P q, Nm tbs H P q → Tab H P q
  uniq : ∀ P q q', Nm tbs H P q → Nm tbs H P q' → q = q'
theorem IsCod.one {c P P' : Addr} {oc : Obj} {q q' : Str} {h : PySem.Heap} (e : h.get? c = some oc) (a : IsCod c oc P q) (b : IsCod c oc P' q') : P = P' ∧ q = q' := by
  obtain ⟨o1, vs1, _, _, _, _, _, _, _, e1, _, d1, v1, _⟩ := a.hd h e
  obtain ⟨o2, vs2, _, _, _, _, _, _, _, e2, _, d2, v2, _⟩ := b.hd h e
  rw [e] at e1 e2
  cases e1
  cases e2
  rw [d1] at d2
  cases d2
  rw [v1] at v2
  cases v2
  refine ⟨rfl, ?_⟩
  obtain ⟨vs, t, n1, n2⟩ := a.nm
  obtain ⟨vs', t', n3, n4⟩ := b.nm
  rw [n1] at n3
  cases n3
  rw [n2] at n4
  cases n4
  rfl
theorem TabsOk.keep {tbs : List (Addr × Str)} {H H' : Hp} (t : TabsOk tbs H) (a : ∀ b ps, H b = some (.tbl ps) → H' b = some (.tbl ps)) (k : ∀ b oc, H b = some (.frz oc mkC) → H' b = some (.frz oc mkC)) (n : ∀ b oc, H' b = some (.frz oc mkC) → H b = some (.frz oc mkC)) : TabsOk tbs H' := by
  have key : ∀ P q, Tab H P q → Tab H' P q := fun P q ⟨ps, h1, h2, h3⟩ => ⟨ps, a _ _ h1, h2, fun pos cv hc => by
    obtain ⟨c, oc, P', e1, e2, e3⟩ := h3 pos cv hc
    exact ⟨c, oc, P', e1, k _ _ e2, e3⟩⟩
  have nm : ∀ P q, Nm tbs H' P q → Nm tbs H P q := fun P q h => h.imp id fun ⟨c, oc, q0, e, i, z⟩ => ⟨c, oc, q0, n _ _ e, i, z⟩
  exact ⟨fun P q h => key _ _ (t.tab P q (nm _ _ h)), fun P q q' h h' => t.uniq P q q' (nm _ _ h) (nm _ _ h')⟩
structure LExt (H H' : Hp) : Prop where
  keep : ∀ b u, H b = some u → (∀ ps, u ≠ .tbl ps) → H' b = some u
  tbl : ∀ b ps, H b = some (.tbl ps) → ∃ more, H' b = some (.tbl (ps ++ more))
theorem LExt.refl (H : Hp) : LExt H H := ⟨fun _ _ h _ => h, fun b ps h => ⟨#[], by rw [h]; simp⟩⟩
section
variable {M : Model} {A : Around} {E : Value → Shared → Prop} {s : Shared} {name qual : Str} {params : Arguments} {body : Expr} {scope : Scope} {env : Env} {c P : Addr} {ps : Array Value} {pos : Pos} {firstLine : Nat} {mg : Str → Option Value}
  {clos : List (Str × Addr)} {Q : Value → Shared → Prop}
end
section
variable {X : Cx} {pins : List (Addr × Obj)} {σ : L2.St} {H : Hp} {s : Shared}
structure GStep (G G1 : Hp) (c : Addr) (oc : Obj) : Prop where
  old : ∀ b o, G b = some (.frz o mkC) → G1 b = some (.frz o mkC)
  new : ∀ b o, G1 b = some (.frz o mkC) → G b = some (.frz o mkC) ∨ b = c ∧ o = oc
  tbl : ∀ b u, G1 b = some u → G b = some u ∨ (∃ ps, u = .tbl ps) ∨ b = c ∧ u = .frz oc mkC
  at_ : G1 c = some (.frz oc mkC)
theorem GStep.refl {G : Hp} {c : Addr} {oc : Obj} (h : G c = some (.frz oc mkC)) : GStep G G c oc := ⟨fun _ _ e => e, fun _ _ e => .inl e, fun _ _ e => .inl e, h⟩
end
end Pw
namespace Pw
open PySem PySem.Spec PyProof.Rows L2
open Evl (Ex)
def CellIs (ob : Obj) (v : V) : Prop := ∃ u, ob.data = .cell (some u) ∧ RelV v u
abbrev SpL := List V → Hp → VK → Prop
def CallOk (P : Program) (w : World) (K : PySem.W.Frag) (mg : Str → Option Value) (base : PySem.Heap) (k : Nat) (f : Addr) (o : Obj) (cells : List (Addr × V)) (cc : Addr × Obj) (sp : SpL) : Prop :=
  ∀ (A : Around) (outer : List Env) (s : Shared) (H : Hp) (us : List Value) (vs : List V) (Q : VK), Room k A → Env0 P w K mg base A outer s H → s.heap.get? f = some o → (∀ p ∈ cells, ∃ ob, H p.1 = some (.frz ob mkO) ∧ CellIs ob p.2) → H cc.1 = some (.frz cc.2 mkC) → Vals vs us → sp vs H Q →
    codeAny (model P w) A (.call (.ref f) ⟨us, []⟩) (CR (fun _ _ _ _ _ _ => False) outer P w H s Q (fun _ _ _ => False)) s
structure CapOk (cl : List (Str × Addr)) (fr : List Str) (cells : List (Addr × V)) : Prop where
  inj : ∀ y z c, cl.lookup y = some c → cl.lookup z = some c → y = z
  dom : ∀ y c, cl.lookup y = some c → y ∈ fr
  len : cells.length = fr.length
  get : ∀ (i : Nat) y, fr[i]? = some y → ∃ c v, cl.lookup y = some c ∧ cells[i]? = some (c, v)
theorem CapOk.cell {cl : List (Str × Addr)} {fr : List Str} {cells : List (Addr × V)} (C : CapOk cl fr cells) {y : Str} {c : Addr} (h : cl.lookup y = some c) : c ∈ cells.map (·.1) := by
  obtain ⟨i, hi⟩ := List.getElem?_of_mem (C.dom y c h)
  obtain ⟨c', v, e, g⟩ := C.get i y hi
  rw [h] at e
  cases e
  exact List.mem_map.2 ⟨_, List.mem_of_getElem? g, rfl⟩
section
variable {P : Program} {w : World} {K : PySem.W.Frag} {mg : Str → Option Value} {base : PySem.Heap} {N fr : List Str} {x q : Str} {scope : Scope} {cl : List (Str × Addr)} {A : Around} {outer : List Env} {s : Shared} {H : Hp} {f c' : Addr} {cells : List (Addr × V)} {h₁ : PySem.Heap} {tk : Nat} {v : V} {u : Value}
end
end Pw
namespace Pw
open PySem PySem.Spec PyProof.Rows L2
open Evl (Ex)
def FunO (o : Obj) : Prop := ∃ fd : FuncData, o = { cls := .type "function", data := .func fd }
def fnH (P : Program) (w : World) (K : PySem.W.Frag) (mg : Str → Option Value) (base : PySem.Heap) (k : Nat) (f : Addr) (o : Obj) (cells : List (Addr × V)) (cc : Addr × Obj) (sp : SpL) : HO := .frz o (.ext fun _ => CallOk P w K mg base k f o cells cc sp)
section
variable {X : Cx} {tbs : List (Addr × Str)} {k : Nat} {q : Str} {js : List Nat} {fr N : List Str} {tb : Addr → Obj → Addr → TE} {params : Arguments} {body : Expr} {scope : Scope} {pos : Pos} {x : Str}
end
end Pw
namespace Pw
open PySem PySem.Spec PyProof.Rows L2
open Evl (Ex)
def BmOk (base : PySem.Heap) (mg : Str → Option Value) : Prop := ∃ P, base.BuiltinsAt mg P
theorem BmOk.at {X : Cx} {pins : List (Addr × Obj)} {σ : L2.St} {H : Hp} {s : Shared} (b : BmOk X.base X.mg) (I : Inv X pins σ H s) {P : Addr} {u : HO} (h : H P = some u) : s.heap.BuiltinsAt X.mg P ∧ mainGlobals ≠ P := by
  obtain ⟨P0, bm, ob, b1, b2, b3, b4, b5, b6, b7, b8⟩ := b
  have nb : ∀ a o, X.base.get? a = some o → a ≠ P := fun a o e z => by
    have := (I.bs a o e).2
    rw [z, h] at this; cases this
  refine ⟨⟨bm, ob, b1, b2, b3, nb bm ob b5, I.bk _ _ b5, b6, b7, b8⟩, ?_⟩
  obtain ⟨o, _, _, e, _⟩ := I.mod.glob
  exact nb _ o e
section
variable {X : Cx} {tbs : List (Addr × Str)} {k : Nat} {q : Str} {js : List Nat} {fr N : List Str} {tb : Addr → Obj → Addr → TE} {params : Arguments} {body : Expr} {scope : Scope} {pos : Pos} {x : Str}
end
section
variable {X : Cx} {x : Str} {p pos : Pos} {e : Expr} {es : List Expr} {ta : TA} {kb i : Nat}
end
end Pw
namespace Pw
open PySem PySem.Spec PyProof.Rows L2
open Evl (Ex ex_l ex_t fresh_back)
inductive D where
  | non | bl (b : Bool) | int (i : Int) | str (x : Str) | ty (n : String) | ptr (a : Addr)
  | lst (ds : List D) | seq (ds : List D) | tup (ds : List D) | ins (c : Nat) (fs : List (Str × D)) | dic (kvs : List (Key × D))
  | key (ks : List Key) | dit (kvs : List (List Key × D)) | dil (kvs : List (Key × D)) | cod (c : Addr) (oc : Obj) (P : Addr) (q : Str)
inductive MO where
  | lst (ds : List D) | dK (kvs : List (Key × D)) | ins (c : Nat) (fs : List (Str × D)) | well (b : Nat) | dT (kvs : List (List Key × D)) | lkK (kvs : List (Key × D)) (o : HO) | lkT (kvs : List (List Key × D)) (o : HO)
  | clo (k : Nat) (f : Addr) (o : Obj) (cells : List (Addr × V)) (cc : Addr × Obj) (sp : SpL) (caps : List (D × V)) | cel (ob : Obj)
abbrev Mu := Addr → Option MO
abbrev mu0 : Mu := fun _ => none
def put (μ : Mu) (a : Addr) (m : MO) : Mu := fun b => if b = a then some m else μ b
def del (μ : Mu) (a : Addr) : Mu := fun b => if b = a then none else μ b
theorem put_same {μ : Mu} {a : Addr} {m : MO} : put μ a m a = some m := if_pos rfl
theorem put_ne {μ : Mu} {a b : Addr} {m : MO} (h : b ≠ a) : put μ a m b = μ b := if_neg h
theorem put_put {μ : Mu} {a : Addr} {m n : MO} : put (put μ a m) a n = put μ a n := by
  funext b; unfold put; split <;> rfl
theorem del_put {μ : Mu} {a : Addr} {m : MO} (h : μ a = none) : del (put μ a m) a = μ := by
  funext b; unfold del put; split
  · rename_i e; rw [e, h]
  · rfl
theorem put_get {μ : Mu} {a : Addr} {m : MO} (h : μ a = some m) : put μ a m = μ := by
  funext b; unfold put; split
  · rename_i e; rw [e, h]
  · rfl
structure Cfg where
  K : PySem.W.Frag
  cls : Nat → Addr
  P : Program
  w : World
  mg : Str → Option Value
  base : PySem.Heap
  tbs : List (Addr × Str)
def Cfg.nl (T : Cfg) : Cfg := { T with tbs := [] }
inductive Rep (T : Cfg) (H : Hp) : D → V → Prop where
  | non : Rep T H .non .non
  | bl (b : Bool) : Rep T H (.bl b) (.bl b)
  | int (i : Int) : Rep T H (.int i) (.int i)
  | str (x : Str) : Rep T H (.str x) (.str x)
  | ty (n : String) : Rep T H (.ty n) (.ty n)
  | ptr (a : Addr) : Rep T H (.ptr a) (.ref a)
  | lst {a : Addr} {ds : List D} {xs : List V} (h : H a = some (.lst xs)) (l : ds.length = xs.length) (r : ∀ (i : Nat) (d : D) (v : V), ds[i]? = some d → xs[i]? = some v → Rep T H d v) : Rep T H (.lst ds) (.ref a)
  | seq {a : Addr} {ds : List D} {xs : List V} (h : SqL T.K H a xs) (l : ds.length = xs.length) (r : ∀ (i : Nat) (d : D) (v : V), ds[i]? = some d → xs[i]? = some v → Rep T H d v) : Rep T H (.seq ds) (.ref a)
  | tup {a : Addr} {ds : List D} {xs : List V} (h : SqT T.K H a xs) (l : ds.length = xs.length) (r : ∀ (i : Nat) (d : D) (v : V), ds[i]? = some d → xs[i]? = some v → Rep T H d v) : Rep T H (.tup ds) (.ref a)
  | ins {a dx : Addr} {c : Nat} {gs : List (Str × D)} {fs : List (Str × V)} (h : H a = some (.ins (T.cls c) dx fs)) (l : gs.map (·.1) = fs.map (·.1)) (r : ∀ (i : Nat) (g : Str × D) (f : Str × V), gs[i]? = some g → fs[i]? = some f → Rep T H g.2 f.2) : Rep T H (.ins c gs) (.ref a)
  | dic {a : Addr} {gs : List (Key × D)} {fs : List (Key × V)} (h : H a = some (.dK fs)) (l : gs.map (·.1) = fs.map (·.1)) (r : ∀ (i : Nat) (g : Key × D) (f : Key × V), gs[i]? = some g → fs[i]? = some f → Rep T H g.2 f.2) : Rep T H (.dic gs) (.ref a)
  | key {a : Addr} {ks : List Key} (h : H a = some (.tup (ks.map kV))) : Rep T H (.key ks) (.ref a)
  | dit {a : Addr} {od : Obj} {gs : List (List Key × D)} {fs : List (List Key × V)} (h : H a = some (.frz od (.dT fs))) (l : gs.map (·.1) = fs.map (·.1)) (r : ∀ (i : Nat) (g : List Key × D) (f : List Key × V), gs[i]? = some g → fs[i]? = some f → Rep T H g.2 f.2) : Rep T H (.dit gs) (.ref a)
  | dil {a : Addr} {od : Obj} {gs : List (Key × D)} {fs : List (Key × V)} (h : H a = some (.frz od (.dK fs))) (l : gs.map (·.1) = fs.map (·.1)) (r : ∀ (i : Nat) (g : Key × D) (f : Key × V), gs[i]? = some g → fs[i]? = some f → Rep T H g.2 f.2) : Rep T H (.dil gs) (.ref a)
  | cod {c P : Addr} {oc : Obj} {q : Str} (h : H c = some (.frz oc mkC)) (i : IsCod c oc P q) : Rep T H (.cod c oc P q) (.ref c)
def RepL (T : Cfg) (H : Hp) (ds : List D) (xs : List V) : Prop := ds.length = xs.length ∧ ∀ (i : Nat) (d : D) (v : V), ds[i]? = some d → xs[i]? = some v → Rep T H d v
def RepP {α : Type} (T : Cfg) (H : Hp) (gs : List (α × D)) (fs : List (α × V)) : Prop := gs.map (·.1) = fs.map (·.1) ∧ ∀ (i : Nat) (g : α × D) (f : α × V), gs[i]? = some g → fs[i]? = some f → Rep T H g.2 f.2
section
variable {T : Cfg} {H H' : Hp}
theorem Rep.mono {d : D} {v : V} (e : Ex H H') (h : Rep T H d v) : Rep T H' d v := by
  induction h with
  | non => exact .non
  | bl b => exact .bl b
  | int i => exact .int i
  | str x => exact .str x
  | ty n => exact .ty n
  | ptr a => exact .ptr a
  | lst h l r ih => exact .lst (e _ _ h) l ih
  | seq h l r ih => exact .seq (ex_l e h) l ih
  | tup h l r ih => exact .tup (ex_t e h) l ih
  | ins h l r ih => exact .ins (e _ _ h) l ih
  | dic h l r ih => exact .dic (e _ _ h) l ih
  | key h => exact .key (e _ _ h)
  | dit h l r ih => exact .dit (e _ _ h) l ih
  | dil h l r ih => exact .dil (e _ _ h) l ih
  | cod h i => exact .cod (e _ _ h) i
theorem RepL.mono {ds : List D} {xs : List V} (e : Ex H H') (h : RepL T H ds xs) : RepL T H' ds xs := ⟨h.1, fun i d v a b => (h.2 i d v a b).mono e⟩
theorem RepP.mono {α : Type} {gs : List (α × D)} {fs : List (α × V)} (e : Ex H H') (h : RepP T H gs fs) : RepP T H' gs fs := ⟨h.1, fun i d v a b => (h.2 i d v a b).mono e⟩
theorem RepL.nil : RepL T H [] [] := ⟨rfl, fun i d v a _ => by simp at a⟩
theorem RepL.cons {d : D} {v : V} {ds : List D} {xs : List V} (h : Rep T H d v) (t : RepL T H ds xs) : RepL T H (d :: ds) (v :: xs) := by
  refine ⟨by simp [t.1], fun i e w a b => ?_⟩
  cases i with
  | zero =>
    simp at a b
    subst a; subst b
    exact h
  | succ i =>
    simp at a b
    exact t.2 i e w a b
theorem RepL.head {d : D} {v : V} {ds : List D} {xs : List V} (h : RepL T H (d :: ds) (v :: xs)) : Rep T H d v := h.2 0 d v rfl rfl
theorem RepL.tail {d : D} {v : V} {ds : List D} {xs : List V} (h : RepL T H (d :: ds) (v :: xs)) : RepL T H ds xs := by
  refine ⟨by have := h.1; simpa using this, fun i e w a b => h.2 (i + 1) e w (by simpa using a) (by simpa using b)⟩
theorem RepL.nil_inv {xs : List V} (h : RepL T H [] xs) : xs = [] := by
  have := h.1
  cases xs with
  | nil => rfl
  | cons _ _ => simp at this
theorem RepL.cons_inv {d : D} {ds : List D} {xs : List V} (h : RepL T H (d :: ds) xs) : ∃ v ys, xs = v :: ys ∧ Rep T H d v ∧ RepL T H ds ys := by
  cases xs with
  | nil => have := h.1; simp at this
  | cons v ys => exact ⟨v, ys, rfl, h.head, h.tail⟩
theorem RepL.app {ds es : List D} {xs ys : List V} (h : RepL T H ds xs) (k : RepL T H es ys) : RepL T H (ds ++ es) (xs ++ ys) := by
  refine ⟨by simp [h.1, k.1], fun i d v a b => ?_⟩
  by_cases hi : i < ds.length
  · rw [List.getElem?_append_left hi] at a
    rw [List.getElem?_append_left (by rw [← h.1]; exact hi)] at b
    exact h.2 i d v a b
  · rw [List.getElem?_append_right (by omega)] at a
    rw [List.getElem?_append_right (by rw [← h.1]; omega), ← h.1] at b
    exact k.2 _ d v a b
theorem RepL.get {ds : List D} {xs : List V} (h : RepL T H ds xs) {i : Nat} {d : D} (a : ds[i]? = some d) : ∃ v, xs[i]? = some v ∧ Rep T H d v := by
  have hi : i < ds.length := (List.getElem?_eq_some_iff.mp a).1
  have hx : i < xs.length := by rw [← h.1]; exact hi
  exact ⟨xs[i], List.getElem?_eq_getElem hx, h.2 i d _ a (List.getElem?_eq_getElem hx)⟩
theorem RepL.getV {ds : List D} {xs : List V} (h : RepL T H ds xs) {i : Nat} {v : V} (a : xs[i]? = some v) : ∃ d, ds[i]? = some d ∧ Rep T H d v := by
  have hi : i < xs.length := (List.getElem?_eq_some_iff.mp a).1
  have hx : i < ds.length := by rw [h.1]; exact hi
  exact ⟨ds[i], List.getElem?_eq_getElem hx, h.2 i _ v (List.getElem?_eq_getElem hx) a⟩
theorem RepL.drop {ds : List D} {xs : List V} (h : RepL T H ds xs) (n : Nat) : RepL T H (ds.drop n) (xs.drop n) :=
  ⟨by simp [h.1], fun i d v a b => h.2 (n + i) d v (by simpa using a) (by simpa using b)⟩
theorem RepL.take {ds : List D} {xs : List V} (h : RepL T H ds xs) (n : Nat) : RepL T H (ds.take n) (xs.take n) := by
  refine ⟨by simp [h.1], fun i d v a b => ?_⟩
  rw [List.getElem?_take] at a b
  split at a
  · rename_i hi
    rw [if_pos hi] at b
    exact h.2 i d v a b
  · cases a
theorem RepL.set {ds : List D} {xs : List V} (h : RepL T H ds xs) {j : Nat} {d : D} {v : V} (r : Rep T H d v) : RepL T H (ds.set j d) (xs.set j v) := by
  refine ⟨by simp [h.1], fun i e w a b => ?_⟩
  rw [List.getElem?_set] at a b
  split at a
  · rename_i hij
    rw [if_pos hij] at b
    split at a
    · split at b
      · cases a; cases b; exact r
      · cases b
    · cases a
  · rename_i hij
    rw [if_neg hij] at b
    exact h.2 i e w a b
theorem RepL.ints {ns : List Int} {xs : List V} (h : RepL T H (ns.map D.int) xs) : xs = ns.map V.int := by
  induction ns generalizing xs with
  | nil => exact h.nil_inv
  | cons n r ih =>
    obtain ⟨v, ys, rfl, a, b⟩ := RepL.cons_inv (d := D.int n) (ds := r.map D.int) h
    cases a
    rw [ih b]
    rfl
theorem RepL.bls {bs : List Bool} {xs : List V} (h : RepL T H (bs.map D.bl) xs) : xs = bs.map V.bl := by
  induction bs generalizing xs with
  | nil => exact h.nil_inv
  | cons n r ih =>
    obtain ⟨v, ys, rfl, a, b⟩ := RepL.cons_inv (d := D.bl n) (ds := r.map D.bl) h
    cases a
    rw [ih b]
    rfl
theorem Rep.lst_inv {ds : List D} {v : V} (h : Rep T H (.lst ds) v) : ∃ a xs, v = .ref a ∧ H a = some (.lst xs) ∧ RepL T H ds xs := by
  cases h with
  | lst h l r => exact ⟨_, _, rfl, h, l, r⟩
theorem Rep.seq_inv {ds : List D} {v : V} (h : Rep T H (.seq ds) v) : ∃ a xs, v = .ref a ∧ SqL T.K H a xs ∧ RepL T H ds xs := by
  cases h with
  | seq h l r => exact ⟨_, _, rfl, h, l, r⟩
theorem Rep.tup_inv {ds : List D} {v : V} (h : Rep T H (.tup ds) v) : ∃ a xs, v = .ref a ∧ SqT T.K H a xs ∧ RepL T H ds xs := by
  cases h with
  | tup h l r => exact ⟨_, _, rfl, h, l, r⟩
theorem Rep.ins_inv {c : Nat} {gs : List (Str × D)} {v : V} (h : Rep T H (.ins c gs) v) : ∃ a dx fs, v = .ref a ∧ H a = some (.ins (T.cls c) dx fs) ∧ RepP T H gs fs := by
  cases h with
  | ins h l r => exact ⟨_, _, _, rfl, h, l, r⟩
theorem RepP.look {gs : List (Str × D)} {fs : List (Str × V)} (h : RepP T H gs fs) {f : Str} {d : D} (e : gs.lookup f = some d) : ∃ v, fs.lookup f = some v ∧ Rep T H d v := by
  obtain ⟨h1, h2⟩ := h
  induction gs generalizing fs with
  | nil => simp at e
  | cons g gs ih =>
    cases fs with
    | nil => simp at h1
    | cons z fs =>
      obtain ⟨a, d'⟩ := g
      obtain ⟨b, v'⟩ := z
      simp only [List.map_cons, List.cons.injEq] at h1
      obtain ⟨e1, e2⟩ := h1
      have e1 : a = b := e1
      subst e1
      rw [List.lookup_cons] at e ⊢
      by_cases hf : (f == a) = true
      · rw [hf] at e ⊢
        have := h2 0 (a, d') (a, v') rfl rfl
        cases e
        exact ⟨v', rfl, this⟩
      · simp only [Bool.not_eq_true] at hf
        rw [hf] at e ⊢
        exact ih e e2 fun i g f a b => h2 (i + 1) g f (by simpa using a) (by simpa using b)
theorem RepP.lookNone {gs : List (Str × D)} {fs : List (Str × V)} (h : gs.map (·.1) = fs.map (·.1)) {f : Str} (e : gs.lookup f = none) : fs.lookup f = none := by
  induction gs generalizing fs with
  | nil => cases fs with
    | nil => rfl
    | cons _ _ => simp at h
  | cons g gs ih =>
    cases fs with
    | nil => simp at h
    | cons z fs =>
      obtain ⟨a, d'⟩ := g
      obtain ⟨b, v'⟩ := z
      simp only [List.map_cons, List.cons.injEq] at h
      obtain ⟨e1, e2⟩ := h
      have e1 : a = b := e1
      subst e1
      rw [List.lookup_cons] at e ⊢
      by_cases hf : (f == a) = true
      · rw [hf] at e; cases e
      · simp only [Bool.not_eq_true] at hf
        rw [hf] at e ⊢
        exact ih e2 e
end
def putG (f : Str) (d : D) : List (Str × D) → List (Str × D)
  | [] => [(f, d)]
  | (g, x) :: r => if g = f then (g, d) :: r else (g, x) :: putG f d r
def ObjRep (T : Cfg) (Hb : Hp) : MO → HO → Prop
  | .lst ds, .lst xs => RepL T Hb ds xs
  | .dK kvs, .dK es => RepP T Hb kvs es
  | .dT kvs, .dT es => RepP T Hb kvs es
  | .lkK kvs o, o' => o' = o ∧ ∃ od fs, o = .frz od (.dK fs) ∧ RepP T Hb kvs fs
  | .lkT kvs o, o' => o' = o ∧ ∃ od fs, o = .frz od (.dT fs) ∧ RepP T Hb kvs fs
  | .ins c gs, .ins C _ fs => C = T.cls c ∧ RepP T Hb gs fs
  | .clo k f o cells cc sp caps, o' => o' = fnH T.P T.w T.K T.mg T.base k f o cells cc sp ∧ FunO o ∧ Hb cc.1 = some (.frz cc.2 mkC) ∧ ∀ z ∈ caps, Rep T Hb z.1 z.2
  | .cel ob, o' => o' = .frz ob mkO
  | .well b, .lst xs => ∃ w0 w1 w2 : Int, xs = [.int w0, .int w1, .int w2] ∧ 0 ≤ w0 ∧ 0 ≤ w1 ∧ w1 < 2147483647 ∧ 0 ≤ w2 ∧ w2 + (b : Int) ≤ 1073741824
  | _, _ => False
theorem ObjRep.mono {T : Cfg} {H H' : Hp} {m : MO} {o : HO} (e : Ex H H') (h : ObjRep T H m o) : ObjRep T H' m o := by
  cases m <;> cases o <;> first
    | exact h.elim
    | exact RepL.mono e h
    | exact RepP.mono e h
    | exact ⟨h.1, RepP.mono e h.2⟩
    | (obtain ⟨h1, od, fs, h2, h3⟩ := h; exact ⟨h1, od, fs, h2, RepP.mono e h3⟩)
    | (obtain ⟨h1, h2, h3, h4⟩ := h; exact ⟨h1, h2, e _ _ h3, fun z hz => (h4 z hz).mono e⟩)
    | exact h
def NoTC (o : HO) : Prop := (∀ ps, o ≠ .tbl ps) ∧ ∀ oc, o ≠ .frz oc mkC
theorem ObjRep.ntc {T : Cfg} {Hb : Hp} {m : MO} {o : HO} (r : ObjRep T Hb m o) : NoTC o := by
  refine ⟨fun ps e => ?_, fun oc e => ?_⟩ <;> subst e <;> cases m <;> first
    | exact r
    | (obtain ⟨h1, od, fs, h2, h3⟩ := r; rw [h2] at h1; cases h1)
    | (obtain ⟨h1, _⟩ := r; exact HO.noConfusion h1)
    | exact HO.noConfusion r
    | (obtain ⟨h1, _⟩ := r; exact HO.noConfusion (HO.frz.inj h1).2)
    | exact absurd (HO.own.inj (HO.frz.inj r).2) (by decide)
def TabsIn (T : Cfg) (Hb H : Hp) : Prop := ∃ G, Ex G H ∧ TabsOk T.tbs G ∧ (∀ c oc, G c = some (.frz oc mkC) ↔ Hb c = some (.frz oc mkC)) ∧ ∀ a u, G a = some u → ¬ NoTC u
structure SimMu (T : Cfg) (μ : Mu) (Hb H : Hp) : Prop where
  of : ∀ a m, μ a = some m → Hb a = none ∧ ∃ o, H a = some o ∧ ObjRep T Hb m o
  tab : TabsIn T Hb H
  ntb : ∀ a ps, Hb a ≠ some (.tbl ps)
instance {T : Cfg} {μ : Mu} {Hb H : Hp} : CoeFun (SimMu T μ Hb H) (fun _ => ∀ a m, μ a = some m → Hb a = none ∧ ∃ o, H a = some o ∧ ObjRep T Hb m o) := ⟨SimMu.of⟩
theorem SimMu.nil {T : Cfg} {μ : Mu} {Hb H : Hp} (s : SimMu T μ Hb H) : SimMu T mu0 Hb H := ⟨fun _ _ h => (nomatch h), s.tab, s.ntb⟩
theorem SimMu.as {T : Cfg} {μ μ' : Mu} {Hb H : Hp} (s : SimMu T μ Hb H) (h : ∀ a m, μ' a = some m → Hb a = none ∧ ∃ o, H a = some o ∧ ObjRep T Hb m o) : SimMu T μ' Hb H := ⟨h, s.tab, s.ntb⟩
theorem SimMu.up {T : Cfg} {μ μ' : Mu} {Hb H Hb' H' : Hp} (s : SimMu T μ Hb H) (e : ∀ a u, ¬ NoTC u → H a = some u → H' a = some u) (x : ∀ a u, ¬ NoTC u → (Hb' a = some u ↔ Hb a = some u)) (h : ∀ a m, μ' a = some m → Hb' a = none ∧ ∃ o, H' a = some o ∧ ObjRep T Hb' m o) : SimMu T μ' Hb' H' := by
  obtain ⟨G, xG, TO, hc, hn⟩ := s.tab
  exact ⟨h, ⟨G, fun a u q => e a u (hn a u q) (xG a u q), TO, fun c oc => (hc c oc).trans (x c _ fun z => z.2 oc rfl).symm, hn⟩, fun a ps q => s.ntb a ps ((x a _ fun z => z.1 ps rfl).1 q)⟩
theorem SimMu.frz_iff {T : Cfg} {μ : Mu} {Hb H : Hp} (s : SimMu T μ Hb H) {b : Addr} {m : MO} {u : HO} (hm : μ b = some m) (hu : ¬ NoTC u) : H b = some u ↔ Hb b = some u := by
  obtain ⟨n, o, ho, r⟩ := s b m hm
  exact ⟨fun e => by rw [ho] at e; cases e; exact absurd r.ntc hu, fun e => by rw [n] at e; cases e⟩
theorem upd_ntc {H : Hp} {p : Addr} {o : HO} (hp : ∀ u, H p = some u → NoTC u) (ho : NoTC o) : ∀ a u, ¬ NoTC u → (upd H p o a = some u ↔ H a = some u) := fun a u hu => by
  by_cases e : a = p
  · subst e
    rw [upd_same]
    exact ⟨fun q => absurd (Option.some.inj q ▸ ho) hu, fun q => absurd (hp u q) hu⟩
  · rw [upd_ne e]
structure Go (T : Cfg) (μ : Mu) (Hb H : Hp) (μ' : Mu) (Hb' H' : Hp) : Prop where
  ex : Ex Hb Hb'
  keep : ∀ a o, H a = some o → Hb a = none → μ a = none → (T.tbs = [] ∨ ∀ ps, o ≠ .tbl ps) → H' a = some o ∧ ((∀ xs, o ≠ .tup xs) → Hb' a = none)
  new : ∀ a m, μ' a = some m → μ a ≠ none ∨ H a = none
  alive : ∀ a o, H a = some o → ∃ o', H' a = some o'
  sub : Ex Hb' H'
  mu : SimMu T μ' Hb' H'
section
variable {T : Cfg} {μ μ1 μ2 : Mu} {Hb H Hb1 H1 Hb2 H2 : Hp}
theorem Go.refl (s : Ex Hb H) (m : SimMu T μ Hb H) : Go T μ Hb H μ Hb H :=
  ⟨Ex.refl _, fun _ _ h n _ _ => ⟨h, fun _ => n⟩, fun _ _ h => .inl (by rw [h]; simp), fun _ o h => ⟨o, h⟩, s, m⟩
theorem Go.trans (a : Go T μ Hb H μ1 Hb1 H1) (b : Go T μ1 Hb1 H1 μ2 Hb2 H2) : Go T μ Hb H μ2 Hb2 H2 where
  ex := a.ex.trans b.ex
  keep := fun c o h n m nt => by
    obtain ⟨h1, n1⟩ := a.keep c o h n m nt
    have m1 : μ1 c = none := by
      cases e : μ1 c with
      | none => rfl
      | some z =>
        rcases a.new c z e with q | q
        · exact absurd m q
        · rw [h] at q; cases q
    cases hb : Hb1 c with
    | none => exact b.keep c o h1 hb m1 nt
    | some o' =>
      have eo : o' = o := by
        have := a.sub c o' hb
        rw [h1] at this
        exact (Option.some.inj this).symm
      subst eo
      refine ⟨b.sub c _ (b.ex c _ hb), fun nt => ?_⟩
      rw [n1 nt] at hb
      cases hb
  new := fun c z h => by
    have dead : H1 c = none → H c = none := fun q => by
      cases e : H c with
      | none => rfl
      | some o =>
        obtain ⟨o', e'⟩ := a.alive c o e
        rw [q] at e'; cases e'
    rcases b.new c z h with q | q
    · cases e : μ1 c with
      | none => exact absurd e q
      | some y => exact a.new c y e
    · exact .inr (dead q)
  alive := fun c o h => by
    obtain ⟨o', e⟩ := a.alive c o h
    exact b.alive c o' e
  sub := b.sub
  mu := b.mu
theorem Go.lay (s : Ex Hb H) (m : SimMu T μ Hb H) {p : Addr} {o : HO} (hp : H p = none) (ho : NoTC o := by exact ⟨fun _ z => (nomatch z), fun _ z => (nomatch z)⟩) : Go T μ Hb H μ (upd Hb p o) (upd H p o) := by
  have hb : Hb p = none := fresh_back s hp
  refine ⟨Evl.Ex.new hb, fun a u h n _ _ => ?_, fun _ _ h => .inl (by rw [h]; simp), fun a u h => ?_, fun a u h => ?_, m.up (fun a u n q => (upd_ntc (fun u q => by rw [hp] at q; cases q) ho a u n).2 q) (upd_ntc (fun u q => by rw [hb] at q; cases q) ho) fun a z h => ?_⟩
  · have ne : a ≠ p := ne_of_none h hp
    rw [upd_ne ne, upd_ne ne]
    exact ⟨h, fun _ => n⟩
  · have ne : a ≠ p := ne_of_none h hp
    exact ⟨u, by rw [upd_ne ne]; exact h⟩
  · by_cases e : a = p
    · subst e; rw [upd_same] at h ⊢; exact h
    · rw [upd_ne e] at h ⊢; exact s a u h
  · obtain ⟨n, u, hu, r⟩ := m a z h
    have ne : a ≠ p := ne_of_none hu hp
    exact ⟨by rw [upd_ne ne]; exact n, u, by rw [upd_ne ne]; exact hu, r.mono (Evl.Ex.new hb)⟩
theorem Go.own (s : Ex Hb H) (m : SimMu T μ Hb H) {p : Addr} {o : HO} {z : MO} (hp : H p = none) (r : ObjRep T Hb z o) : Go T μ Hb H (put μ p z) Hb (upd H p o) := by
  have hb : Hb p = none := fresh_back s hp
  refine ⟨Ex.refl _, fun a u h n _ _ => ⟨by rw [upd_ne (ne_of_none h hp)]; exact h, fun _ => n⟩, fun a y h => ?_, fun a u h => ⟨u, by rw [upd_ne (ne_of_none h hp)]; exact h⟩, fun a u h => ?_, m.up (fun a u n q => (upd_ntc (fun u q => by rw [hp] at q; cases q) r.ntc a u n).2 q) (fun _ _ _ => Iff.rfl) fun a y h => ?_⟩
  · by_cases e : a = p
    · subst e; exact .inr hp
    · rw [put_ne e] at h; exact .inl (by rw [h]; simp)
  · rw [upd_ne (ne_of_none (s a u h) hp)]; exact s a u h
  · by_cases e : a = p
    · subst e
      rw [put_same] at h
      cases h
      exact ⟨hb, o, upd_same, r⟩
    · rw [put_ne e] at h
      obtain ⟨n, u, hu, q⟩ := m a y h
      exact ⟨n, u, by rw [upd_ne e]; exact hu, q⟩
theorem Go.chg (s : Ex Hb H) (m : SimMu T μ Hb H) {p : Addr} {o : HO} {z y : MO} (hp : μ p = some y) (r : ObjRep T Hb z o) : Go T μ Hb H (put μ p z) Hb (upd H p o) := by
  obtain ⟨hb, u0, hu0, r0⟩ := m p y hp
  refine ⟨Ex.refl _, fun a u h n w _ => ?_, fun a x h => ?_, fun a u h => ?_, fun a u h => ?_, m.up (fun a u n q => (upd_ntc (fun u q => by rw [hu0] at q; cases q; exact r0.ntc) r.ntc a u n).2 q) (fun _ _ _ => Iff.rfl) fun a x h => ?_⟩
  · have ne : a ≠ p := fun e => by subst e; rw [hp] at w; cases w
    exact ⟨by rw [upd_ne ne]; exact h, fun _ => n⟩
  · by_cases e : a = p
    · subst e; exact .inl (by rw [hp]; simp)
    · rw [put_ne e] at h; exact .inl (by rw [h]; simp)
  · by_cases e : a = p
    · subst e; exact ⟨o, upd_same⟩
    · exact ⟨u, by rw [upd_ne e]; exact h⟩
  · have ne : a ≠ p := fun e => by subst e; rw [h] at hb; cases hb
    rw [upd_ne ne]; exact s a u h
  · by_cases e : a = p
    · subst e
      rw [put_same] at h
      cases h
      exact ⟨hb, o, upd_same, r⟩
    · rw [put_ne e] at h
      obtain ⟨n, u, hu, q⟩ := m a x h
      exact ⟨n, u, by rw [upd_ne e]; exact hu, q⟩
theorem Go.freeze (s : Ex Hb H) (m : SimMu T μ Hb H) {p : Addr} {o : HO} {y : MO} (hp : μ p = some y) (ho : H p = some o) : Go T μ Hb H (del μ p) (upd Hb p o) H := by
  obtain ⟨hb, u0, hu0, r0⟩ := m p y hp
  have ex : Ex Hb (upd Hb p o) := Evl.Ex.new hb
  refine ⟨ex, fun a u h n w _ => ?_, fun a x h => ?_, fun a u h => ⟨u, h⟩, fun a u h => ?_, m.up (fun _ _ _ q => q) (upd_ntc (fun u q => by rw [hb] at q; cases q) (by rw [ho] at hu0; cases hu0; exact r0.ntc)) fun a x h => ?_⟩
  · have ne : a ≠ p := fun e => by subst e; rw [hp] at w; cases w
    exact ⟨h, fun _ => by rw [upd_ne ne]; exact n⟩
  · unfold del at h
    split at h
    · cases h
    · exact .inl (by rw [h]; simp)
  · by_cases e : a = p
    · subst e; rw [upd_same] at h; cases h; exact ho
    · rw [upd_ne e] at h; exact s a u h
  · unfold del at h
    split at h
    · cases h
    · rename_i e
      obtain ⟨n, u, hu, q⟩ := m a x h
      exact ⟨by rw [upd_ne e]; exact n, u, hu, q.mono ex⟩
end
theorem ObjRep.notTup {T : Cfg} {Hb : Hp} {m : MO} {o : HO} (r : ObjRep T Hb m o) (xs : List V) : o ≠ .tup xs := fun e => by
  subst e
  cases m <;> first
    | exact r
    | (obtain ⟨h1, od, fs, h2, h3⟩ := r; rw [h2] at h1; cases h1)
    | (obtain ⟨h1, _⟩ := r; exact HO.noConfusion h1)
    | exact HO.noConfusion r
theorem Go.keepN {T : Cfg} {μ μ' : Mu} {Hb H Hb' H' Hc : Hp} {a : Addr} {o : HO} {m : MO} (g : Go T μ Hb H μ' Hb' H') (h : H a = some o) (hb : Hb a = none) (hm : μ a = none) (r : ObjRep T Hc m o) : H' a = some o ∧ Hb' a = none :=
  ⟨(g.keep a o h hb hm (.inr r.ntc.1)).1, (g.keep a o h hb hm (.inr r.ntc.1)).2 r.notTup⟩
theorem Go.tup {T : Cfg} {μ : Mu} {Hb H : Hp} (s : Ex Hb H) (m : SimMu T μ Hb H) {p : Addr} {xs : List V} (hp : H p = some (.tup xs)) : Go T μ Hb H μ (upd Hb p (.tup xs)) H := by
  have ex : Ex Hb (upd Hb p (.tup xs)) := fun a o h => by
    by_cases e : a = p
    · subst e
      have := s a o h
      rw [hp] at this
      rw [upd_same]
      exact this
    · rw [upd_ne e]; exact h
  refine ⟨ex, fun a u h n w _ => ⟨h, fun nt => ?_⟩, fun a x h => .inl (by rw [h]; simp), fun a u h => ⟨u, h⟩, fun a u h => ?_, m.up (fun _ _ _ q => q) (upd_ntc (fun u q => by have := s p u q; rw [hp] at this; cases this; exact ⟨fun _ z => (nomatch z), fun _ z => (nomatch z)⟩) ⟨fun _ z => (nomatch z), fun _ z => (nomatch z)⟩) fun a x h => ?_⟩
  · have ne : a ≠ p := fun e => by subst e; rw [hp] at h; exact nt xs (Option.some.inj h).symm
    rw [upd_ne ne]; exact n
  · by_cases e : a = p
    · subst e; rw [upd_same] at h; cases h; exact hp
    · rw [upd_ne e] at h; exact s a u h
  · obtain ⟨n, u, hu, r⟩ := m a x h
    have ne : a ≠ p := fun e => by
      subst e
      rw [hp] at hu
      exact r.notTup xs (Option.some.inj hu).symm
    exact ⟨by rw [upd_ne ne]; exact n, u, hu, r.mono ex⟩
structure S where
  r : List (Option D)
  m : Mu
structure Sim (T : Cfg) (s : S) (σ : L2.St) (Hb H : Hp) : Prop where
  len : s.r.length = σ.length
  vars : ∀ (i : Nat) (d : D), s.r[i]? = some (some d) → ∃ v, σ[i]? = some (some v) ∧ Rep T Hb d v
  sub : Ex Hb H
  mu : SimMu T s.m Hb H
section
variable {T : Cfg} {s : S} {ρ : List (Option D)} {m0 : Mu} {σ : L2.St} {Hb H Hb' H' : Hp} {μ' : Mu}
theorem Sim.refl (h : Sim T s σ Hb H) : Go T s.m Hb H s.m Hb H := .refl h.sub h.mu
theorem Sim.go (h : Sim T s σ Hb H) (g : Go T s.m Hb H μ' Hb' H') : Sim T ⟨s.r, μ'⟩ σ Hb' H' :=
  ⟨h.len, fun i d e => by obtain ⟨v, a, b⟩ := h.vars i d e; exact ⟨v, a, b.mono g.ex⟩, g.sub, g.mu⟩
theorem Sim.set (h : Sim T s σ Hb H) (i : Nat) {d : D} {v : V} (r : Rep T Hb d v) : Sim T ⟨s.r.set i (some d), s.m⟩ (σ.set i (some v)) Hb H := by
  refine ⟨by simp [h.len], fun j e a => ?_, h.sub, h.mu⟩
  have a : (s.r.set i (some d))[j]? = some (some e) := a
  rw [List.getElem?_set] at a
  rw [List.getElem?_set]
  split at a
  · rename_i hij
    rw [if_pos hij]
    split at a
    · rename_i hl
      rw [if_pos (by rw [← h.len]; exact hl)]
      cases a
      exact ⟨v, rfl, r⟩
    · cases a
  · rename_i hij
    rw [if_neg hij]
    exact h.vars j e a
end
structure XD where
  cls : Value
  val : Option (Str × D)
def RepX (T : Cfg) (Hb : Hp) (x : XD) (cls : Value) (dd : Option Addr) : Prop :=
  cls = x.cls ∧ match x.val with
  | none => dd = none
  | some (f, d) => ∃ a v, dd = some a ∧ Hb a = some (.xd [(f, v)]) ∧ Rep T Hb d v
abbrev XW := XD → Mu → Prop
def EV (T : Cfg) (te : TE) (W : WX) (s : S) (P : D → Mu → Prop) (XP : XW) : Prop :=
  ∀ σ Hb H Q, Sim T s σ Hb H → (∀ d μ' v Hb' H', Go T s.m Hb H μ' Hb' H' → Rep T Hb' d v → P d μ' → Q v H') →
    (∀ x μ' cls dd Hb' H', Go T s.m Hb H μ' Hb' H' → RepX T Hb' x cls dd → XP x μ' → W cls dd σ H') → te σ H Q
def EA (T : Cfg) (ta : TA) (W : WX) (s : S) (P : List D → Mu → Prop) (XP : XW) : Prop :=
  ∀ σ Hb H Q, Sim T s σ Hb H → (∀ ds μ' vs Hb' H', Go T s.m Hb H μ' Hb' H' → RepL T Hb' ds vs → P ds μ' → Q vs H') →
    (∀ x μ' cls dd Hb' H', Go T s.m Hb H μ' Hb' H' → RepX T Hb' x cls dd → XP x μ' → W cls dd σ H') → ta σ H Q
def TV (T : Cfg) (tt : TT) (W : WX) (s : S) (P : Bool → Mu → Prop) (XP : XW) : Prop :=
  ∀ σ Hb H Q, Sim T s σ Hb H → (∀ b μ' Hb' H', Go T s.m Hb H μ' Hb' H' → P b μ' → Q b H') →
    (∀ x μ' cls dd Hb' H', Go T s.m Hb H μ' Hb' H' → RepX T Hb' x cls dd → XP x μ' → W cls dd σ H') → tt σ H Q
def OV' (T : Cfg) (to : TO) (W : WX) (s : S) (P : Option Int → Mu → Prop) (XP : XW) : Prop :=
  ∀ σ Hb H Q, Sim T s σ Hb H → (∀ o μ' Hb' H', Go T s.m Hb H μ' Hb' H' → P o μ' → Q o H') →
    (∀ x μ' cls dd Hb' H', Go T s.m Hb H μ' Hb' H' → RepX T Hb' x cls dd → XP x μ' → W cls dd σ H') → to σ H Q
def OV (T : Cfg) (r : R2) (d e : D) (μ : Mu) (P : D → Mu → Prop) : Prop :=
  ∀ x y Hb H Q, Ex Hb H → SimMu T μ Hb H → Rep T Hb d x → Rep T Hb e y → (∀ z μ' v Hb' H', Go T μ Hb H μ' Hb' H' → Rep T Hb' z v → P z μ' → Q v H') → r x y H Q
def UV (T : Cfg) (r : V → Hp → VK → Prop) (d : D) (μ : Mu) (P : D → Mu → Prop) : Prop :=
  ∀ x Hb H Q, Ex Hb H → SimMu T μ Hb H → Rep T Hb d x → (∀ z μ' v Hb' H', Go T μ Hb H μ' Hb' H' → Rep T Hb' z v → P z μ' → Q v H') → r x H Q
def CV (T : Cfg) (r : List V → Hp → VK → Prop) (ds : List D) (μ : Mu) (P : D → Mu → Prop) : Prop :=
  ∀ xs Hb H Q, Ex Hb H → SimMu T μ Hb H → RepL T Hb ds xs → (∀ z μ' v Hb' H', Go T μ Hb H μ' Hb' H' → Rep T Hb' z v → P z μ' → Q v H') → r xs H Q
section
variable {T : Cfg} {W : WX} {s : S} {ρ : List (Option D)} {m0 : Mu} {P : D → Mu → Prop} {XP : XW} {ta tb te : TE}
theorem EV.imp {P' : D → Mu → Prop} (h : EV T te W s P XP) (k : ∀ d μ, P d μ → P' d μ) : EV T te W s P' XP := fun σ Hb H Q S q x => h σ Hb H Q S (fun d μ' v Hb' H' g r p => q d μ' v Hb' H' g r (k d μ' p)) x
theorem ev_var {i : Nat} {d : D} (h : ρ[i]? = some (some d)) (p : P d m0) : EV T (tVar i) W ⟨ρ, m0⟩ P XP := fun σ Hb H Q S q _ => by
  obtain ⟨v, e, r⟩ := S.vars i d h
  exact ⟨v, e, q d m0 v Hb H S.refl r p⟩
theorem ev_int {i : Int} (p : P (.int i) m0) : EV T (tC (.int i)) W ⟨ρ, m0⟩ P XP := fun σ Hb H Q S q _ => q _ _ _ _ _ S.refl (.int i) p
theorem ev_bl {i : Bool} (p : P (.bl i) m0) : EV T (tC (.bl i)) W ⟨ρ, m0⟩ P XP := fun σ Hb H Q S q _ => q _ _ _ _ _ S.refl (.bl i) p
theorem ev_str {i : Str} (p : P (.str i) m0) : EV T (tC (.str i)) W ⟨ρ, m0⟩ P XP := fun σ Hb H Q S q _ => q _ _ _ _ _ S.refl (.str i) p
theorem ev_non (p : P .non m0) : EV T (tC .non) W ⟨ρ, m0⟩ P XP := fun σ Hb H Q S q _ => q _ _ _ _ _ S.refl .non p
theorem ev_ty {n : String} (p : P (.ty n) m0) : EV T (tC (.ty n)) W ⟨ρ, m0⟩ P XP := fun σ Hb H Q S q _ => q _ _ _ _ _ S.refl (.ty n) p
theorem ev_ref {a : Addr} (p : P (.ptr a) m0) : EV T (tC (.ref a)) W ⟨ρ, m0⟩ P XP := fun σ Hb H Q S q _ => q _ _ _ _ _ S.refl (.ptr a) p
theorem ev_op {r : R2} (h : EV T ta W ⟨ρ, m0⟩ (fun d μ1 => EV T tb W ⟨ρ, μ1⟩ (fun e μ2 => OV T r d e μ2 P) XP) XP) : EV T (tOp r ta tb) W ⟨ρ, m0⟩ P XP := fun σ Hb H Q S q x =>
  h σ Hb H _ S (fun d μ1 v Hb1 H1 g1 r1 p1 => p1 σ Hb1 H1 _ (S.go g1) (fun e μ2 w Hb2 H2 g2 r2 p2 =>
    p2 v w Hb2 H2 Q g2.sub g2.mu (r1.mono g2.ex) r2 fun z μ' u Hb' H' g3 r3 p3 => q z μ' u Hb' H' ((g1.trans g2).trans g3) r3 p3)
    (fun y μ' cls dd Hb' H' g r p => x y μ' cls dd Hb' H' (g1.trans g) r p)) x
theorem ev_un {r : V → Hp → VK → Prop} (h : EV T ta W ⟨ρ, m0⟩ (fun d μ1 => UV T r d μ1 P) XP) : EV T (tUn r ta) W ⟨ρ, m0⟩ P XP := fun σ Hb H Q S q x =>
  h σ Hb H _ S (fun d μ1 v Hb1 H1 g1 r1 p1 => p1 v Hb1 H1 Q g1.sub g1.mu r1 fun z μ' u Hb' H' g3 r3 p3 => q z μ' u Hb' H' (g1.trans g3) r3 p3) x
theorem ea_nil {P : List D → Mu → Prop} (p : P [] m0) : EA T tNil W ⟨ρ, m0⟩ P XP := fun σ Hb H Q S q _ => q [] _ [] _ _ S.refl .nil p
theorem ea_cons {tr : TA} {P : List D → Mu → Prop} (h : EV T ta W ⟨ρ, m0⟩ (fun d μ1 => EA T tr W ⟨ρ, μ1⟩ (fun ds μ2 => P (d :: ds) μ2) XP) XP) : EA T (tCons ta tr) W ⟨ρ, m0⟩ P XP := fun σ Hb H Q S q x =>
  h σ Hb H _ S (fun d μ1 v Hb1 H1 g1 r1 p1 => p1 σ Hb1 H1 _ (S.go g1) (fun ds μ2 vs Hb2 H2 g2 r2 p2 => q (d :: ds) μ2 (v :: vs) Hb2 H2 (g1.trans g2) (.cons (r1.mono g2.ex) r2) p2)
    (fun y μ' cls dd Hb' H' g r p => x y μ' cls dd Hb' H' (g1.trans g) r p)) x
theorem ev_cb {r : List V → Hp → VK → Prop} {ta : TA} (h : EA T ta W ⟨ρ, m0⟩ (fun ds μ1 => CV T r ds μ1 P) XP) : EV T (tCB r ta) W ⟨ρ, m0⟩ P XP := fun σ Hb H Q S q x =>
  h σ Hb H _ S (fun ds μ1 vs Hb1 H1 g1 r1 p1 => p1 vs Hb1 H1 Q g1.sub g1.mu r1 fun z μ' u Hb' H' g3 r3 p3 => q z μ' u Hb' H' (g1.trans g3) r3 p3) x
theorem ev_lst {ta : TA} (h : EA T ta W ⟨ρ, m0⟩ (fun ds μ1 => ds.length ≤ 100000 ∧ P (.lst ds) μ1) XP) : EV T (tLst ta) W ⟨ρ, m0⟩ P XP := fun σ Hb H Q S q x =>
  h σ Hb H _ S (fun ds μ1 vs Hb1 H1 g1 r1 ⟨hl, p1⟩ => ⟨by rw [← r1.1]; exact Evl.sz_of hl, fun p hp => by
    have g := Go.lay g1.sub g1.mu (o := .lst vs) hp
    exact q _ _ _ _ _ (g1.trans g) (.lst upd_same r1.1 (r1.mono g.ex).2) p1⟩) x
theorem ev_tup {ta : TA} (h : EA T ta W ⟨ρ, m0⟩ (fun ds μ1 => ds.length ≤ 100000 ∧ P (.tup ds) μ1) XP) : EV T (tTup ta) W ⟨ρ, m0⟩ P XP := fun σ Hb H Q S q x =>
  h σ Hb H _ S (fun ds μ1 vs Hb1 H1 g1 r1 ⟨hl, p1⟩ => ⟨by rw [← r1.1]; exact Evl.sz_of hl, fun p hp => by
    have g := Go.lay g1.sub g1.mu (o := .tup vs) hp
    exact q _ _ _ _ _ (g1.trans g) (.tup (Evl.st_of upd_same) r1.1 (r1.mono g.ex).2) p1⟩) x
theorem ev_lstM {ta : TA} (h : EA T ta W ⟨ρ, m0⟩ (fun ds μ1 => ds.length ≤ 100000 ∧ ∀ p, μ1 p = none → P (.ptr p) (put μ1 p (.lst ds))) XP) : EV T (tLst ta) W ⟨ρ, m0⟩ P XP := fun σ Hb H Q S q x =>
  h σ Hb H _ S (fun ds μ1 vs Hb1 H1 g1 r1 ⟨hl, p1⟩ => ⟨by rw [← r1.1]; exact Evl.sz_of hl, fun p hp => by
    have g := Go.own g1.sub g1.mu (o := .lst vs) (z := .lst ds) hp r1
    refine q _ _ _ _ _ (g1.trans g) (.ptr p) (p1 p ?_)
    cases e : μ1 p with
    | none => rfl
    | some m =>
      obtain ⟨_, o, ho, _⟩ := g1.mu p m e
      rw [hp] at ho; cases ho⟩) x
theorem ev_fld {f : Str} (h : EV T ta W ⟨ρ, m0⟩ (fun d μ1 => ∃ c gs e, d = .ins c gs ∧ Cls T.K (T.cls c) ∧ NoAttr T.K (T.cls c) f ∧ gs.lookup f = some e ∧ P e μ1) XP) : EV T (tFld T.K ta f) W ⟨ρ, m0⟩ P XP := fun σ Hb H Q S q x =>
  h σ Hb H _ S (fun d μ1 v Hb1 H1 g1 r1 p1 => by
    obtain ⟨c, gs, e, rfl, hc, hn, hl, p⟩ := p1
    obtain ⟨a, dx, fs, rfl, ha, r⟩ := r1.ins_inv
    obtain ⟨v, hv, rv⟩ := r.look hl
    exact ⟨a, T.cls c, dx, fs, v, rfl, g1.sub _ _ ha, hc, hn, hv, q e μ1 v Hb1 H1 g1 rv p⟩) x
theorem ev_fldM {f : Str} (h : EV T ta W ⟨ρ, m0⟩ (fun d μ1 => ∃ a c gs e, d = .ptr a ∧ μ1 a = some (.ins c gs) ∧ Cls T.K (T.cls c) ∧ NoAttr T.K (T.cls c) f ∧ gs.lookup f = some e ∧ P e μ1) XP) : EV T (tFld T.K ta f) W ⟨ρ, m0⟩ P XP := fun σ Hb H Q S q x =>
  h σ Hb H _ S (fun d μ1 v Hb1 H1 g1 r1 p1 => by
    obtain ⟨a, c, gs, e, rfl, hm, hc, hn, hl, p⟩ := p1
    cases r1
    obtain ⟨_, o, ho, r⟩ := g1.mu a _ hm
    cases o with
    | ins C dx fs =>
      obtain ⟨rfl, r⟩ := r
      obtain ⟨v, hv, rv⟩ := r.look hl
      exact ⟨a, T.cls c, dx, fs, v, rfl, ho, hc, hn, hv, q e μ1 v Hb1 H1 g1 rv p⟩
    | _ => exact r.elim) x
theorem ev_if {t : TT} (h : TV T t W ⟨ρ, m0⟩ (fun b μ1 => (b = true → EV T ta W ⟨ρ, μ1⟩ P XP) ∧ (b = false → EV T tb W ⟨ρ, μ1⟩ P XP)) XP) : EV T (tIf t ta tb) W ⟨ρ, m0⟩ P XP := fun σ Hb H Q S q x =>
  h σ Hb H _ S (fun b μ1 Hb1 H1 g1 ⟨p1, p2⟩ => by
    cases b with
    | true =>
      show ta σ H1 Q
      exact p1 rfl σ Hb1 H1 Q (S.go g1) (fun d μ' v Hb' H' g r p => q d μ' v Hb' H' (g1.trans g) r p) (fun y μ' cls dd Hb' H' g r p => x y μ' cls dd Hb' H' (g1.trans g) r p)
    | false =>
      show tb σ H1 Q
      exact p2 rfl σ Hb1 H1 Q (S.go g1) (fun d μ' v Hb' H' g r p => q d μ' v Hb' H' (g1.trans g) r p) (fun y μ' cls dd Hb' H' g r p => x y μ' cls dd Hb' H' (g1.trans g) r p)) x
theorem ev_and (h : EV T ta W ⟨ρ, m0⟩ (fun d μ1 => ∃ b, d = .bl b ∧ (b = true → EV T tb W ⟨ρ, μ1⟩ P XP) ∧ (b = false → P (.bl false) μ1)) XP) : EV T (tAndV ta tb) W ⟨ρ, m0⟩ P XP := fun σ Hb H Q S q x =>
  h σ Hb H _ S (fun d μ1 v Hb1 H1 g1 r1 p1 => by
    obtain ⟨b, rfl, p1, p2⟩ := p1
    cases r1
    refine ⟨b, rfl, ?_⟩
    cases b with
    | true =>
      show tb σ H1 Q
      exact p1 rfl σ Hb1 H1 Q (S.go g1) (fun d μ' v Hb' H' g r p => q d μ' v Hb' H' (g1.trans g) r p) (fun y μ' cls dd Hb' H' g r p => x y μ' cls dd Hb' H' (g1.trans g) r p)
    | false => exact q _ _ _ _ _ g1 (.bl false) (p2 rfl)) x
theorem ev_or (h : EV T ta W ⟨ρ, m0⟩ (fun d μ1 => ∃ b, d = .bl b ∧ (b = false → EV T tb W ⟨ρ, μ1⟩ P XP) ∧ (b = true → P (.bl true) μ1)) XP) : EV T (tOrV ta tb) W ⟨ρ, m0⟩ P XP := fun σ Hb H Q S q x =>
  h σ Hb H _ S (fun d μ1 v Hb1 H1 g1 r1 p1 => by
    obtain ⟨b, rfl, p1, p2⟩ := p1
    cases r1
    refine ⟨b, rfl, ?_⟩
    cases b with
    | false =>
      show tb σ H1 Q
      exact p1 rfl σ Hb1 H1 Q (S.go g1) (fun d μ' v Hb' H' g r p => q d μ' v Hb' H' (g1.trans g) r p) (fun y μ' cls dd Hb' H' g r p => x y μ' cls dd Hb' H' (g1.trans g) r p)
    | true => exact q _ _ _ _ _ g1 (.bl true) (p2 rfl)) x
theorem ev_not (h : EV T ta W ⟨ρ, m0⟩ (fun d μ1 => ∃ b, d = .bl b ∧ P (.bl (!b)) μ1) XP) : EV T (tNotV ta) W ⟨ρ, m0⟩ P XP := fun σ Hb H Q S q x =>
  h σ Hb H _ S (fun d μ1 v Hb1 H1 g1 r1 p1 => by
    obtain ⟨b, rfl, p⟩ := p1
    cases r1
    exact ⟨b, rfl, q _ _ _ _ _ g1 (.bl _) p⟩) x
theorem tv_test {P : Bool → Mu → Prop} (h : EV T te W ⟨ρ, m0⟩ (fun d μ1 => ∃ b, d = .bl b ∧ P b μ1) XP) : TV T (tTest te) W ⟨ρ, m0⟩ P XP := fun σ Hb H Q S q x =>
  h σ Hb H _ S (fun d μ1 v Hb1 H1 g1 r1 p1 => by
    obtain ⟨b, rfl, p⟩ := p1
    cases r1
    exact ⟨b, rfl, q _ _ _ _ g1 p⟩) x
theorem tv_B {P : Bool → Mu → Prop} (h : EV T te W ⟨ρ, m0⟩ (fun d μ1 => ∃ b, d = .bl b ∧ P b μ1) XP) : TV T (tB te) W ⟨ρ, m0⟩ P XP := fun σ Hb H Q S q x =>
  h σ Hb H _ S (fun d μ1 v Hb1 H1 g1 r1 p1 => by
    obtain ⟨b, rfl, p⟩ := p1
    cases r1
    exact ⟨b, rfl, q _ _ _ _ g1 p⟩) x
theorem tv_and {t u : TT} {P : Bool → Mu → Prop} (h : TV T t W ⟨ρ, m0⟩ (fun b μ1 => (b = true → TV T u W ⟨ρ, μ1⟩ P XP) ∧ (b = false → P false μ1)) XP) : TV T (tAnd t u) W ⟨ρ, m0⟩ P XP := fun σ Hb H Q S q x =>
  h σ Hb H _ S (fun b μ1 Hb1 H1 g1 ⟨p1, p2⟩ => by
    cases b with
    | true =>
      show u σ H1 Q
      exact p1 rfl σ Hb1 H1 Q (S.go g1) (fun d μ' Hb' H' g p => q d μ' Hb' H' (g1.trans g) p) (fun y μ' cls dd Hb' H' g r p => x y μ' cls dd Hb' H' (g1.trans g) r p)
    | false => exact q _ _ _ _ g1 (p2 rfl)) x
theorem tv_or {t u : TT} {P : Bool → Mu → Prop} (h : TV T t W ⟨ρ, m0⟩ (fun b μ1 => (b = false → TV T u W ⟨ρ, μ1⟩ P XP) ∧ (b = true → P true μ1)) XP) : TV T (tOr t u) W ⟨ρ, m0⟩ P XP := fun σ Hb H Q S q x =>
  h σ Hb H _ S (fun b μ1 Hb1 H1 g1 ⟨p1, p2⟩ => by
    cases b with
    | false =>
      show u σ H1 Q
      exact p1 rfl σ Hb1 H1 Q (S.go g1) (fun d μ' Hb' H' g p => q d μ' Hb' H' (g1.trans g) p) (fun y μ' cls dd Hb' H' g r p => x y μ' cls dd Hb' H' (g1.trans g) r p)
    | true => exact q _ _ _ _ g1 (p2 rfl)) x
theorem tv_not {t : TT} {P : Bool → Mu → Prop} (h : TV T t W ⟨ρ, m0⟩ (fun b μ1 => P (!b) μ1) XP) : TV T (tNot t) W ⟨ρ, m0⟩ P XP := fun σ Hb H Q S q x =>
  h σ Hb H _ S (fun b μ1 Hb1 H1 g1 p => q _ _ _ _ g1 p) x
theorem tv_yes {P : Bool → Mu → Prop} (p : P true m0) : TV T tYes W ⟨ρ, m0⟩ P XP := fun σ Hb H Q S q _ => q _ _ _ _ S.refl p
theorem po_no {P : Option Int → Mu → Prop} (p : P none m0) : OV' T tNoPart W ⟨ρ, m0⟩ P XP := fun σ Hb H Q S q _ => q _ _ _ _ S.refl p
theorem po_so {P : Option Int → Mu → Prop} (h : EV T te W ⟨ρ, m0⟩ (fun d μ1 => ∃ i, d = .int i ∧ P (some i) μ1) XP) : OV' T (tPart te) W ⟨ρ, m0⟩ P XP := fun σ Hb H Q S q x =>
  h σ Hb H _ S (fun d μ1 v Hb1 H1 g1 r1 p1 => by
    obtain ⟨i, rfl, p⟩ := p1
    cases r1
    exact ⟨i, rfl, q _ _ _ _ g1 p⟩) x
end
end Pw
namespace Pw
open PySem PySem.Spec PyProof.Rows L2
open Evl (Ex ex_l ex_t fresh_back)
inductive Out where
  | nx (s : S) | rt (d : D) (m : Mu) | bk (s : S) | ct (s : S) | xr (x : XD) (s : S)
structure Cn (T : Cfg) (W : WX) (m : Mu) (Hb H : Hp) (Dn : Ends) (K : Out → Prop) : Prop where
  nx : ∀ s' σ' Hb' H', Go T m Hb H s'.m Hb' H' → Sim T s' σ' Hb' H' → K (.nx s') → Dn.nx σ' H'
  rt : ∀ d μ' v Hb' H', Go T m Hb H μ' Hb' H' → Rep T Hb' d v → K (.rt d μ') → Dn.rt v H'
  bk : ∀ s' σ' Hb' H', Go T m Hb H s'.m Hb' H' → Sim T s' σ' Hb' H' → K (.bk s') → Dn.bk σ' H'
  ct : ∀ s' σ' Hb' H', Go T m Hb H s'.m Hb' H' → Sim T s' σ' Hb' H' → K (.ct s') → Dn.ct σ' H'
  xr : ∀ x s' cls dd σ' Hb' H', Go T m Hb H s'.m Hb' H' → Sim T s' σ' Hb' H' → RepX T Hb' x cls dd → K (.xr x s') → W cls dd σ' H'
def SV (T : Cfg) (ts : TS) (W : WX) (s : S) (K : Out → Prop) : Prop := ∀ σ Hb H Dn, Sim T s σ Hb H → Cn T W s.m Hb H Dn K → ts Dn σ H
section
variable {T : Cfg} {W : WX} {s : S} {ρ : List (Option D)} {m0 : Mu} {K : Out → Prop} {ta tb te : TE} {m m1 : Mu} {Hb H Hb1 H1 : Hp} {Dn : Ends}
theorem Cn.go (c : Cn T W m Hb H Dn K) (g : Go T m Hb H m1 Hb1 H1) : Cn T W m1 Hb1 H1 Dn K :=
  ⟨fun s' σ' Hb' H' g' S k => c.nx s' σ' Hb' H' (g.trans g') S k, fun d μ' v Hb' H' g' r k => c.rt d μ' v Hb' H' (g.trans g') r k, fun s' σ' Hb' H' g' S k => c.bk s' σ' Hb' H' (g.trans g') S k,
    fun s' σ' Hb' H' g' S k => c.ct s' σ' Hb' H' (g.trans g') S k, fun x s' cls dd σ' Hb' H' g' S r k => c.xr x s' cls dd σ' Hb' H' (g.trans g') S r k⟩
theorem SV.imp {ts : TS} {K' : Out → Prop} (h : SV T ts W s K) (k : ∀ o, K o → K' o) : SV T ts W s K' := fun σ Hb H Dn S c => h σ Hb H Dn S
  ⟨fun s' σ' Hb' H' g S q => c.nx s' σ' Hb' H' g S (k _ q), fun d μ' v Hb' H' g r q => c.rt d μ' v Hb' H' g r (k _ q), fun s' σ' Hb' H' g S q => c.bk s' σ' Hb' H' g S (k _ q),
    fun s' σ' Hb' H' g S q => c.ct s' σ' Hb' H' g S (k _ q), fun x s' cls dd σ' Hb' H' g S r q => c.xr x s' cls dd σ' Hb' H' g S r (k _ q)⟩
abbrev xk (s : S) (K : Out → Prop) : XW := fun x μ => K (.xr x ⟨s.r, μ⟩)
theorem Cn.x (c : Cn T W s.m Hb H Dn K) {σ : L2.St} (S : Sim T s σ Hb H) : ∀ x μ' cls dd Hb' H', Go T s.m Hb H μ' Hb' H' → RepX T Hb' x cls dd → xk s K x μ' → W cls dd σ H' :=
  fun x μ' cls dd Hb' H' g r k => c.xr x ⟨s.r, μ'⟩ cls dd σ Hb' H' g (S.go g) r k
def seqK (T : Cfg) (u : TS) (W : WX) (K : Out → Prop) : Out → Prop
  | .nx s' => SV T u W s' K
  | o => K o
theorem sv_seq {t u : TS} (h : SV T t W ⟨ρ, m0⟩ (seqK T u W K)) : SV T (tSeq t u) W ⟨ρ, m0⟩ K := fun σ Hb H Dn S c =>
  h σ Hb H { Dn with nx := u Dn } S ⟨fun s' σ' Hb' H' g S' k => k σ' Hb' H' Dn S' (c.go g), c.rt, c.bk, c.ct, c.xr⟩
theorem sv_next (k : K (.nx ⟨ρ, m0⟩)) : SV T tNext W ⟨ρ, m0⟩ K := fun σ Hb H Dn S c => c.nx ⟨ρ, m0⟩ σ Hb H S.refl S k
theorem sv_asg {i : Nat} (h : EV T te W ⟨ρ, m0⟩ (fun d μ => K (.nx ⟨ρ.set i (some d), μ⟩)) (xk ⟨ρ, m0⟩ K)) : SV T (tAsg te (gName i)) W ⟨ρ, m0⟩ K := fun σ Hb H Dn S c =>
  h σ Hb H _ S (fun d μ' v Hb' H' g r k => c.nx _ _ _ _ g ((S.go g).set i r) k) (c.x S)
theorem sv_ret (h : EV T te W ⟨ρ, m0⟩ (fun d μ => K (.rt d μ)) (xk ⟨ρ, m0⟩ K)) : SV T (tRet te) W ⟨ρ, m0⟩ K := fun σ Hb H Dn S c =>
  h σ Hb H _ S (fun d μ' v Hb' H' g r k => c.rt _ _ _ _ _ g r k) (c.x S)
theorem sv_drop (h : EV T te W ⟨ρ, m0⟩ (fun _ μ => K (.nx ⟨ρ, μ⟩)) (xk ⟨ρ, m0⟩ K)) : SV T (tDrop te) W ⟨ρ, m0⟩ K := fun σ Hb H Dn S c =>
  h σ Hb H _ S (fun d μ' v Hb' H' g r k => c.nx _ _ _ _ g (S.go g) k) (c.x S)
theorem sv_if {t : TT} {u v : TS} (h : TV T t W ⟨ρ, m0⟩ (fun b μ => (b = true → SV T u W ⟨ρ, μ⟩ K) ∧ (b = false → SV T v W ⟨ρ, μ⟩ K)) (xk ⟨ρ, m0⟩ K)) : SV T (tIfS t u v) W ⟨ρ, m0⟩ K := fun σ Hb H Dn S c =>
  h σ Hb H _ S (fun b μ' Hb' H' g ⟨k1, k2⟩ => by
    cases b with
    | true => exact k1 rfl σ Hb' H' Dn (S.go g) (c.go g)
    | false => exact k2 rfl σ Hb' H' Dn (S.go g) (c.go g)) (c.x S)
theorem sv_par {i j : Nat} {ta : TA} (h : EA T ta W ⟨ρ, m0⟩ (fun ds μ => ∃ d e, ds = [d, e] ∧ K (.nx ⟨(ρ.set i (some d)).set j (some e), μ⟩)) (xk ⟨ρ, m0⟩ K)) : SV T (tPar i j ta) W ⟨ρ, m0⟩ K := fun σ Hb H Dn S c =>
  h σ Hb H _ S (fun ds μ' vs Hb' H' g r k => by
    obtain ⟨d, e, rfl, k⟩ := k
    obtain ⟨v, ys, rfl, r1, r⟩ := r.cons_inv
    obtain ⟨w, zs, rfl, r2, r⟩ := r.cons_inv
    obtain rfl := r.nil_inv
    have S1 := ((S.go g).set i r1)
    have S2 := S1.set j (d := e) (v := w) r2
    exact ⟨v, w, rfl, c.nx _ _ _ _ g S2 k⟩) (c.x S)
def GV (T : Cfg) (g : TG) (is : List Nat) (d : D) (s : S) (K : S → Prop) : Prop := ∀ x σ Hb H Kt, Sim T s σ Hb H → Rep T Hb d x →
  (∀ s' σ', s'.m = s.m → Sim T s' σ' Hb H → (∀ vs, (∀ i ∈ is, i ∈ vs) → wipe σ' vs = wipe σ vs) → K s' → Kt σ' H) → g x σ H Kt
def GVs (T : Cfg) (g : TGs) (is : List Nat) (ds : List D) (s : S) (K : S → Prop) : Prop := ∀ xs σ Hb H Kt, Sim T s σ Hb H → RepL T Hb ds xs →
  (∀ s' σ', s'.m = s.m → Sim T s' σ' Hb H → (∀ vs, (∀ i ∈ is, i ∈ vs) → wipe σ' vs = wipe σ vs) → K s' → Kt σ' H) → g xs σ H Kt
theorem wipe_set {σ : L2.St} {i : Nat} {x : Option V} : ∀ {vs : List Nat}, i ∈ vs → wipe (σ.set i x) vs = wipe σ vs
  | [], h => by cases h
  | v :: vs, h => by
    unfold wipe
    by_cases e : v = i
    · subst e
      by_cases hi : v ∈ vs
      · rw [wipe_set hi]
      · have comm : ∀ (vs : List Nat), v ∉ vs → wipe (σ.set v x) vs = (wipe σ vs).set v x := by
          intro vs
          induction vs with
          | nil => intro _; rfl
          | cons u us ih =>
            intro hu
            simp only [List.mem_cons, not_or] at hu
            unfold wipe
            rw [ih hu.2, List.set_comm _ _ (fun z => hu.1 z)]
        rw [comm vs hi, List.set_set]
    · have hi : i ∈ vs := by
        rcases List.mem_cons.mp h with z | z
        · exact absurd z.symm e
        · exact z
      rw [wipe_set hi]
theorem gv_name {i : Nat} {d : D} {K : S → Prop} (k : K ⟨ρ.set i (some d), m0⟩) : GV T (gName i) [i] d ⟨ρ, m0⟩ K := fun x σ Hb H Kt S r q =>
  q ⟨ρ.set i (some d), m0⟩ _ rfl (S.set i r) (fun vs hv => wipe_set (hv i (by simp))) k
theorem gvs_nil {K : S → Prop} (k : K ⟨ρ, m0⟩) : GVs T gNil [] [] ⟨ρ, m0⟩ K := fun xs σ Hb H Kt S r q => by
  obtain rfl := r.nil_inv
  exact ⟨rfl, q ⟨ρ, m0⟩ σ rfl S (fun _ _ => rfl) k⟩
theorem gvs_cons {g : TG} {gs : TGs} {is js : List Nat} {d : D} {ds : List D} {K : S → Prop} (h : GV T g is d ⟨ρ, m0⟩ (fun s' => GVs T gs js ds s' K)) : GVs T (gCons g gs) (is ++ js) (d :: ds) ⟨ρ, m0⟩ K := fun xs σ Hb H Kt S r q => by
  obtain ⟨v, ys, rfl, r1, r2⟩ := r.cons_inv
  refine ⟨v, ys, rfl, h v σ Hb H _ S r1 fun s' σ' em S' w k => ?_⟩
  refine k ys σ' Hb H Kt S' r2 fun s'' σ'' em' S'' w' k' => q s'' σ'' (em'.trans em) S'' (fun vs hv => ?_) k'
  rw [w' vs fun i hi => hv i (List.mem_append_right _ hi), w vs fun i hi => hv i (List.mem_append_left _ hi)]
theorem gv_tup {n : Nat} {gs : TGs} {is : List Nat} {ds : List D} {K : S → Prop} (hn : ds.length = n) (h : GVs T gs is ds ⟨ρ, m0⟩ K) : GV T (gTup T.K n gs) is (.tup ds) ⟨ρ, m0⟩ K := fun x σ Hb H Kt S r q => by
  obtain ⟨a, xs, rfl, hx, r⟩ := r.tup_inv
  exact ⟨a, xs, rfl, ex_t S.sub hx, by rw [← r.1]; exact hn, h xs σ Hb H Kt S r q⟩
theorem sv_asgG {g : TG} {is : List Nat} (h : EV T te W ⟨ρ, m0⟩ (fun d μ => GV T g is d ⟨ρ, μ⟩ (fun s' => K (.nx s'))) (xk ⟨ρ, m0⟩ K)) : SV T (tAsg te g) W ⟨ρ, m0⟩ K := fun σ Hb H Dn S c =>
  h σ Hb H _ S (fun d μ' v Hb' H' g' r k => k v σ Hb' H' _ (S.go g') r fun s' σ' em S' _ k' => c.nx s' σ' Hb' H' (by rw [em]; exact g') S' k') (c.x S)
theorem putF_rep {Hb : Hp} {gs : List (Str × D)} {fs : List (Str × V)} {f : Str} {d : D} {v : V} (h : RepP T Hb gs fs) (r : Rep T Hb d v) : RepP T Hb (putG f d gs) (putF f v fs) := by
  obtain ⟨h1, h2⟩ := h
  induction gs generalizing fs with
  | nil =>
    cases fs with
    | nil =>
      refine ⟨rfl, fun i g z a b => ?_⟩
      cases i with
      | zero =>
        simp [putG, putF] at a b
        subst a; subst b
        exact r
      | succ i => simp [putG] at a
    | cons _ _ => simp at h1
  | cons g gs ih =>
    cases fs with
    | nil => simp at h1
    | cons z fs =>
      obtain ⟨a, d'⟩ := g
      obtain ⟨b, v'⟩ := z
      simp only [List.map_cons, List.cons.injEq] at h1
      obtain ⟨e1, e2⟩ := h1
      have e1 : a = b := e1
      subst e1
      have h2t : ∀ (i : Nat) (g : Str × D) (f : Str × V), gs[i]? = some g → fs[i]? = some f → Rep T Hb g.2 f.2 := fun i g f a b => h2 (i + 1) g f (by simpa using a) (by simpa using b)
      have h20 : Rep T Hb d' v' := h2 0 (a, d') (a, v') rfl rfl
      unfold putG putF
      by_cases hf : a = f
      · rw [if_pos hf, if_pos hf]
        refine ⟨by simp [e2], fun i g z p q => ?_⟩
        cases i with
        | zero => simp at p q; subst p; subst q; exact r
        | succ i => exact h2t i g z (by simpa using p) (by simpa using q)
      · rw [if_neg hf, if_neg hf]
        obtain ⟨i1, i2⟩ := ih e2 h2t
        refine ⟨by simp [i1], fun i g z p q => ?_⟩
        cases i with
        | zero => simp at p q; subst p; subst q; exact h20
        | succ i => exact i2 i g z (by simpa using p) (by simpa using q)
theorem sv_fld {f : Str} {tv : TE} (h : EV T tv W ⟨ρ, m0⟩ (fun e μ1 => EV T ta W ⟨ρ, μ1⟩ (fun d μ2 => ∃ a c gs, d = .ptr a ∧ μ2 a = some (.ins c gs) ∧ Cls T.K (T.cls c) ∧ NoAttr T.K (T.cls c) f ∧ gs.length < 1000 ∧ K (.nx ⟨ρ, put μ2 a (.ins c (putG f e gs))⟩)) (xk ⟨ρ, m0⟩ K)) (xk ⟨ρ, m0⟩ K)) : SV T (sFld T.K ta tv f) W ⟨ρ, m0⟩ K := fun σ Hb H Dn S c =>
  h σ Hb H _ S (fun e μ1 v Hb1 H1 g1 r1 p1 => p1 σ Hb1 H1 _ (S.go g1) (fun d μ2 w Hb2 H2 g2 r2 p2 => by
    obtain ⟨a, cc, gs, rfl, hm, hc, hn, hl, k⟩ := p2
    cases r2
    obtain ⟨n, o, ho, r⟩ := g2.mu a _ hm
    cases o with
    | ins C dx fs =>
      obtain ⟨rfl, r⟩ := r
      have hz : fs.length < 1000 := by
        have := congrArg List.length r.1
        simp at this
        omega
      have g3 := Go.chg g2.sub g2.mu (p := a) (o := .ins (T.cls cc) dx (putF f v fs)) (z := .ins cc (putG f e gs)) hm ⟨rfl, putF_rep r (r1.mono g2.ex)⟩
      have g := (g1.trans g2).trans g3
      exact ⟨a, T.cls cc, dx, fs, rfl, ho, hc, hn, hz, c.nx _ _ _ _ g (S.go g) k⟩
    | _ => exact r.elim) (fun x μ' cls dd Hb' H' g r k => c.x S x μ' cls dd Hb' H' (g1.trans g) r k)) (c.x S)
theorem sv_app (h : EV T ta W ⟨ρ, m0⟩ (fun d μ1 => ∃ a ds0, d = .ptr a ∧ μ1 a = some (.lst ds0) ∧ EV T te W ⟨ρ, μ1⟩ (fun e μ2 => ∃ ds, μ2 a = some (.lst ds) ∧ ds.length < 100000 ∧ K (.nx ⟨ρ, put μ2 a (.lst (ds ++ [e]))⟩)) (xk ⟨ρ, m0⟩ K)) (xk ⟨ρ, m0⟩ K)) :
    SV T (tDrop (tBM T.K "list" rAppend ta (tCons te tNil))) W ⟨ρ, m0⟩ K := fun σ Hb H Dn S c => by
  refine h σ Hb H _ S (fun d μ1 v Hb1 H1 g1 r1 p1 => ?_) (c.x S)
  obtain ⟨a, ds0, rfl, hm, p1⟩ := p1
  cases r1
  obtain ⟨n, o, ho, r⟩ := g1.mu a _ hm
  cases o with
  | lst xs0 =>
    refine ⟨Or.inl ⟨rfl, xs0, Evl.sq_of ho⟩, ?_⟩
    refine p1 σ Hb1 H1 _ (S.go g1) (fun e μ2 w Hb2 H2 g2 r2 p2 => ?_) (fun x μ' cls dd Hb' H' g r k => c.x S x μ' cls dd Hb' H' (g1.trans g) r k)
    obtain ⟨ds, hm2, hl, k⟩ := p2
    obtain ⟨n2, o2, ho2, rr⟩ := g2.mu a _ hm2
    cases o2 with
    | lst xs =>
      have rr : RepL T Hb2 ds xs := rr
      have g3 := Go.chg g2.sub g2.mu (p := a) (o := .lst (xs ++ [w])) (z := .lst (ds ++ [e])) hm2 (rr.app (.cons r2 .nil))
      have g := (g1.trans g2).trans g3
      exact ⟨a, xs, w, rfl, rfl, ho2, Evl.sz_lt (by rw [← rr.1]; exact hl), c.nx _ _ _ _ g (S.go g) k⟩
    | _ => exact rr.elim
  | _ => exact r.elim
theorem sv_setL (h : EV T te W ⟨ρ, m0⟩ (fun e μ1 => EV T ta W ⟨ρ, μ1⟩ (fun d μ2 => EV T tb W ⟨ρ, μ2⟩ (fun i μ3 => ∃ a ds k j, d = .ptr a ∧ μ3 a = some (.lst ds) ∧ i = .int k ∧ ixN ds.length k = some j ∧ K (.nx ⟨ρ, put μ3 a (.lst (ds.set j e))⟩)) (xk ⟨ρ, m0⟩ K)) (xk ⟨ρ, m0⟩ K)) (xk ⟨ρ, m0⟩ K)) :
    SV T (tAsg te (gSub ta tb rSetL)) W ⟨ρ, m0⟩ K := fun σ Hb H Dn S c => by
  refine h σ Hb H _ S (fun e μ1 v Hb1 H1 g1 r1 p1 => ?_) (c.x S)
  refine p1 σ Hb1 H1 _ (S.go g1) (fun d μ2 w Hb2 H2 g2 r2 p2 => ?_) (fun x μ' cls dd Hb' H' g r k => c.x S x μ' cls dd Hb' H' (g1.trans g) r k)
  refine p2 σ Hb2 H2 _ (S.go (g1.trans g2)) (fun i μ3 u Hb3 H3 g3 r3 p3 => ?_) (fun x μ' cls dd Hb' H' g r k => c.x S x μ' cls dd Hb' H' ((g1.trans g2).trans g) r k)
  obtain ⟨a, ds, k, j, rfl, hm, rfl, hj, kk⟩ := p3
  cases r2
  cases r3
  obtain ⟨n, o, ho, rr⟩ := g3.mu a _ hm
  cases o with
  | lst xs =>
    have rr : RepL T Hb3 ds xs := rr
    have g4 := Go.chg g3.sub g3.mu (p := a) (o := .lst (xs.set j v)) (z := .lst (ds.set j e)) hm (rr.set ((r1.mono g2.ex).mono g3.ex))
    have g := ((g1.trans g2).trans g3).trans g4
    exact ⟨a, xs, k, j, rfl, rfl, ho, by rw [← rr.1]; exact hj, c.nx _ _ _ _ g (S.go g) kk⟩
  | _ => exact rr.elim
def whK (I : Nat → S → Prop) (n : Nat) (K : Out → Prop) : Out → Prop
  | .nx s' => ∃ n', n' < n ∧ I n' s'
  | .ct s' => ∃ n', n' < n ∧ I n' s'
  | .bk s' => K (.nx s')
  | o => K o
theorem sv_while {t : TT} {u : TS} (I : Nat → S → Prop) (n0 : Nat) (h0 : I n0 ⟨ρ, m0⟩)
    (hs : ∀ n s', I n s' → TV T t W s' (fun b μ => (b = true → SV T u W ⟨s'.r, μ⟩ (whK I n K)) ∧ (b = false → K (.nx ⟨s'.r, μ⟩))) (xk s' K)) : SV T (tWhile t u) W ⟨ρ, m0⟩ K := fun σ Hb H Dn S c => by
  refine ⟨fun n σ' H' => ∃ s' Hb', Go T m0 Hb H s'.m Hb' H' ∧ Sim T s' σ' Hb' H' ∧ I n s', ⟨n0, ⟨ρ, m0⟩, Hb, S.refl, S, h0⟩, ?_⟩
  rintro n σ' H' ⟨s', Hb', g, S', i'⟩
  refine hs n s' i' σ' Hb' H' _ S' (fun b μ1 Hb1 H1 g1 k1 => ?_) ((c.go g).x S')
  cases b with
  | false =>
    show Dn.nx σ' H1
    exact c.nx _ _ _ _ (g.trans g1) (S'.go g1) (k1.2 rfl)
  | true =>
    show ∃ N : L2.St → Hp → Prop, _ ∧ _
    refine ⟨fun σ2 H2 => ∃ s2 Hb2, Go T m0 Hb H s2.m Hb2 H2 ∧ Sim T s2 σ2 Hb2 H2 ∧ ∃ n', n' < n ∧ I n' s2, ?_, ?_⟩
    · rintro σ2 H2 ⟨s2, Hb2, g2, S2, n', hn, i2⟩
      exact ⟨n', hn, s2, Hb2, g2, S2, i2⟩
    · refine k1.1 rfl σ' Hb1 H1 _ (S'.go g1) ⟨?_, ?_, ?_, ?_, ?_⟩
      · exact fun s2 σ2 Hb2 H2 g2 S2 k => ⟨s2, Hb2, (g.trans g1).trans g2, S2, k⟩
      · exact fun d μ' v Hb2 H2 g2 r k => c.rt d μ' v Hb2 H2 ((g.trans g1).trans g2) r k
      · exact fun s2 σ2 Hb2 H2 g2 S2 k => c.nx s2 σ2 Hb2 H2 ((g.trans g1).trans g2) S2 k
      · exact fun s2 σ2 Hb2 H2 g2 S2 k => ⟨s2, Hb2, (g.trans g1).trans g2, S2, k⟩
      · exact fun x s2 cls dd σ2 Hb2 H2 g2 S2 r k => c.xr x s2 cls dd σ2 Hb2 H2 ((g.trans g1).trans g2) S2 r k
def ItOk (T : Cfg) (J : It) (n : Nat) (f : Nat → D) (Hb0 : Hp) : Prop := ∀ Hb H, Ex Hb0 Hb → Ex Hb H →
  (∀ i, i < n → J.go i H) ∧ (∀ i, n ≤ i → J.stop i H) ∧ ∀ i x H', i < n → J.yld i H x H' → ∀ μ, SimMu T μ Hb H → ∃ Hb', Go T μ Hb H μ Hb' H' ∧ Rep T Hb' (f i) x
def IV (T : Cfg) (wi : TI) (W : WX) (s : S) (P : Nat → (Nat → D) → Mu → Prop) (XP : XW) : Prop :=
  ∀ σ Hb H R, Sim T s σ Hb H → (∀ J n f μ' Hb' H', Go T s.m Hb H μ' Hb' H' → ItOk T J n f Hb' → P n f μ' → R J H') →
    (∀ x μ' cls dd Hb' H', Go T s.m Hb H μ' Hb' H' → RepX T Hb' x cls dd → XP x μ' → W cls dd σ H') → wi σ H R
def forK (I : Nat → S → Prop) (i : Nat) (K : Out → Prop) : Out → Prop
  | .nx s' => I (i + 1) s'
  | .ct s' => I (i + 1) s'
  | .bk s' => K (.nx s')
  | o => K o
theorem sv_for {wi : TI} {g : TG} {is : List Nat} {u : TS} (h : IV T wi W ⟨ρ, m0⟩ (fun n f μ => ∃ I : Nat → S → Prop, I 0 ⟨ρ, μ⟩ ∧ (∀ i s', i < n → I i s' → GV T g is (f i) s' (fun s'' => SV T u W s'' (forK I i K))) ∧ ∀ s', I n s' → K (.nx s')) (xk ⟨ρ, m0⟩ K)) :
    SV T (tFor wi g u) W ⟨ρ, m0⟩ K := fun σ Hb H Dn S c => by
  refine h σ Hb H _ S (fun J n f μ Hb1 H1 g1 ok p => ?_) (c.x S)
  obtain ⟨I, i0, turn, done⟩ := p
  have S1 := S.go g1
  refine ⟨fun i m σ' H' => m = n - i ∧ i ≤ n ∧ ∃ s' Hb', Go T μ Hb1 H1 s'.m Hb' H' ∧ Sim T s' σ' Hb' H' ∧ I i s', ⟨n, by simp, Nat.zero_le _, _, Hb1, S1.refl, S1, i0⟩, ?_⟩
  rintro i m σ' H' ⟨rfl, hi, s', Hb', g', S', i'⟩
  obtain ⟨go, stop, yld⟩ := ok Hb' H' g'.ex S'.sub
  by_cases hlt : i < n
  · refine .inr ⟨go i hlt, fun σ2 H2 => ∃ s2 Hb2, Go T μ Hb1 H1 s2.m Hb2 H2 ∧ Sim T s2 σ2 Hb2 H2 ∧ I (i + 1) s2, ?_, ?_⟩
    · rintro σ2 H2 ⟨s2, Hb2, g2, S2, i2⟩
      exact ⟨n - (i + 1), by omega, rfl, hlt, s2, Hb2, g2, S2, i2⟩
    · intro x H2 y
      obtain ⟨Hb2, g2, r2⟩ := yld i x H2 hlt y s'.m S'.mu
      refine turn i s' hlt i' x σ' Hb2 H2 _ (S'.go g2) r2 fun s3 σ3 em S3 _ k => ?_
      have g3 : Go T μ Hb1 H1 s3.m Hb2 H2 := by
        rw [em]
        exact g'.trans g2
      have g03 := g1.trans g3
      refine k σ3 Hb2 H2 _ S3 ⟨?_, ?_, ?_, ?_, ?_⟩
      · exact fun s4 σ4 Hb4 H4 g4 S4 k4 => ⟨s4, Hb4, g3.trans g4, S4, k4⟩
      · exact fun d μ' v Hb4 H4 g4 r k4 => c.rt d μ' v Hb4 H4 (g03.trans g4) r k4
      · exact fun s4 σ4 Hb4 H4 g4 S4 k4 => c.nx s4 σ4 Hb4 H4 (g03.trans g4) S4 k4
      · exact fun s4 σ4 Hb4 H4 g4 S4 k4 => ⟨s4, Hb4, g3.trans g4, S4, k4⟩
      · exact fun x s4 cls dd σ4 Hb4 H4 g4 S4 r k4 => c.xr x s4 cls dd σ4 Hb4 H4 (g03.trans g4) S4 r k4
  · have e : i = n := by omega
    subst e
    exact .inl ⟨stop i (Nat.le_refl _), c.nx s' σ' Hb' H' (g1.trans g') S' (done s' i')⟩
def wipeD (ρ : List (Option D)) : List Nat → List (Option D)
  | [] => ρ
  | v :: vs => (wipeD ρ vs).set v none
theorem Sim.unset {σ : L2.St} {Hb H : Hp} (h : Sim T s σ Hb H) (i : Nat) : Sim T ⟨s.r.set i none, s.m⟩ (σ.set i none) Hb H := by
  refine ⟨by simp [h.len], fun j e a => ?_, h.sub, h.mu⟩
  have a : (s.r.set i none)[j]? = some (some e) := a
  rw [List.getElem?_set] at a
  rw [List.getElem?_set]
  split at a
  · split at a <;> cases a
  · rename_i hij
    rw [if_neg hij]
    exact h.vars j e a
theorem Sim.wipe {σ : L2.St} {Hb H : Hp} (h : Sim T s σ Hb H) : ∀ vs : List Nat, Sim T ⟨wipeD s.r vs, s.m⟩ (L2.wipe σ vs) Hb H
  | [] => h
  | v :: vs => (Sim.wipe h vs).unset (s := ⟨wipeD s.r vs, s.m⟩) v
theorem ev_lc {wi : TI} {g : TG} {is vs : List Nat} {tt : TT} {P : D → Mu → Prop} {XP : XW} (hv : ∀ i ∈ is, i ∈ vs)
    (h : IV T wi W ⟨ρ, m0⟩ (fun n f μ => n ≤ 100000 ∧ ∃ I : Nat → List D → Mu → Prop, I 0 [] μ ∧ (∀ i acc μ', i < n → acc.length ≤ i → I i acc μ' → GV T g is (f i) ⟨wipeD ρ vs, μ'⟩ (fun s'' => TV T tt (fun _ _ _ _ => False) s'' (fun b μ1 =>
      (b = true → EV T te (fun _ _ _ _ => False) ⟨s''.r, μ1⟩ (fun e μ2 => I (i + 1) (acc ++ [e]) μ2) (fun _ _ => False)) ∧ (b = false → I (i + 1) acc μ1)) (fun _ _ => False))) ∧ ∀ acc μ', I n acc μ' → P (.lst acc) μ') XP) :
    EV T (tLc wi g tt te vs) W ⟨ρ, m0⟩ P XP := fun σ Hb H Q S q x => by
  refine h σ Hb H _ S (fun J n f μ Hb1 H1 g1 ok p => ?_) x
  obtain ⟨hn, I, i0, turn, done⟩ := p
  have S1 := S.go g1
  intro Dl hD
  have hDb : Hb1 Dl = none := fresh_back S1.sub hD
  have hDm : μ Dl = none := by
    cases e : μ Dl with
    | none => rfl
    | some m =>
      obtain ⟨_, o, ho, _⟩ := g1.mu Dl m e
      rw [hD] at ho; cases ho
  -- the new list is one's own at Dl
  have gD : Go T μ Hb1 H1 (put μ Dl (.lst [])) Hb1 (upd H1 Dl (.lst [])) := Go.own g1.sub g1.mu hD RepL.nil
  refine ⟨fun i m H' => m = n - i ∧ i ≤ n ∧ ∃ acc μ' Hb', acc.length ≤ i ∧ μ' Dl = none ∧ Go T μ Hb1 H1 (put μ' Dl (.lst acc)) Hb' H' ∧ I i acc μ', ⟨n, by simp, Nat.zero_le _, [], μ, Hb1, Nat.le_refl _, hDm, gD, i0⟩, ?_⟩
  rintro i m H' ⟨rfl, hi, acc, μ', Hb', hl, hm', g', i'⟩
  have S' : Sim T ⟨ρ, put μ' Dl (.lst acc)⟩ σ Hb' H' := S1.go g'
  obtain ⟨go, stop, yld⟩ := ok Hb' H' g'.ex g'.sub
  by_cases hlt : i < n
  · refine .inr ⟨go i hlt, fun H2 => ∃ acc2 μ2 Hb2, acc2.length ≤ i + 1 ∧ μ2 Dl = none ∧ Go T μ Hb1 H1 (put μ2 Dl (.lst acc2)) Hb2 H2 ∧ I (i + 1) acc2 μ2, ?_, ?_⟩
    · rintro H2 ⟨acc2, μ2, Hb2, hl2, hm2, g2, i2⟩
      exact ⟨n - (i + 1), by omega, rfl, hlt, acc2, μ2, Hb2, hl2, hm2, g2, i2⟩
    · intro y H2 hy
      obtain ⟨Hb2, g2, r2⟩ := yld i y H2 hlt hy _ g'.mu
      have g02 := g'.trans g2
      -- the list set aside: the store without it
      have aside : ∀ {μa : Mu} {Hba Ha : Hp} {ac : List D}, μa Dl = none → SimMu T (put μa Dl (.lst ac)) Hba Ha → SimMu T μa Hba Ha := fun {μa Hba Ha ac} hn hs => hs.as fun a m ha => by
        refine hs a m ?_
        rw [put_ne (fun e => by rw [e, hn] at ha; cases ha)]
        exact ha
      have back : ∀ {μa μb : Mu} {Hba Ha Hbb Hc : Hp} {ac : List D}, μa Dl = none → SimMu T (put μa Dl (.lst ac)) Hba Ha → Go T μa Hba Ha μb Hbb Hc → μb Dl = none ∧ Go T (put μa Dl (.lst ac)) Hba Ha (put μb Dl (.lst ac)) Hbb Hc := fun {μa μb Hba Ha Hbb Hc ac} hn hs gg => by
        obtain ⟨hbn, o, ho, ro⟩ := hs Dl _ put_same
        obtain ⟨ho', hbn'⟩ := gg.keepN ho hbn hn ro
        have mb : μb Dl = none := by
          cases e : μb Dl with
          | none => rfl
          | some m =>
            rcases gg.new Dl m e with z | z
            · exact absurd hn z
            · rw [ho] at z; cases z
        refine ⟨mb, gg.ex, fun a u h1 h2 h3 h4 => ?_, fun a m h1 => ?_, gg.alive, gg.sub, gg.mu.as fun a m h1 => ?_⟩
        · have ne : a ≠ Dl := fun e => by rw [e, put_same] at h3; cases h3
          rw [put_ne ne] at h3
          exact gg.keep a u h1 h2 h3 h4
        · by_cases e : a = Dl
          · subst e; exact .inl (by rw [put_same]; simp)
          · rw [put_ne e] at h1 ⊢; exact gg.new a m h1
        · by_cases e : a = Dl
          · subst e
            rw [put_same] at h1
            cases h1
            exact ⟨hbn', o, ho', ro.mono gg.ex⟩
          · rw [put_ne e] at h1; exact gg.mu a m h1
      have Sw0 : Sim T ⟨ρ, put μ' Dl (.lst acc)⟩ σ Hb2 H2 := S'.go g2
      have Sw : Sim T ⟨ρ, μ'⟩ σ Hb2 H2 := ⟨Sw0.len, Sw0.vars, Sw0.sub, aside hm' Sw0.mu⟩
      have Sww : Sim T ⟨wipeD ρ vs, μ'⟩ (L2.wipe σ vs) Hb2 H2 := Sw.wipe vs
      refine turn i acc μ' hlt hl i' y (L2.wipe σ vs) Hb2 H2 _ Sww r2 fun s3 σ3 em S3 wq k => ?_
      have em : s3.m = μ' := em
      refine ⟨?_, ?_⟩
      · have e1 := wq vs hv
        have idem : ∀ (us : List Nat), (∀ u ∈ us, u ∈ vs) → L2.wipe (L2.wipe σ vs) us = L2.wipe σ vs := by
          intro us
          induction us with
          | nil => intro _; rfl
          | cons u us ih =>
            intro hu
            show (L2.wipe (L2.wipe σ vs) us).set u none = L2.wipe σ vs
            rw [ih fun z hz => hu z (List.mem_cons_of_mem _ hz)]
            have : ∀ (ws : List Nat) (u : Nat), u ∈ ws → (L2.wipe σ ws).set u none = L2.wipe σ ws := by
              intro ws
              induction ws with
              | nil => intro u hu; cases hu
              | cons w ws ih2 =>
                intro u hu
                show ((L2.wipe σ ws).set w none).set u none = (L2.wipe σ ws).set w none
                by_cases e : u = w
                · subst e; rw [List.set_set]
                · have hu2 : u ∈ ws := by
                    rcases List.mem_cons.mp hu with z | z
                    · exact absurd z e
                    · exact z
                  rw [List.set_comm _ _ (fun z => e z.symm), ih2 u hu2]
            exact this vs u (hu u (by simp))
        rw [e1]
        exact idem vs fun _ z => z
      · refine k σ3 Hb2 H2 _ S3 (fun b μ3 Hb3 H3 g3 kk => ?_) (fun _ _ _ _ _ _ _ _ z => z.elim)
        rw [em] at g3
        obtain ⟨hm3, g3'⟩ := back hm' Sw0.mu g3
        have S3' : Sim T ⟨s3.r, μ3⟩ σ3 Hb3 H3 := S3.go (by rw [em]; exact g3)
        cases b with
        | false =>
          show ∃ acc2 μ2 Hb2, _
          exact ⟨acc, μ3, Hb3, by omega, hm3, g02.trans g3', kk.2 rfl⟩
        | true =>
          show te σ3 H3 _
          refine kk.1 rfl σ3 Hb3 H3 _ S3' (fun e μ4 w Hb4 H4 g4 r4 i4 => ?_) (fun _ _ _ _ _ _ _ _ z => z.elim)
          obtain ⟨hm4, g4'⟩ := back hm3 g3'.mu g4
          obtain ⟨_, o, ho, ro⟩ := g4'.mu Dl _ put_same
          cases o with
          | lst xs =>
            have ro : RepL T Hb4 acc xs := ro
            have g5 := Go.chg g4'.sub g4'.mu (p := Dl) (o := .lst (xs ++ [w])) (z := .lst (acc ++ [e])) put_same (ro.app (.cons r4 .nil))
            rw [put_put] at g5
            exact ⟨xs, ho, Evl.sz_lt (by rw [← ro.1]; omega), acc ++ [e], μ4, Hb4, by simp; omega, hm4, ((g02.trans g3').trans g4').trans g5, i4⟩
          | _ => exact ro.elim
  · have e : i = n := by omega
    subst e
    obtain ⟨hbn, o, ho, ro⟩ := g'.mu Dl _ put_same
    cases o with
    | lst xs =>
      have gf := Go.freeze g'.sub g'.mu (p := Dl) put_same ho
      rw [del_put hm'] at gf
      have ro : RepL T Hb' acc xs := ro
      exact .inl ⟨stop i (Nat.le_refl _), q _ _ _ _ _ ((g1.trans g').trans gf) (.lst upd_same ro.1 (ro.mono gf.ex).2) (done acc μ' i')⟩
    | _ => exact ro.elim
end
end Pw
namespace Pw
open PySem PySem.Spec PyProof.Rows L2
open Evl (Ex ex_l ex_t fresh_back)
section
variable {T : Cfg} {W : WX} {s : S} {ρ : List (Option D)} {m0 : Mu} {XP : XW} {ta tb te : TE} {P : D → Mu → Prop}
def nth (ds : List D) (i : Nat) : D := ds.getD i .non
theorem nth_get {ds : List D} {i : Nat} (h : i < ds.length) : ds[i]? = some (nth ds i) := by
  unfold nth
  rw [List.getD_eq_getElem?_getD, List.getElem?_eq_getElem h] <;> rfl
theorem nth_of {ds : List D} {i : Nat} {d : D} (h : ds[i]? = some d) : nth ds i = d := by
  unfold nth
  rw [List.getD_eq_getElem?_getD, h] <;> rfl
theorem itl_ok {a : Addr} {ds : List D} {xs : List V} {Hb0 : Hp} (hx : SqL T.K Hb0 a xs) (r : RepL T Hb0 ds xs) : ItOk T (Itl T.K a) ds.length (nth ds) Hb0 := fun Hb H e1 e2 => by
  have hH : SqL T.K H a xs := ex_l e2 (ex_l e1 hx)
  refine ⟨fun i hi => ⟨xs, xs[i]'(by rw [← r.1]; exact hi), hH, List.getElem?_eq_getElem _⟩, fun i hi => ⟨xs, hH, by rw [← r.1]; exact hi⟩, ?_⟩
  rintro i x H' hi ⟨rfl, y⟩ μ sm
  refine ⟨Hb, .refl e2 sm, ?_⟩
  exact (r.2 i _ x (nth_get hi) (y xs hH)).mono e1
theorem itt_ok {a : Addr} {ds : List D} {xs : List V} {Hb0 : Hp} (hx : SqT T.K Hb0 a xs) (r : RepL T Hb0 ds xs) : ItOk T (Itt T.K a) ds.length (nth ds) Hb0 := fun Hb H e1 e2 => by
  have hH : SqT T.K H a xs := ex_t e2 (ex_t e1 hx)
  refine ⟨fun i hi => ⟨xs, xs[i]'(by rw [← r.1]; exact hi), hH, List.getElem?_eq_getElem _⟩, fun i hi => ⟨xs, hH, by rw [← r.1]; exact hi⟩, ?_⟩
  rintro i x H' hi ⟨rfl, y⟩ μ sm
  refine ⟨Hb, .refl e2 sm, ?_⟩
  exact (r.2 i _ x (nth_get hi) (y xs hH)).mono e1
theorem itr_ok {lo : Int} {n : Nat} {Hb0 : Hp} : ItOk T (Itr lo n) n (fun i => .int (lo + (i : Nat))) Hb0 := fun Hb H e1 e2 => by
  refine ⟨fun i hi => hi, fun i hi => hi, ?_⟩
  rintro i x H' hi ⟨rfl, rfl⟩ μ sm
  exact ⟨Hb, .refl e2 sm, .int _⟩
def Seqd (d : D) (ds : List D) : Prop := d = .lst ds ∨ d = .seq ds
theorem Seqd.inv {d : D} {ds : List D} {v : V} {Hb : Hp} (h : Seqd d ds) (r : Rep T Hb d v) : ∃ a xs, v = .ref a ∧ SqL T.K Hb a xs ∧ RepL T Hb ds xs := by
  rcases h with rfl | rfl
  · obtain ⟨a, xs, e, h, r⟩ := r.lst_inv
    exact ⟨a, xs, e, Evl.sq_of h, r⟩
  · exact r.seq_inv
theorem iv_list {P : Nat → (Nat → D) → Mu → Prop} (h : EV T te W ⟨ρ, m0⟩ (fun d μ => ∃ ds, Seqd d ds ∧ P ds.length (nth ds) μ) XP) : IV T (iList T.K te) W ⟨ρ, m0⟩ P XP := fun σ Hb H R S q x =>
  h σ Hb H _ S (fun d μ v Hb1 H1 g r p => by
    obtain ⟨ds, hd, p⟩ := p
    obtain ⟨a, xs, rfl, hx, r⟩ := hd.inv r
    exact ⟨a, rfl, ⟨xs, ex_l g.sub hx⟩, q _ _ _ _ _ _ g (itl_ok hx r) p⟩) x
theorem iv_tup {P : Nat → (Nat → D) → Mu → Prop} (h : EV T te W ⟨ρ, m0⟩ (fun d μ => ∃ ds, d = .tup ds ∧ P ds.length (nth ds) μ) XP) : IV T (iTup T.K te) W ⟨ρ, m0⟩ P XP := fun σ Hb H R S q x =>
  h σ Hb H _ S (fun d μ v Hb1 H1 g r p => by
    obtain ⟨ds, rfl, p⟩ := p
    obtain ⟨a, xs, rfl, hx, r⟩ := r.tup_inv
    exact ⟨a, rfl, ⟨xs, ex_t g.sub hx⟩, q _ _ _ _ _ _ g (itt_ok hx r) p⟩) x
theorem iv_rng1 {ta : TA} {P : Nat → (Nat → D) → Mu → Prop} (h : EA T ta W ⟨ρ, m0⟩ (fun ds μ => ∃ n : Int, ds = [.int n] ∧ n ≤ 1000000 ∧ -1000000 ≤ n ∧ P n.toNat (fun i => .int (0 + (i : Nat))) μ) XP) : IV T (iRng1 ta) W ⟨ρ, m0⟩ P XP := fun σ Hb H R S q x =>
  h σ Hb H _ S (fun ds μ vs Hb1 H1 g r p => by
    obtain ⟨n, rfl, h1, h2, p⟩ := p
    obtain ⟨v, ys, rfl, r1, r⟩ := r.cons_inv
    obtain rfl := r.nil_inv
    cases r1
    exact ⟨n, rfl, by omega, by omega, q _ _ _ _ _ _ g itr_ok p⟩) x
theorem ite_ok {a : Addr} {ds : List D} {xs : List V} {Hb0 : Hp} (hx : SqL T.K Hb0 a xs) (r : RepL T Hb0 ds xs) : ItOk T (Ite T.K a) ds.length (fun i => .tup [.int (i : Nat), nth ds i]) Hb0 := fun Hb H e1 e2 => by
  have hH : SqL T.K H a xs := ex_l e2 (ex_l e1 hx)
  refine ⟨fun i hi => ⟨xs, xs[i]'(by rw [← r.1]; exact hi), hH, List.getElem?_eq_getElem _⟩, fun i hi => ⟨xs, hH, by rw [← r.1]; exact hi⟩, ?_⟩
  rintro i x H' hi ⟨Tp, y, rfl, hT, rfl, hy⟩ μ sm
  have g := Go.lay e2 sm (o := .tup [.int (i : Nat), y]) hT
  refine ⟨_, g, ?_⟩
  have rl : RepL T (upd Hb Tp (.tup [.int (i : Nat), y])) [.int (i : Nat), nth ds i] [.int (i : Nat), y] :=
    .cons (.int _) (.cons (((r.2 i _ y (nth_get hi) (hy xs hH)).mono e1).mono g.ex) .nil)
  exact .tup (Evl.st_of upd_same) rl.1 rl.2
theorem iv_enum {ta : TA} {P : Nat → (Nat → D) → Mu → Prop} (h : EA T ta W ⟨ρ, m0⟩ (fun es μ => ∃ d ds, es = [d] ∧ Seqd d ds ∧ P ds.length (fun i => .tup [.int (i : Nat), nth ds i]) μ) XP) : IV T (iEnum T.K ta) W ⟨ρ, m0⟩ P XP := fun σ Hb H R S q x =>
  h σ Hb H _ S (fun ds μ vs Hb1 H1 g r p => by
    obtain ⟨d, ds, rfl, hd, p⟩ := p
    obtain ⟨v, ys, rfl, r1, r⟩ := r.cons_inv
    obtain rfl := r.nil_inv
    obtain ⟨a, xs, rfl, hx, r⟩ := hd.inv r1
    exact ⟨a, xs, rfl, ex_l g.sub hx, q _ _ _ _ _ _ g (ite_ok hx r) p⟩) x
theorem itz_ok {a b : Addr} {ds es : List D} {xs ys : List V} {Hb0 : Hp} (hx : SqL T.K Hb0 a xs) (r : RepL T Hb0 ds xs) (hy : SqL T.K Hb0 b ys) (r' : RepL T Hb0 es ys) : ItOk T (Itz T.K a b) (min ds.length es.length) (fun i => .tup [nth ds i, nth es i]) Hb0 := fun Hb H e1 e2 => by
  have hH : SqL T.K H a xs := ex_l e2 (ex_l e1 hx)
  have hH' : SqL T.K H b ys := ex_l e2 (ex_l e1 hy)
  have l1 := r.1
  have l2 := r'.1
  refine ⟨fun i hi => ⟨xs, ys, xs[i]'(by omega), ys[i]'(by omega), hH, hH', List.getElem?_eq_getElem _, List.getElem?_eq_getElem _⟩, fun i hi => ⟨xs, ys, hH, hH', by omega⟩, ?_⟩
  rintro i x H' hi ⟨Tp, y, z, rfl, hT, rfl, hy, hz⟩ μ sm
  have g := Go.lay e2 sm (o := .tup [y, z]) hT
  refine ⟨_, g, ?_⟩
  have rl : RepL T (upd Hb Tp (.tup [y, z])) [nth ds i, nth es i] [y, z] :=
    .cons (((r.2 i _ y (nth_get (by omega)) (hy xs hH)).mono e1).mono g.ex) (.cons (((r'.2 i _ z (nth_get (by omega)) (hz ys hH')).mono e1).mono g.ex) .nil)
  exact .tup (Evl.st_of upd_same) rl.1 rl.2
theorem iv_zip {ta : TA} {P : Nat → (Nat → D) → Mu → Prop} (h : EA T ta W ⟨ρ, m0⟩ (fun fs μ => ∃ d ds e es, fs = [d, e] ∧ Seqd d ds ∧ Seqd e es ∧ P (min ds.length es.length) (fun i => .tup [nth ds i, nth es i]) μ) XP) : IV T (iZip T.K ta) W ⟨ρ, m0⟩ P XP := fun σ Hb H R S q x =>
  h σ Hb H _ S (fun ds μ vs Hb1 H1 g r p => by
    obtain ⟨d, ds, e, es, rfl, hd, he, p⟩ := p
    obtain ⟨v, ys, rfl, r1, r⟩ := r.cons_inv
    obtain ⟨w, ys, rfl, r2, r⟩ := r.cons_inv
    obtain rfl := r.nil_inv
    obtain ⟨a, xs, rfl, hx, rr⟩ := hd.inv r1
    obtain ⟨b, zs, rfl, hz, r'⟩ := he.inv r2
    exact ⟨a, b, xs, zs, rfl, ex_l g.sub hx, ex_l g.sub hz, q _ _ _ _ _ _ g (itz_ok hx rr hz r') p⟩) x
end
abbrev Ct := List D → Mu → (D → Mu → Prop) → XW → Prop
def spOf (T : Cfg) (c : Ct) : Sp := fun vs H Q E => ∃ ds μ Hb P XP, Ex Hb H ∧ SimMu T μ Hb H ∧ RepL T Hb ds vs ∧ c ds μ P XP ∧
  (∀ d μ' v Hb' H', Go T μ Hb H μ' Hb' H' → Rep T Hb' d v → P d μ' → Q v H') ∧ (∀ x μ' cls dd Hb' H', Go T μ Hb H μ' Hb' H' → RepX T Hb' x cls dd → XP x μ' → E cls dd H')
theorem spOf_len {T : Cfg} {c : Ct} {n : Nat} (h : ∀ ds μ P XP, c ds μ P XP → ds.length = n) {vs : List V} {H : Hp} {Q : VK} {E : XK} (q : spOf T c vs H Q E) : vs.length = n := by
  obtain ⟨ds, μ, Hb, P, XP, _, _, r, hc, _⟩ := q
  rw [← r.1]
  exact h ds μ P XP hc
def fnK (P : D → Mu → Prop) (XP : XW) : Out → Prop
  | .nx s => P .non s.m
  | .rt d m => P d m
  | .xr x s => XP x s.m
  | _ => False
def slots (n : Nat) (ds : List D) : List (Option D) := ds.map some ++ List.replicate (n - ds.length) none
theorem fn_go {T : Cfg} {t : XK → TS} {c : Ct} {N : List Str} (h : ∀ E ds μ P XP, c ds μ P XP → SV T (t E) (fun cls dd _ H => E cls dd H) ⟨slots N.length ds, μ⟩ (fnK P XP))
    (vs : List V) (H : Hp) (Q : VK) (E : XK) (q : spOf T c vs H Q E) : t E { nx := fun _ H' => Q .non H', rt := Q } (start N vs) H := by
  obtain ⟨ds, μ, Hb, P, XP, ex, sm, r, hc, hq, hx⟩ := q
  refine h E ds μ P XP hc (start N vs) Hb H _ ⟨?_, ?_, ex, sm⟩ ⟨?_, ?_, ?_, ?_, ?_⟩
  · simp [slots, L2.start, r.1]
  · intro i d e
    have e : (ds.map some ++ List.replicate (N.length - ds.length) none)[i]? = some (some d) := e
    by_cases hi : i < ds.length
    · rw [List.getElem?_append_left (by simpa using hi), List.getElem?_map, Option.map_eq_some_iff] at e
      obtain ⟨d', e1, e2⟩ := e
      cases e2
      obtain ⟨v, hv, rv⟩ := r.get e1
      refine ⟨v, ?_, rv⟩
      unfold L2.start
      rw [List.getElem?_append_left (by rw [List.length_map, ← r.1]; exact hi), List.getElem?_map, hv] <;> rfl
    · rw [List.getElem?_append_right (by simpa using hi)] at e
      have := List.mem_of_getElem? e
      rw [List.mem_replicate] at this
      cases this.2
  · exact fun s' σ' Hb' H' g S k => hq .non s'.m .non Hb' H' g .non k
  · exact fun d μ' v Hb' H' g r k => hq d μ' v Hb' H' g r k
  · exact fun _ _ _ _ _ _ k => k.elim
  · exact fun _ _ _ _ _ _ k => k.elim
  · exact fun x s' cls dd σ' Hb' H' g S r k => hx x s'.m cls dd Hb' H' g r k
def mrg (μ μ1 μ2 : Mu) : Mu := fun a => match μ2 a with
  | some m => some m
  | none => if (μ1 a).isSome = true then none else μ a
section
variable {T : Cfg} {W : WX} {s : S} {ρ : List (Option D)} {m0 : Mu} {XP : XW} {ta tb te : TE} {P : D → Mu → Prop} {μ μ1 μ2 : Mu} {Hb H Hb' H' : Hp}
def Subm (μ1 μ : Mu) : Prop := ∀ a m, μ1 a = some m → μ a = some m
theorem Subm.sim (h : Subm μ1 μ) (m : SimMu T μ Hb H) : SimMu T μ1 Hb H := m.as fun a z e => m a z (h a z e)
theorem Go.widen (h : Subm μ1 μ) (m : SimMu T μ Hb H) (g : Go T μ1 Hb H μ2 Hb' H') : Go T μ Hb H (mrg μ μ1 μ2) Hb' H' := by
  have sub0 : ∀ a, μ a = none → μ1 a = none := fun a e => by
    cases q : μ1 a with
    | none => rfl
    | some z => rw [h a z q] at e; cases e
  refine ⟨g.ex, fun a o h1 h2 h3 => g.keep a o h1 h2 (sub0 a h3), fun a z e => ?_, g.alive, g.sub, g.mu.as fun a z e => ?_⟩
  · unfold mrg at e
    cases q : μ2 a with
    | some y =>
      rcases g.new a y q with w | w
      · left
        intro e0
        exact w (sub0 a e0)
      · exact .inr w
    | none =>
      rw [q] at e
      left
      intro e0
      simp [e0] at e
  · unfold mrg at e
    cases q : μ2 a with
    | some y =>
      rw [q] at e
      cases e
      exact g.mu a _ q
    | none =>
      rw [q] at e
      by_cases w : (μ1 a).isSome = true
      · simp [w] at e
      · simp [w] at e
        have w1 : μ1 a = none := by simpa using w
        obtain ⟨n, o, ho, r⟩ := m a z e
        obtain ⟨ho', n'⟩ := g.keepN ho n w1 r
        exact ⟨n', o, ho', r.mono g.ex⟩
theorem Go.forget (g : Go T μ Hb H μ1 Hb' H') (h : Subm μ2 μ1) : Go T μ Hb H μ2 Hb' H' :=
  ⟨g.ex, g.keep, fun a z e => g.new a z (h a z e), g.alive, g.sub, h.sim g.mu⟩
theorem sub_nil : Subm mu0 μ := fun _ _ e => nomatch e
theorem mrg_nil : mrg μ mu0 mu0 = μ := by funext a; unfold mrg; simp
def pu (c : List D → (D → Prop) → (XD → Prop) → Prop) : Ct := fun ds μ P XP => μ = mu0 ∧ ∃ Pf Xf, c ds Pf Xf ∧ (∀ d, Pf d → P d mu0) ∧ ∀ x, Xf x → XP x mu0
theorem ev_call0 {c : List D → (D → Prop) → (XD → Prop) → Prop} {dvs : List V} {dds : List D} {E : XK} {ta : TA} (hd : ∀ Hb, RepL T Hb dds dvs)
    (h : EA T ta W ⟨ρ, m0⟩ (fun ds μ => c (ds ++ dds) (fun d => P d μ) (fun _ => False)) XP) : EV T (tCall (spOf T (pu c)) dvs E ta) W ⟨ρ, m0⟩ P XP := fun σ Hb H Q S q x =>
  h σ Hb H _ S (fun ds μ vs Hb1 H1 g r p => by
    refine ⟨ds ++ dds, mu0, Hb1, fun d μ' => μ' = mu0 ∧ P d μ, fun y μ' => False, g.sub, g.mu.nil, r.app (hd Hb1), ⟨rfl, _, _, p, fun d k => ⟨rfl, k⟩, fun y k => k⟩, fun d μ' v Hb' H' g' r' k => ?_, fun y μ' cls dd Hb' H' g' r' k => k.elim⟩
    obtain ⟨rfl, k⟩ := k
    have g'' := g'.widen sub_nil g.mu
    rw [mrg_nil] at g''
    exact q _ _ _ _ _ (g.trans g'') r' k) x
def wl (c : Nat → List D → (D → Nat → Prop) → Prop) : Ct := fun ds μ P _ => ∃ a b rest, ds = .ptr a :: rest ∧ μ = put mu0 a (.well b) ∧ ∃ Pf, c b rest Pf ∧ ∀ d b', Pf d b' → P d (put mu0 a (.well b'))
theorem mrg_one {a : Addr} {m n : MO} : mrg μ (put mu0 a m) (put mu0 a n) = put μ a n := by
  funext b
  unfold mrg put
  by_cases e : b = a
  · simp [e]
  · simp [e]
theorem sub_one {a : Addr} {m : MO} (h : μ a = some m) : Subm (put mu0 a m) μ := fun b z e => by
  unfold put at e
  split at e
  · rename_i q; cases e; rw [q]; exact h
  · cases e
theorem ev_callW {c : Nat → List D → (D → Nat → Prop) → Prop} {dvs : List V} {dds : List D} {E : XK} {ta : TA} (hd : ∀ Hb, RepL T Hb dds dvs)
    (h : EA T ta W ⟨ρ, m0⟩ (fun ds μ => ∃ a b rest, ds ++ dds = .ptr a :: rest ∧ μ a = some (.well b) ∧ c b rest (fun d b' => P d (put μ a (.well b')))) XP) : EV T (tCall (spOf T (wl c)) dvs E ta) W ⟨ρ, m0⟩ P XP := fun σ Hb H Q S q x =>
  h σ Hb H _ S (fun ds μ vs Hb1 H1 g r p => by
    obtain ⟨a, b, rest, e1, hm, p⟩ := p
    refine ⟨ds ++ dds, put mu0 a (.well b), Hb1, fun d μ' => ∃ b', μ' = put mu0 a (.well b') ∧ P d (put μ a (.well b')), fun y μ' => False, g.sub, (sub_one hm).sim g.mu, r.app (hd Hb1), ⟨a, b, rest, e1, rfl, _, p, fun d b' k => ⟨b', rfl, k⟩⟩, fun d μ' v Hb' H' g' r' k => ?_, fun y μ' cls dd Hb' H' g' r' k => k.elim⟩
    obtain ⟨b', rfl, k⟩ := k
    have g'' := g'.widen (sub_one hm) g.mu
    rw [mrg_one] at g''
    exact q _ _ _ _ _ (g.trans g'') r' k) x
def ini (k : Nat) (c : List D → (List (Str × D) → Prop) → (XD → Prop) → Prop) : Ct := fun ds μ P XP => ∃ a rest, ds = .ptr a :: rest ∧ μ = put mu0 a (.ins k []) ∧ ∃ Pf Xf, c rest Pf Xf ∧ (∀ fs, Pf fs → P .non (put mu0 a (.ins k fs))) ∧ ∀ x fs, Xf x → XP x (put mu0 a (.ins k fs))
theorem ev_makeG {k : Nat} {XC : XW} {c : List D → (List (Str × D) → Prop) → (XD → Prop) → Prop} {dvs : List V} {dds : List D} {E : XK} {ta : TA} (hX : ∀ y μ, XC y μ → XP y μ ∧ ∀ σ cls dd H, W cls dd σ H → E cls dd H) (hd : ∀ Hb, RepL T Hb dds dvs)
    (h : EA T ta W ⟨ρ, m0⟩ (fun ds μ => c (ds ++ dds) (fun fs => P (.ins k fs) μ) (fun x => XC x μ)) XP) : EV T (tMake (T.cls k) (spOf T (ini k c)) dvs E ta) W ⟨ρ, m0⟩ P XP := fun σ Hb H Q S q x =>
  h σ Hb H _ S (fun ds μ vs Hb1 H1 g r p => by
    intro a dx ha hdx hne
    have hb1 : Hb1 a = none := fresh_back g.sub ha
    have hm1 : μ a = none := by
      cases e : μ a with
      | none => rfl
      | some m =>
        obtain ⟨_, o, ho, _⟩ := g.mu a m e
        rw [ha] at ho; cases ho
    -- the dict, then the instance
    have g1 : Go T μ Hb1 H1 μ (upd Hb1 dx (.own a)) (upd H1 dx (.own a)) := Go.lay g.sub g.mu hdx
    have ha' : (upd H1 dx (.own a)) a = none := by rw [upd_ne (fun e => hne e.symm)]; exact ha
    have g2 := Go.own g1.sub g1.mu (o := .ins (T.cls k) dx []) (z := .ins k []) ha' ⟨rfl, rfl, fun i g f e => by simp at e⟩
    have hs : Subm (put mu0 a (.ins k [])) (put μ a (.ins k [])) := sub_one put_same
    refine ⟨.ptr a :: (ds ++ dds), put mu0 a (.ins k []), _, fun d μ' => ∃ fs, d = .non ∧ μ' = put mu0 a (.ins k fs) ∧ P (.ins k fs) μ, fun y μ' => (∃ fs, μ' = put mu0 a (.ins k fs)) ∧ XC y μ, g2.sub, hs.sim g2.mu,
      .cons (.ptr a) ((r.mono (g1.trans g2).ex).app (hd _)), ⟨a, ds ++ dds, rfl, rfl, _, _, p, fun fs z => ⟨fs, rfl, rfl, z⟩, fun y fs z => ⟨⟨fs, rfl⟩, z⟩⟩, fun d μ' v Hb' H' g' r' z => ?_, fun y μ' cls dd Hb' H' g' r' z => ?_⟩
    · obtain ⟨fs, rfl, rfl, z⟩ := z
      cases r'
      refine ⟨rfl, ?_⟩
      have g3 := g'.widen hs g2.mu
      rw [mrg_one, put_put] at g3
      obtain ⟨n, o, ho, ro⟩ := g3.mu a _ put_same
      have g4 := Go.freeze g3.sub g3.mu put_same ho
      rw [del_put hm1] at g4
      cases o with
      | ins C dx' fs' =>
        obtain ⟨rfl, ro⟩ := ro
        exact q _ _ _ _ _ ((((g.trans g1).trans g2).trans g3).trans g4) (.ins upd_same ro.1 (ro.mono g4.ex).2) z
      | _ => exact ro.elim
    · obtain ⟨⟨fs, rfl⟩, z⟩ := z
      have g3 := g'.widen hs g2.mu
      rw [mrg_one, put_put] at g3
      have g4 := ((((g.trans g1).trans g2).trans g3)).forget (μ2 := μ) (fun b m e => by
        have ne : b ≠ a := fun w => by rw [w, hm1] at e; cases e
        rw [put_ne ne]
        exact e)
      exact (hX _ _ z).2 σ _ _ _ (x _ _ _ _ _ _ g4 r' (hX _ _ z).1)) x
theorem ev_make0 {k : Nat} {c : List D → (List (Str × D) → Prop) → (XD → Prop) → Prop} {dvs : List V} {dds : List D} {E : XK} {ta : TA} (hd : ∀ Hb, RepL T Hb dds dvs)
    (h : EA T ta W ⟨ρ, m0⟩ (fun ds μ => c (ds ++ dds) (fun fs => P (.ins k fs) μ) (fun _ => False)) XP) : EV T (tMake (T.cls k) (spOf T (ini k c)) dvs E ta) W ⟨ρ, m0⟩ P XP := ev_makeG (XC := fun _ _ => False) (fun y μ z => z.elim) hd h
end
end Pw
namespace Pw
open PySem PySem.Spec PyProof.Rows L2
open Evl (Ex ex_l ex_t fresh_back)
def CFd (_ j : Int) : Prop := j ≠ 0 ∧ j.natAbs.log2 < 9000
section
variable {X : Cx}
theorem op_mulO : OpR X (binaryOp .Mult) (rI IntMulOk fun i j => .int (i * j)) := opI fun _ _ _ _ _ _ _ hc q => mul_int q hc
theorem op_fdivO : OpR X (binaryOp .FloorDiv) (rI CFd fun i j => .int (i.fdiv j)) := opI fun i j _ _ _ _ _ hc q => floordiv_int hc.1 q (.inl (PyProof.noPylong_of_log2 hc.2))
end
def Bt (n : Nat) (i : Int) : Prop := i.natAbs < 2 ^ n
theorem Bt.log {n : Nat} {i : Int} (h : Bt n i) (h0 : 0 < n) : i.natAbs.log2 < n := PySem.Flt.log2_lt_of h0 h
theorem Bt.mono {n m : Nat} {i : Int} (h : Bt n i) (k : n ≤ m) : Bt m i := Nat.lt_of_lt_of_le h (Nat.pow_le_pow_right (by decide) k)
theorem Bt.mul {n m : Nat} {i j : Int} (h : Bt n i) (k : Bt m j) : Bt (n + m) (i * j) := wide_lt h k
theorem Bt.add {n m : Nat} {i j : Int} (h : Bt n i) (k : Bt n j) (hm : n + 1 ≤ m) : Bt m (i + j) := by
  have h1 : i.natAbs < 2 ^ n := h
  have h2 : j.natAbs < 2 ^ n := k
  have h3 : (2 : Nat) ^ (n + 1) = 2 ^ n + 2 ^ n := by rw [Nat.pow_succ]; omega
  have h4 : (2 : Nat) ^ (n + 1) ≤ 2 ^ m := Nat.pow_le_pow_right (by decide) hm
  show (i + j).natAbs < 2 ^ m
  omega
theorem Bt.neg {n : Nat} {i : Int} (h : Bt n i) : Bt n (-i) := by
  show (-i).natAbs < 2 ^ n
  rw [Int.natAbs_neg]
  exact h
theorem Bt.sub {n m : Nat} {i j : Int} (h : Bt n i) (k : Bt n j) (hm : n + 1 ≤ m) : Bt m (i - j) := by
  have := h.add k.neg hm
  rwa [← Int.sub_eq_add_neg] at this
theorem Bt.ok {n m : Nat} {i j : Int} (h : Bt n i) (k : Bt m j) (hm : n + m ≤ 100000000) : IntMulOk i j := by
  have b : ∀ (x : Int) (p : Nat), Bt p x → Builtin.Int.intBits x ≤ p + 1 := fun x p hx => by
    unfold Builtin.Int.intBits
    split
    · omega
    · cases p with
      | zero =>
        have h0 : x.natAbs < 2 ^ 0 := hx
        have : x.natAbs = 0 := by simpa using h0
        rw [this]
        decide
      | succ p =>
        have := hx.log (by omega)
        omega
  have h1 := b i n h
  have h2 := b j m k
  have e : bitsLine = 134217728 := by decide
  unfold IntMulOk
  intro z
  rw [Bool.and_eq_true] at z
  have z2 := z.2
  unfold Builtin.Int.intTooBig at z2
  have z3 := of_decide_eq_true z2
  rw [e] at z3
  omega
section
variable {T : Cfg} {W : WX} {s : S} {ρ : List (Option D)} {m0 : Mu} {XP : XW} {ta tb te : TE} {P : D → Mu → Prop} {μ : Mu}
theorem ov_of {r : R2} {d e z : D} (h : ∀ x y Hb H Q, Ex Hb H → Rep T Hb d x → Rep T Hb e y → (∀ v, Rep T Hb z v → Q v H) → r x y H Q) (p : P z μ) : OV T r d e μ P := fun x y Hb H Q ex sm rx ry q =>
  h x y Hb H Q ex rx ry fun v rv => q z μ v Hb H (.refl ex sm) rv p
theorem ov_I0 {g : Int → Int → Int} {i j : Int} (p : P (.int (g i j)) μ) : OV T (rI0 fun i j => .int (g i j)) (.int i) (.int j) μ P := ov_of (fun x y Hb H Q ex rx ry q => by
  cases rx; cases ry
  exact ⟨i, j, rfl, rfl, q _ (.int _)⟩) p
theorem ov_I {C : Int → Int → Prop} {g : Int → Int → Int} {i j : Int} (hc : C i j) (p : P (.int (g i j)) μ) : OV T (rI C fun i j => .int (g i j)) (.int i) (.int j) μ P := ov_of (fun x y Hb H Q ex rx ry q => by
  cases rx; cases ry
  exact ⟨i, j, rfl, rfl, hc, q _ (.int _)⟩) p
theorem ov_B0 {g : Int → Int → Bool} {i j : Int} (p : P (.bl (g i j)) μ) : OV T (rI0 fun i j => .bl (g i j)) (.int i) (.int j) μ P := ov_of (fun x y Hb H Q ex rx ry q => by
  cases rx; cases ry
  exact ⟨i, j, rfl, rfl, q _ (.bl _)⟩) p
theorem ov_add {i j : Int} (p : P (.int (i + j)) μ) : OV T (rI0 fun i j => .int (i + j)) (.int i) (.int j) μ P := ov_I0 p
theorem ov_sub {i j : Int} (p : P (.int (i - j)) μ) : OV T (rI0 fun i j => .int (i - j)) (.int i) (.int j) μ P := ov_I0 p
theorem ov_mul {i j : Int} (hc : IntMulOk i j) (p : P (.int (i * j)) μ) : OV T (rI IntMulOk fun i j => .int (i * j)) (.int i) (.int j) μ P := ov_I hc p
theorem ov_fdiv {i j : Int} (hc : CFd i j) (p : P (.int (i.fdiv j)) μ) : OV T (rI CFd fun i j => .int (i.fdiv j)) (.int i) (.int j) μ P := ov_I hc p
theorem ov_mod {i j : Int} (hc : j ≠ 0) (p : P (.int (i.fmod j)) μ) : OV T (rI (fun _ j => j ≠ 0) fun i j => .int (i.fmod j)) (.int i) (.int j) μ P := ov_I hc p
theorem ov_pow {i j : Int} (hc : CPow i j) (p : P (.int (i ^ j.toNat)) μ) : OV T (rI CPow fun i j => .int (i ^ j.toNat)) (.int i) (.int j) μ P := ov_I hc p
theorem ov_lt {i j : Int} (p : P (.bl (decide (i < j))) μ) : OV T (rI0 fun i j => .bl (decide (i < j))) (.int i) (.int j) μ P := ov_B0 p
theorem ov_le {i j : Int} (p : P (.bl (decide (i ≤ j))) μ) : OV T (rI0 fun i j => .bl (decide (i ≤ j))) (.int i) (.int j) μ P := ov_B0 p
theorem ov_gt {i j : Int} (p : P (.bl (decide (j < i))) μ) : OV T (rI0 fun i j => .bl (decide (j < i))) (.int i) (.int j) μ P := ov_B0 (g := fun i j => decide (j < i)) p
theorem ov_ge {i j : Int} (p : P (.bl (decide (j ≤ i))) μ) : OV T (rI0 fun i j => .bl (decide (j ≤ i))) (.int i) (.int j) μ P := ov_B0 (g := fun i j => decide (j ≤ i)) p
theorem ov_eqI {i j : Int} (p : P (.bl (decide (i = j))) μ) : OV T rEq (.int i) (.int j) μ P := ov_of (fun x y Hb H Q ex rx ry q => by
  cases rx; cases ry
  refine ⟨rfl, q _ ?_⟩
  rw [show decide (V.int i = V.int j) = decide (i = j) by simp]
  exact .bl _) p
theorem ov_neI {i j : Int} (p : P (.bl (!decide (i = j))) μ) : OV T rNe (.int i) (.int j) μ P := ov_of (fun x y Hb H Q ex rx ry q => by
  cases rx; cases ry
  refine ⟨rfl, q _ ?_⟩
  rw [show decide (V.int i = V.int j) = decide (i = j) by simp]
  exact .bl _) p
theorem ov_eqS {i j : Str} (p : P (.bl (decide (i = j))) μ) : OV T rEq (.str i) (.str j) μ P := ov_of (fun x y Hb H Q ex rx ry q => by
  cases rx; cases ry
  refine ⟨rfl, q _ ?_⟩
  rw [show decide (V.str i = V.str j) = decide (i = j) by simp]
  exact .bl _) p
theorem ov_neS {i j : Str} (p : P (.bl (!decide (i = j))) μ) : OV T rNe (.str i) (.str j) μ P := ov_of (fun x y Hb H Q ex rx ry q => by
  cases rx; cases ry
  refine ⟨rfl, q _ ?_⟩
  rw [show decide (V.str i = V.str j) = decide (i = j) by simp]
  exact .bl _) p
theorem ov_eqB {i j : Bool} (p : P (.bl (decide (i = j))) μ) : OV T rEq (.bl i) (.bl j) μ P := ov_of (fun x y Hb H Q ex rx ry q => by
  cases rx; cases ry
  refine ⟨rfl, q _ ?_⟩
  rw [show decide (V.bl i = V.bl j) = decide (i = j) by simp]
  exact .bl _) p
theorem ov_neB {i j : Bool} (p : P (.bl (!decide (i = j))) μ) : OV T rNe (.bl i) (.bl j) μ P := ov_of (fun x y Hb H Q ex rx ry q => by
  cases rx; cases ry
  refine ⟨rfl, q _ ?_⟩
  rw [show decide (V.bl i = V.bl j) = decide (i = j) by simp]
  exact .bl _) p
theorem at_rep {Hb : Hp} {ds : List D} {xs : List V} {i : Int} {d : D} (r : RepL T Hb ds xs) (h : atI ds i = some d) : ∃ v, atI xs i = some v ∧ Rep T Hb d v := by
  unfold atI at h ⊢
  rw [← r.1]
  cases e : ixN ds.length i with
  | none => rw [e] at h; cases h
  | some j =>
    rw [e] at h
    exact r.get h
theorem ov_ixL {d e : D} {ds : List D} {i : Int} (hd : Seqd d ds) (h : atI ds i = some e) (p : P e μ) : OV T (rIxL T.K) d (.int i) μ P := ov_of (fun x y Hb H Q ex rx ry q => by
  cases ry
  obtain ⟨a, xs, rfl, hx, r⟩ := hd.inv rx
  obtain ⟨v, hv, rv⟩ := at_rep r h
  exact ⟨a, xs, i, v, rfl, rfl, ex_l ex hx, hv, q v rv⟩) p
theorem ov_ixT {e : D} {ds : List D} {i : Int} (h : atI ds i = some e) (p : P e μ) : OV T (rIxT T.K) (.tup ds) (.int i) μ P := ov_of (fun x y Hb H Q ex rx ry q => by
  cases ry
  obtain ⟨a, xs, rfl, hx, r⟩ := rx.tup_inv
  obtain ⟨v, hv, rv⟩ := at_rep r h
  exact ⟨a, xs, i, v, rfl, rfl, ex_t ex hx, hv, q v rv⟩) p
theorem ov_ixM {e : D} {ds : List D} {i : Int} {a : Addr} (hm : μ a = some (.lst ds)) (h : atI ds i = some e) (p : P e μ) : OV T (rIxL T.K) (.ptr a) (.int i) μ P := fun x y Hb H Q ex sm rx ry q => by
  cases rx; cases ry
  obtain ⟨n, o, ho, r⟩ := sm a _ hm
  cases o with
  | lst xs =>
    obtain ⟨v, hv, rv⟩ := at_rep (show RepL T Hb ds xs from r) h
    exact ⟨a, xs, i, v, rfl, rfl, Evl.sq_of ho, hv, q _ _ _ _ _ (.refl ex sm) rv p⟩
  | _ => exact r.elim
theorem ov_cat {ds es : List D} (hl : ds.length + es.length ≤ 100000) (p : P (.lst (ds ++ es)) μ) : OV T rCat (.lst ds) (.lst es) μ P := fun x y Hb H Q ex sm rx ry q => by
  obtain ⟨a, xs, rfl, hx, r⟩ := rx.lst_inv
  obtain ⟨b, ys, rfl, hy, r'⟩ := ry.lst_inv
  refine ⟨a, b, xs, ys, rfl, rfl, ex _ _ hx, ex _ _ hy, by rw [← r.1, ← r'.1]; exact Evl.sz_of hl, fun p' hp => ?_⟩
  have g := Go.lay ex sm (o := .lst (xs ++ ys)) hp
  have rr := (r.app r').mono g.ex
  exact q _ _ _ _ _ g (.lst upd_same rr.1 rr.2) p
def cutD (ds : List D) (lo hi : Option Int) : List D := (ds.drop (HT.sIx ds.length 0 lo)).take (HT.sIx ds.length ds.length hi - HT.sIx ds.length 0 lo)
theorem ev_slL {tl th : TO} (h : EV T te W ⟨ρ, m0⟩ (fun d μ1 => OV' T tl W ⟨ρ, μ1⟩ (fun lo μ2 => OV' T th W ⟨ρ, μ2⟩ (fun hi μ3 => ∃ ds, Seqd d ds ∧ P (.lst (cutD ds lo hi)) μ3) XP) XP) XP) : EV T (tSl (rSlL T.K) te tl th) W ⟨ρ, m0⟩ P XP := fun σ Hb H Q S q x =>
  h σ Hb H _ S (fun d μ1 v Hb1 H1 g1 r1 p1 => p1 σ Hb1 H1 _ (S.go g1) (fun lo μ2 Hb2 H2 g2 p2 => p2 σ Hb2 H2 _ (S.go (g1.trans g2)) (fun hi μ3 Hb3 H3 g3 p3 => by
    obtain ⟨ds, hd, p⟩ := p3
    obtain ⟨a, xs, rfl, hx, r⟩ := hd.inv ((r1.mono g2.ex).mono g3.ex)
    refine ⟨a, xs, rfl, ex_l g3.sub hx, fun p' hp => ?_⟩
    have g := Go.lay g3.sub g3.mu (o := .lst (cutV xs lo hi)) hp
    have r0 : RepL T Hb3 (cutD ds lo hi) (cutV xs lo hi) := by
      unfold cutD cutV
      rw [← r.1]
      exact (r.drop _).take _
    have rr := r0.mono g.ex
    exact q _ _ _ _ _ (((g1.trans g2).trans g3).trans g) (.lst upd_same rr.1 rr.2) p)
    (fun y μ' cls dd Hb' H' g r p => x y μ' cls dd Hb' H' ((g1.trans g2).trans g) r p)) (fun y μ' cls dd Hb' H' g r p => x y μ' cls dd Hb' H' (g1.trans g) r p)) x
theorem cv_of {r : List V → Hp → VK → Prop} {ds : List D} {z : D} (h : ∀ xs Hb H Q, Ex Hb H → RepL T Hb ds xs → (∀ v, Rep T Hb z v → Q v H) → r xs H Q) (p : P z μ) : CV T r ds μ P := fun xs Hb H Q ex sm rx q =>
  h xs Hb H Q ex rx fun v rv => q z μ v Hb H (.refl ex sm) rv p
theorem one_inv {Hb : Hp} {d : D} {xs : List V} (r : RepL T Hb [d] xs) : ∃ v, xs = [v] ∧ Rep T Hb d v := by
  obtain ⟨v, ys, rfl, r1, r⟩ := r.cons_inv
  obtain rfl := r.nil_inv
  exact ⟨v, rfl, r1⟩
theorem two_inv {Hb : Hp} {d e : D} {xs : List V} (r : RepL T Hb [d, e] xs) : ∃ v w, xs = [v, w] ∧ Rep T Hb d v ∧ Rep T Hb e w := by
  obtain ⟨v, ys, rfl, r1, r⟩ := r.cons_inv
  obtain ⟨w, rfl, r2⟩ := one_inv r
  exact ⟨v, w, rfl, r1, r2⟩
abbrev rLen (K : PySem.W.Frag) : List V → Hp → VK → Prop := fun xs H Q => ∃ x n, xs = [x] ∧ LenV K x H n ∧ Q (.int n) H
theorem cv_len {d : D} {ds : List D} (hd : Seqd d ds) (p : P (.int (ds.length : Int)) μ) : CV T (rLen T.K) [d] μ P := cv_of (fun xs Hb H Q ex r q => by
  obtain ⟨v, rfl, r1⟩ := one_inv r
  obtain ⟨a, xs, rfl, hx, r2⟩ := hd.inv r1
  exact ⟨_, ds.length, rfl, Or.inl ⟨xs, ex_l ex hx, r2.1⟩, q _ (.int _)⟩) p
theorem cv_lenT {ds : List D} (p : P (.int (ds.length : Int)) μ) : CV T (rLen T.K) [.tup ds] μ P := cv_of (fun xs Hb H Q ex r q => by
  obtain ⟨v, rfl, r1⟩ := one_inv r
  obtain ⟨a, xs, rfl, hx, r2⟩ := r1.tup_inv
  exact ⟨_, ds.length, rfl, Or.inr ⟨xs, ex_t ex hx, r2.1⟩, q _ (.int _)⟩) p
abbrev rAbs : List V → Hp → VK → Prop := fun xs H Q => ∃ i, xs = [.int i] ∧ Q (.int (if i < 0 then -i else i)) H
theorem cv_abs {i : Int} (p : P (.int (i.natAbs : Int)) μ) : CV T rAbs [.int i] μ P := cv_of (fun xs Hb H Q ex r q => by
  obtain ⟨v, rfl, r1⟩ := one_inv r
  cases r1
  refine ⟨i, rfl, q _ ?_⟩
  rw [show (if i < 0 then -i else i) = (i.natAbs : Int) by split <;> omega]
  exact .int _) p
abbrev rInt1 : List V → Hp → VK → Prop := fun xs H Q => (∃ i, xs = [.int i] ∧ Q (.int i) H) ∨ ∃ k, xs = [.bl k] ∧ Q (.int (if k then 1 else 0)) H
theorem cv_intB {b : Bool} (p : P (.int (if b then 1 else 0)) μ) : CV T rInt1 [.bl b] μ P := cv_of (fun xs Hb H Q ex r q => by
  obtain ⟨v, rfl, r1⟩ := one_inv r
  cases r1
  exact .inr ⟨b, rfl, q _ (.int _)⟩) p
theorem cv_any {d : D} {bs : List Bool} (hd : Seqd d (bs.map D.bl)) (p : P (.bl (bs.any id)) μ) : CV T (rAny T.K) [d] μ P := cv_of (fun xs Hb H Q ex r q => by
  obtain ⟨v, rfl, r1⟩ := one_inv r
  obtain ⟨a, xs, rfl, hx, r2⟩ := hd.inv r1
  obtain rfl := r2.bls
  exact ⟨a, bs, rfl, ex_l ex hx, q _ (.bl _)⟩) p
theorem cv_all {d : D} {bs : List Bool} (hd : Seqd d (bs.map D.bl)) (p : P (.bl (bs.all id)) μ) : CV T (rAll T.K) [d] μ P := cv_of (fun xs Hb H Q ex r q => by
  obtain ⟨v, rfl, r1⟩ := one_inv r
  obtain ⟨a, xs, rfl, hx, r2⟩ := hd.inv r1
  obtain rfl := r2.bls
  exact ⟨a, bs, rfl, ex_l ex hx, q _ (.bl _)⟩) p
theorem cv_sum {d : D} {ns : List Int} (hd : Seqd d (ns.map D.int)) (p : P (.int ns.sum) μ) : CV T (rSum T.K) [d] μ P := cv_of (fun xs Hb H Q ex r q => by
  obtain ⟨v, rfl, r1⟩ := one_inv r
  obtain ⟨a, xs, rfl, hx, r2⟩ := hd.inv r1
  obtain rfl := r2.ints
  exact ⟨a, ns, rfl, ex_l ex hx, q _ (.int _)⟩) p
structure InsCls (K : PySem.W.Frag) (C : Addr) : Prop where
  cl : Cls K C
  ha : PySem.W.findIn K (.ref C) "__class__" = some (some (.builtin "object.__class__"))
  hn : PySem.W.specialIn K (.builtin "object.__class__") "__get__" = some (some (.builtin "getset_descriptor.__get__"))
  htk : PySem.W.takesIn K (.builtin "object.__class__") = some true
  hm : PySem.W.mroIn K C (.type "object") = some true
inductive TyD (T : Cfg) : D → Value → Prop where
  | non : TyD T .non (.type "NoneType")
  | bl (b : Bool) : TyD T (.bl b) (.type "bool")
  | int (i : Int) : TyD T (.int i) (.type "int")
  | str (x : Str) : TyD T (.str x) (.type "str")
  | lst (ds : List D) : TyD T (.lst ds) (.type "list")
  | tup (ds : List D) : TyD T (.tup ds) (.type "tuple")
  | dic (kvs : List (Key × D)) : TyD T (.dic kvs) (.type "dict")
  | ins {c : Nat} {gs : List (Str × D)} (h : InsCls T.K (T.cls c)) : TyD T (.ins c gs) (.ref (T.cls c))
theorem TyD.tyx {d : D} {t : Value} {v : V} {Hb H : Hp} (h : TyD T d t) (r : Rep T Hb d v) (ex : Ex Hb H) : TyX T.K H v t := by
  cases h with
  | non => cases r; exact .base .non
  | bl b => cases r; exact .base (.bl b)
  | int i => cases r; exact .base (.int i)
  | str x => cases r; exact .base (.str x)
  | lst ds =>
    obtain ⟨a, xs, rfl, h, _⟩ := r.lst_inv
    exact .base (.lst (ex _ _ h))
  | tup ds =>
    obtain ⟨a, xs, rfl, h, _⟩ := r.tup_inv
    rcases h with (h | ⟨o, h⟩) | ⟨o, its, n, h, c, _⟩
    · exact .base (.tup (ex _ _ h))
    · exact .fTuple (ex _ _ h)
    · exact .kTuple h c
  | dic kvs =>
    cases r with
    | dic h l r => exact .base (.dK (ex _ _ h))
  | ins hc =>
    obtain ⟨a, dx, fs, rfl, h, _⟩ := r.ins_inv
    exact .base (.ins (ex _ _ h) hc.cl hc.ha hc.hn hc.htk hc.hm)
theorem cv_isi {d : D} {t : Value} {C : Addr} {b : Bool} (ht : TyD T d t) (hk : PySem.W.kitOne T.K t (.ref C) = some b) (p : P (.bl b) μ) : CV T (rIsi T.K) [d, .ptr C] μ P := cv_of (fun xs Hb H Q ex r q => by
  obtain ⟨v, w, rfl, r1, r2⟩ := two_inv r
  cases r2
  exact ⟨v, _, t, _, b, rfl, .own C, ht.tyx r1 ex, hk, q _ (.bl _)⟩) p
theorem cv_isiT {d : D} {t : Value} {n : String} {b : Bool} (ht : TyD T d t) (hk : PySem.W.kitOne T.K t (.type n) = some b) (p : P (.bl b) μ) : CV T (rIsi T.K) [d, .ty n] μ P := cv_of (fun xs Hb H Q ex r q => by
  obtain ⟨v, w, rfl, r1, r2⟩ := two_inv r
  cases r2
  exact ⟨v, _, t, _, b, rfl, .ty n, ht.tyx r1 ex, hk, q _ (.bl _)⟩) p
theorem well_open {a : Addr} {b : Nat} {Hb H : Hp} (sm : SimMu T μ Hb H) (h : μ a = some (.well b)) : ∃ w0 w1 w2 : Int, 0 ≤ w0 ∧ 0 ≤ w1 ∧ w1 < 2147483647 ∧ 0 ≤ w2 ∧ w2 + (b : Int) ≤ 1073741824 ∧ SimMu T (put μ a (.lst [.int w0, .int w1, .int w2])) Hb H := by
  obtain ⟨n, o, ho, r⟩ := sm a _ h
  cases o with
  | lst xs =>
    obtain ⟨w0, w1, w2, rfl, h0, h1, h2, h3, h4⟩ := r
    refine ⟨w0, w1, w2, h0, h1, h2, h3, h4, sm.as fun c m e => ?_⟩
    by_cases ec : c = a
    · subst ec
      rw [put_same] at e
      cases e
      exact ⟨n, _, ho, .cons (.int w0) (.cons (.int w1) (.cons (.int w2) .nil))⟩
    · rw [put_ne ec] at e; exact sm c m e
  | _ => exact r.elim
theorem well_close {a : Addr} {b : Nat} {w0 w1 w2 : Int} {Hb H : Hp} (sm : SimMu T μ Hb H) (h : μ a = some (.lst [.int w0, .int w1, .int w2])) (h0 : 0 ≤ w0) (h1 : 0 ≤ w1) (h2 : w1 < 2147483647) (h3 : 0 ≤ w2) (h4 : w2 + (b : Int) ≤ 1073741824) : SimMu T (put μ a (.well b)) Hb H := by
  refine sm.as fun c m e => ?_
  by_cases ec : c = a
  · subst ec
    rw [put_same] at e
    cases e
    obtain ⟨n, o, ho, r⟩ := sm c _ h
    cases o with
    | lst xs =>
      have r : RepL T Hb [.int w0, .int w1, .int w2] xs := r
      obtain ⟨v, ys, rfl, r1, rr⟩ := r.cons_inv
      obtain ⟨v', w', rfl, r2, r3⟩ := two_inv rr
      cases r1; cases r2; cases r3
      exact ⟨n, _, ho, w0, w1, w2, rfl, h0, h1, h2, h3, h4⟩
    | _ => exact r.elim
  · rw [put_ne ec] at e; exact sm c m e
theorem Go.told {μ1 μ2 : Mu} {Hb H Hb' H' : Hp} (g : Go T μ Hb H μ1 Hb' H') (hn : ∀ a m, μ2 a = some m → μ1 a ≠ none) (sm : SimMu T μ2 Hb' H') : Go T μ Hb H μ2 Hb' H' :=
  ⟨g.ex, g.keep, fun a m e => by
    cases q : μ1 a with
    | none => exact absurd q (hn a m e)
    | some z => exact g.new a z q, g.alive, g.sub, sm⟩
theorem sv_well {ts : TS} {K : Out → Prop} {a : Addr} {b : Nat} (h : m0 a = some (.well b)) (k : ∀ w0 w1 w2 : Int, 0 ≤ w0 → 0 ≤ w1 → w1 < 2147483647 → 0 ≤ w2 → w2 + (b : Int) ≤ 1073741824 → SV T ts W ⟨ρ, put m0 a (.lst [.int w0, .int w1, .int w2])⟩ K) : SV T ts W ⟨ρ, m0⟩ K := fun σ Hb H Dn S c => by
  obtain ⟨w0, w1, w2, h0, h1, h2, h3, h4, sm⟩ := well_open S.mu h
  have g : Go T m0 Hb H (put m0 a (.lst [.int w0, .int w1, .int w2])) Hb H := S.refl.told (fun c m e => by
    show m0 c ≠ none
    by_cases ec : c = a
    · rw [ec, h]; simp
    · rw [put_ne ec] at e; rw [e]; simp) sm
  exact k w0 w1 w2 h0 h1 h2 h3 h4 σ Hb H Dn (S.go g) (c.go g)
theorem ev_close {a : Addr} (h : EV T te W ⟨ρ, m0⟩ (fun d μ => ∃ b w0 w1 w2, μ a = some (.lst [.int w0, .int w1, .int w2]) ∧ 0 ≤ w0 ∧ 0 ≤ w1 ∧ w1 < 2147483647 ∧ 0 ≤ w2 ∧ w2 + ((b : Nat) : Int) ≤ 1073741824 ∧ P d (put μ a (.well b))) XP) : EV T te W ⟨ρ, m0⟩ P XP := fun σ Hb H Q S q x =>
  h σ Hb H Q S (fun d μ v Hb' H' g r p => by
    obtain ⟨b, w0, w1, w2, hm, h0, h1, h2, h3, h4, p⟩ := p
    exact q _ _ _ _ _ (g.told (fun c m e => by
      by_cases ec : c = a
      · rw [ec, hm]; simp
      · rw [put_ne ec] at e; rw [e]; simp) (well_close g.mu hm h0 h1 h2 h3 h4)) r p) x
theorem ev_newWell {ta : TA} (h : EA T ta W ⟨ρ, m0⟩ (fun ds μ => ∃ (b : Nat) (w0 w1 w2 : Int), ds = [.int w0, .int w1, .int w2] ∧ 0 ≤ w0 ∧ 0 ≤ w1 ∧ w1 < 2147483647 ∧ 0 ≤ w2 ∧ w2 + (b : Int) ≤ 1073741824 ∧ ∀ a, μ a = none → P (.ptr a) (put μ a (.well b))) XP) : EV T (tLst ta) W ⟨ρ, m0⟩ P XP := fun σ Hb H Q S q x =>
  h σ Hb H _ S (fun ds μ1 vs Hb1 H1 g1 r1 p1 => by
    obtain ⟨b, w0, w1, w2, rfl, h0, h1, h2, h3, h4, p1⟩ := p1
    refine ⟨by rw [← r1.1]; exact Evl.sz_of (by simp), fun p hp => ?_⟩
    have g := Go.own g1.sub g1.mu (o := .lst vs) (z := .lst [.int w0, .int w1, .int w2]) hp r1
    have g2 := (g1.trans g).told (μ2 := put μ1 p (.well b)) (fun c m e => by
      by_cases ec : c = p
      · rw [ec, put_same]; simp
      · rw [put_ne ec] at e ⊢; rw [e]; simp) (by
        have := well_close g.mu put_same h0 h1 h2 h3 h4
        rwa [put_put] at this)
    refine q _ _ _ _ _ g2 (.ptr p) (p1 p ?_)
    cases e : μ1 p with
    | none => rfl
    | some m =>
      obtain ⟨_, o, ho, _⟩ := g1.mu p m e
      rw [hp] at ho; cases ho) x
end
end Pw
namespace Pw
open PySem PySem.Spec PyProof.Rows L2
open Evl (Ex ex_l ex_t fresh_back)
section
variable {X : Cx} {n : Nat} {CX : CXT} {C f : Addr} {fd : FuncData} {ps : List Str} {sp : Sp} {E : XK} {pins : List (Addr × Obj)} {s : Shared} {σ : L2.St} {H : Hp}
theorem call_under (F : FnOk X.prog X.w X.K X.mg X.base CX n f fd ps sp) (hb : Binds X.K fd ps []) (hx : Passes CX X E) {A : Around} (sb : Sub X n A) (I : Inv X pins σ H s) {vs : List V} {us : List Value} {Q : VK} (r : Vals vs us) (hsp : sp vs H Q E) :
    wpAny (model X.prog X.w) A (call (.ref f) us) (EP X pins σ Q) X.xe s := by
  have e0 : Env0 X.prog X.w X.K X.mg X.base A X.stack s H := by
    have e := I.env0
    exact ⟨by rw [sb.fr]; exact e.frames, e.mod, e.bs, e.bsz, e.funs, e.frf, e.hok, e.bare⟩
  have hl := F.len _ _ _ _ hsp
  refine wpAny_call (codeAny_mono (F.run A X.stack s H ⟨us, []⟩ us vs _ E sb.room e0 (by
    have := hb s us I.kIn (by rw [List.append_nil, ← r.length]; exact hl)
    simpa using this) r hsp) fun r s' hq => ?_)
  cases r with
  | error e => exact hx pins σ H s e s' I hq
  | ok fl =>
    cases fl with
    | ret w => exact I.after hq
    | next => exact False.elim hq
    | brk => exact False.elim hq
    | cont => exact False.elim hq
def rOwnEq (K : PySem.W.Frag) (C : Addr) (sp : Sp) (E : XK) : R2 := fun x y H Q => ∃ a dx fs t, x = .ref a ∧ H a = some (.ins C dx fs) ∧ TyX K H y t ∧ PySem.W.notFirst K C t = true ∧ sp [x, y] H (fun v H' => (∃ b, v = .bl b) ∧ Q v H') E
theorem op_ownEq (F : FnOk X.prog X.w X.K X.mg X.base CX n f fd ps sp) (hs : PySem.W.findIn X.K (.ref C) "__eq__" = some (some (.ref f))) (hf : PySem.W.isFn X.K (.ref f) = true) (hb : Binds X.K fd ps []) (hx : Passes CX X E) (hr : Room n X.A) :
    OpR X (compareOp .Eq) (rOwnEq X.K C sp E) := by
  intro pins s σ H x y v u Q I rx ry h
  obtain ⟨a, dx, fs, t, rfl, ha, ty, nf, hsp⟩ := h
  cases (show v = Value.ref a from rx)
  obtain ⟨mA, J, _⟩ := ins_get I.hok ha
  obtain ⟨od, J, _⟩ := J.look
  obtain ⟨m, hF⟩ := I.fr
  obtain ⟨P, Z, p, _⟩ := kit_of I ry ty
  show wpAny (model X.prog X.w) X.A (richCompare .Eq (.ref a) u) (EP X pins σ Q) X.xe s
  refine PySem.W.cmp_K (op := .Eq) (tb := t) hr.units0 hF I.ok.mod.kin J (Z.ty _ _ I.kIn p) nf hs hf ?_
  refine wpAny_mono (call_under F hb hx (⟨hr, rfl⟩ : Sub X n X.A) I (vs := [.ref a, y]) (us := [.ref a, u]) (.cons rfl (.cons ry .nil)) hsp) (fun z s' hz => ?_) fun _ _ e => e
  obtain ⟨v, H', I', rv, ⟨b, rfl⟩, q⟩ := hz
  cases (show z = Value.bool b from rv)
  exact ⟨.bl b, H', I', rfl, q⟩
def rOwnNe (K : PySem.W.Frag) (C : Addr) (sp : Sp) (E : XK) : R2 := fun x y H Q => ∃ a dx fs t, x = .ref a ∧ H a = some (.ins C dx fs) ∧ TyX K H y t ∧ PySem.W.notFirst K C t = true ∧ sp [x, y] H (fun v H' => ∃ b, v = .bl b ∧ Q (.bl (!b)) H') E
theorem ne_K {prog : Program} {w : World} {A : Around} {Ex : Value → Shared → Prop} {K : PySem.W.Frag} {x C L f : Addr} {h₀ : Heap} {m : Str → Option Value} {ox : Obj} {od : Option Obj} {b tb : Value} {Q : Value → Shared → Prop} (hu : A.units + 1 < cLine) (Fh : Fr h₀ L s.heap m) (X₀ : K.In h₀) (I : PySem.W.InstAt s.heap x ox C od)
    (hb : PySem.W.Looks (model prog w) s.heap (typeOf b) tb) (hn : PySem.W.notFirst K C tb = true) (hm : PySem.W.mroIn K C (.type "object") = some true)
    (hne : PySem.W.findIn K (.ref C) "__ne__" = some (some (.builtin "object.__ne__"))) (hs : PySem.W.findIn K (.ref C) "__eq__" = some (some (.ref f))) (hf : PySem.W.isFn K (.ref f) = true)
    (h : wpAny (model prog w) A.in1 (call (.ref f) [.ref x, b]) (fun v s' => ∃ k, v = .bool k ∧ Q (.bool (!k)) s') Ex s) : wpAny (model prog w) A (richCompare .NotEq (.ref x) b) Q Ex s := by
  have XX := X₀.keeps Fh.keep
  have body : wpAny (model prog w) A (call (.builtin "object.__ne__") [.ref x, b]) (fun v s' => ∃ k, v = .bool k ∧ Q (.bool k) s') Ex s := by
    refine wpAny_call (codeAny_call_builtin F.cmp_object.ne.plain F.cmpEntry_ne (PySem.W.check_slot (i := "object.__ne__") (owner := "object") (n := "__ne__") (by decide +kernel) (by decide +kernel) (I.type.andThen (PySem.W.looks_mroIn XX hm)) (F.cmpArgs_ne _ _) ?_))
    obtain ⟨hp, g, d, t, os⟩ := s
    unfold Builtin.«object.__ne__»
    repeat (first
      | with_reducible refine wpAny_cRoomFor hu ?_
      | (refine wpAny_bind (m := callSpecialIfBound? (.ref x) (Str.ofString "__eq__") [b])
          (PySem.W.ifBound_K XX I hs hf (wpAny_mono h (fun r s' hr => by
            obtain ⟨k, rfl, hq⟩ := hr
            repeat (first | exact ⟨_, rfl, hq⟩ | exact wpAny_pure ⟨_, rfl, hq⟩ | exact wpAny_truthy_bool ⟨_, rfl, hq⟩ | (refine wpAny_bind (m := truthy (.bool _)) (wpAny_truthy_bool ?_)) | wp_step)) fun _ _ e => e)))
      | wp_step)
  have one : wpAny (model prog w) A (tryCompare (.ref x) "__ne__" b) (fun r s' => ∃ v, r = some v ∧ Q v s') Ex s := by
    unfold tryCompare
    simp only [callSpecialIfBound?, bindSpecialIfBound?]
    refine wpAny_bind ?_
    refine wpAny_holding (wpAny_bind (wpAny_bind (wpAny_bind (I.type.here ((PySem.W.looks_findIn XX hne).here ?_)))))
    simp only [F.cmp_object.ne.bind]
    refine wpAny_bind (wpAny_askSetting (wpAny_ite ?_))
    have fin : wpAny (model prog w) A (call (.builtin "object.__ne__") ([.ref x] ++ [b]) >>= fun v => pure (some v)) (fun a s' => wpAny (model prog w) A (match a with
        | some .notImplemented | none => pure none
        | some v => pure (some v)) (fun r s' => ∃ v, r = some v ∧ Q v s') Ex s') Ex s := wpAny_bind (wpAny_mono body (fun v s' hv => by
      obtain ⟨k, rfl, hq⟩ := hv
      exact wpAny_pure (wpAny_pure ⟨_, rfl, hq⟩)) fun _ _ e => e)
    split
    · exact wpAny_bind (wpAny_pure (wpAny_pure fin))
    · exact wpAny_tryCatch (wpAny_bind (wpAny_pure (wpAny_pure fin)))
  unfold richCompare
  simp only [oneThing_ref]
  refine wpAny_holding (wpAny_bind (wpAny_cRoomFor (Nat.lt_of_succ_lt hu) ?_))
  refine wpAny_bind (I.type.here (wpAny_bind (hb.here ?_)))
  split
  · rename_i q
    have e : PySem.W.subIn K tb (.ref C) = some false := by
      rcases Bool.or_eq_true_iff.mp hn with e | e
      · rw [beq_iff_eq.mp e] at q; simp at q
      · exact beq_iff_eq.mp e
    refine wpAny_bind ((PySem.W.looks_subIn XX e).here ?_)
    simp only [Bool.false_eq_true, if_false]
    refine wpAny_bind (wpAny_mono one (fun r s' z => ?_) fun _ _ e => e)
    obtain ⟨v, rfl, hq⟩ := z
    exact wpAny_pure hq
  · refine wpAny_bind (wpAny_pure ?_)
    simp only [Bool.false_eq_true, if_false]
    refine wpAny_bind (wpAny_mono one (fun r s' z => ?_) fun _ _ e => e)
    obtain ⟨v, rfl, hq⟩ := z
    exact wpAny_pure hq
theorem op_ownNe (F : FnOk X.prog X.w X.K X.mg X.base CX n f fd ps sp) (hm : PySem.W.mroIn X.K C (.type "object") = some true) (hne : PySem.W.findIn X.K (.ref C) "__ne__" = some (some (.builtin "object.__ne__"))) (hs : PySem.W.findIn X.K (.ref C) "__eq__" = some (some (.ref f))) (hf : PySem.W.isFn X.K (.ref f) = true) (hb : Binds X.K fd ps []) (hx : Passes CX X E) (hr : Room (n + 1) X.A) :
    OpR X (compareOp .NotEq) (rOwnNe X.K C sp E) := by
  intro pins s σ H x y v u Q I rx ry h
  obtain ⟨a, dx, fs, t, rfl, ha, ty, nf, hsp⟩ := h
  cases (show v = Value.ref a from rx)
  obtain ⟨mA, J, _⟩ := ins_get I.hok ha
  obtain ⟨od, J, _⟩ := J.look
  obtain ⟨m, hF⟩ := I.fr
  obtain ⟨P, Z, p, _⟩ := kit_of I ry ty
  show wpAny (model X.prog X.w) X.A (richCompare .NotEq (.ref a) u) (EP X pins σ Q) X.xe s
  refine ne_K (tb := t) (hu_of hr) hF I.ok.mod.kin J (Z.ty _ _ I.kIn p) nf hm hne hs hf ?_
  refine wpAny_mono (call_under F hb hx (⟨hr.in1, rfl⟩ : L2.Sub X n X.A.in1) I (vs := [.ref a, y]) (us := [.ref a, u]) (.cons rfl (.cons ry .nil)) hsp) (fun z s' hz => ?_) fun _ _ e => e
  obtain ⟨v, H', I', rv, b, rfl, q⟩ := hz
  cases (show z = Value.bool b from rv)
  exact ⟨b, rfl, .bl (!b), H', I', rfl, q⟩
end
section
variable {T : Cfg} {P : D → Mu → Prop} {μ : Mu}
theorem ov_ownEq {c : List D → (D → Prop) → (XD → Prop) → Prop} {k : Nat} {gs : List (Str × D)} {e : D} {t : Value} {E : XK} (ht : TyD T e t) (hn : PySem.W.notFirst T.K (T.cls k) t = true) (h : c [.ins k gs, e] (fun d => (∃ b, d = .bl b) ∧ P d μ) (fun _ => False)) :
    OV T (rOwnEq T.K (T.cls k) (spOf T (pu c)) E) (.ins k gs) e μ P := fun x y Hb H Q ex sm rx ry q => by
  obtain ⟨a, dx, fs, rfl, ha, r⟩ := id rx.ins_inv
  refine ⟨a, dx, fs, t, rfl, ex _ _ ha, ht.tyx ry ex, hn, [.ins k gs, e], mu0, Hb, fun d μ' => μ' = mu0 ∧ (∃ b, d = .bl b) ∧ P d μ, fun _ _ => False, ex, sm.nil, .cons rx (.cons ry .nil), ⟨rfl, _, _, h, fun d k => ⟨rfl, k⟩, fun _ k => k⟩, fun d μ' v Hb' H' g r k => ?_, fun _ _ _ _ _ _ _ _ k => k.elim⟩
  obtain ⟨rfl, ⟨b, rfl⟩, k⟩ := k
  cases r
  have g' := g.widen sub_nil sm
  rw [mrg_nil] at g'
  exact ⟨⟨b, rfl⟩, q _ _ _ _ _ g' (.bl b) k⟩
theorem ov_ownNe {c : List D → (D → Prop) → (XD → Prop) → Prop} {k : Nat} {gs : List (Str × D)} {e : D} {t : Value} {E : XK} (ht : TyD T e t) (hn : PySem.W.notFirst T.K (T.cls k) t = true) (h : c [.ins k gs, e] (fun d => ∃ b, d = .bl b ∧ P (.bl (!b)) μ) (fun _ => False)) :
    OV T (rOwnNe T.K (T.cls k) (spOf T (pu c)) E) (.ins k gs) e μ P := fun x y Hb H Q ex sm rx ry q => by
  obtain ⟨a, dx, fs, rfl, ha, r⟩ := id rx.ins_inv
  refine ⟨a, dx, fs, t, rfl, ex _ _ ha, ht.tyx ry ex, hn, [.ins k gs, e], mu0, Hb, fun d μ' => μ' = mu0 ∧ ∃ b, d = .bl b ∧ P (.bl (!b)) μ, fun _ _ => False, ex, sm.nil, .cons rx (.cons ry .nil), ⟨rfl, _, _, h, fun d k => ⟨rfl, k⟩, fun _ k => k⟩, fun d μ' v Hb' H' g r k => ?_, fun _ _ _ _ _ _ _ _ k => k.elim⟩
  obtain ⟨rfl, b, rfl, k⟩ := k
  cases r
  have g' := g.widen sub_nil sm
  rw [mrg_nil] at g'
  exact ⟨b, rfl, q _ _ _ _ _ g' (.bl _) k⟩
end
end Pw
namespace Pw
open PySem PySem.Spec PyProof.Rows L2
open Evl (Ex ex_l ex_t fresh_back)
abbrev rIsN : R2 := fun x y H Q => y = .non ∧ Q (.bl (decide (x = .non))) H
abbrev tRaise0 (C : Addr) (E : XK) : TS := fun _ _ H => E (.ref C) none H
abbrev rListOf (K : PySem.W.Frag) : List V → Hp → VK → Prop := fun xs H Q => ∃ p ys, xs = [.ref p] ∧ (SqL K H p ys ∨ SqT K H p ys) ∧ ∀ l, H l = none → Q (.ref l) (upd H l (.lst ys))
abbrev rTupOf (K : PySem.W.Frag) : List V → Hp → VK → Prop := fun xs H Q => ∃ p ys, xs = [.ref p] ∧ ((SqL K H p ys ∧ ∀ l, H l = none → Q (.ref l) (upd H l (.tup ys))) ∨ (SqT K H p ys ∧ Q (.ref p) H))
section
variable {T : Cfg} {W : WX} {s : S} {ρ : List (Option D)} {m0 : Mu} {XP : XW} {ta tb te : TE} {P : D → Mu → Prop} {μ : Mu} {K : Out → Prop}
theorem uv_neg {i : Int} (p : P (.int (-i)) μ) : UV T (rU fun i => .int (-i)) (.int i) μ P := fun x Hb H Q ex sm rx q => by
  cases rx
  exact ⟨i, rfl, q _ _ _ _ _ (.refl ex sm) (.int _) p⟩
theorem sv_raise0 {C : Addr} {E : XK} (hW : ∀ σ cls dd H, W cls dd σ H → E cls dd H) (k : K (.xr ⟨.ref C, none⟩ ⟨ρ, m0⟩)) : SV T (tRaise0 C E) W ⟨ρ, m0⟩ K := fun σ Hb H Dn S c =>
  hW σ _ _ _ (c.xr ⟨.ref C, none⟩ ⟨ρ, m0⟩ (.ref C) none σ Hb H S.refl S ⟨rfl, rfl⟩ k)
end
mutual
inductive DPy : D → PyData → Prop
  | non : DPy .non .none
  | bl (b : Bool) : DPy (.bl b) (.bool b)
  | int (i : Int) : DPy (.int i) (.int i)
  | str (x : Str) : DPy (.str x) (.str x)
  | lst {ds : List D} {ps : List PyData} : DPyL ds ps → DPy (.lst ds) (.list ps)
  | seq {ds : List D} {ps : List PyData} : DPyL ds ps → DPy (.seq ds) (.list ps)
  | tup {ds : List D} {ps : List PyData} : DPyL ds ps → DPy (.tup ds) (.tuple ps)
inductive DPyL : List D → List PyData → Prop
  | nil : DPyL [] []
  | cons {d : D} {p : PyData} {ds : List D} {ps : List PyData} : DPy d p → DPyL ds ps → DPyL (d :: ds) (p :: ps)
end
section
variable {T : Cfg} {Hb H : Hp}
mutual
theorem DPy.dp (ex : Ex Hb H) : ∀ (p : PyData) (d : D) (v : V), DPy d p → Rep T Hb d v → Dp T.K H v p
  | .none, _, _, h, r => by cases h; cases r; exact .non
  | .bool b, _, _, h, r => by cases h; cases r; exact .bl b
  | .int i, _, _, h, r => by cases h; cases r; exact .int i
  | .str x, _, _, h, r => by cases h; cases r; exact .str x
  | .list ps, _, _, h, r => by
    cases h with
    | lst hl =>
      obtain ⟨a, xs, rfl, ha, rl⟩ := r.lst_inv
      exact .lst (Evl.sq_of (ex _ _ ha)) (DPyL.dp ex ps _ xs hl rl)
    | seq hl =>
      obtain ⟨a, xs, rfl, ha, rl⟩ := r.seq_inv
      exact .lst (ex_l ex ha) (DPyL.dp ex ps _ xs hl rl)
  | .tuple ps, _, _, h, r => by
    cases h with
    | tup hl =>
      obtain ⟨a, xs, rfl, ha, rl⟩ := r.tup_inv
      exact .tup (ex_t ex ha) (DPyL.dp ex ps _ xs hl rl)
  | .dict _, _, _, h, _ => by cases h
theorem DPyL.dp (ex : Ex Hb H) : ∀ (ps : List PyData) (ds : List D) (vs : List V), DPyL ds ps → RepL T Hb ds vs → DpAll T.K H vs ps
  | [], _, _, h, r => by
    cases h
    obtain rfl := r.nil_inv
    exact .nil
  | p :: ps, _, _, h, r => by
    cases h with
    | cons h1 h2 =>
      obtain ⟨v, ys, rfl, r1, r2⟩ := r.cons_inv
      exact .cons (DPy.dp ex p _ v h1 r1) (DPyL.dp ex ps _ ys h2 r2)
end
variable {P : D → Mu → Prop} {μ : Mu}
theorem ov_eqD {d e : D} {p q : PyData} (hd : DPy d p) (he : DPy e q) (sd : SeqAt.shaped p = true) (se : SeqAt.shaped q = true) (k : P (.bl (PyData.eqv p q)) μ) : OV T (rEqD T.K) d e μ P := ov_of (fun x y Hb H Q ex rx ry w =>
  ⟨p, q, DPy.dp ex p d x hd rx, DPy.dp ex q e y he ry, sd, se, w _ (.bl _)⟩) k
theorem ov_neD {d e : D} {p q : PyData} (hd : DPy d p) (he : DPy e q) (sd : SeqAt.shaped p = true) (se : SeqAt.shaped q = true) (k : P (.bl (!PyData.eqv p q)) μ) : OV T (rNeD T.K) d e μ P := ov_of (fun x y Hb H Q ex rx ry w =>
  ⟨p, q, DPy.dp ex p d x hd rx, DPy.dp ex q e y he ry, sd, se, w _ (.bl _)⟩) k
theorem dpy2 {a b : Int} : DPy (.tup [.int a, .int b]) (.tuple [.int a, .int b]) := .tup (.cons (.int a) (.cons (.int b) .nil))
theorem eqv2 {a b c d : Int} : PyData.eqv (.tuple [.int a, .int b]) (.tuple [.int c, .int d]) = decide (a = c ∧ b = d) := by
  show (a == c && (b == d && true)) = _
  by_cases h1 : a = c
  · by_cases h2 : b = d
    · simp [h1, h2]
    · simp [h1, h2]
  · simp [h1]
theorem ov_eq2 {a b c d : Int} (k : P (.bl (decide (a = c ∧ b = d))) μ) : OV T (rEqD T.K) (.tup [.int a, .int b]) (.tup [.int c, .int d]) μ P := ov_eqD dpy2 dpy2 rfl rfl (by rw [eqv2]; exact k)
theorem ov_ne2 {a b c d : Int} (k : P (.bl (!decide (a = c ∧ b = d))) μ) : OV T (rNeD T.K) (.tup [.int a, .int b]) (.tup [.int c, .int d]) μ P := ov_neD dpy2 dpy2 rfl rfl (by rw [eqv2]; exact k)
end
def fdOf (K : PySem.W.Frag) (f : Addr) : FuncData := match K.lookup f with
  | some ⟨_, _, .func fd, _⟩ => fd
  | _ => PySem.W.fnOf "" "" ⟨[], [], none, [], [], none, []⟩ [] ⟨.function, [], false, false, []⟩ .none .none .none .none none .none .none
theorem fdOf_ok {K : PySem.W.Frag} {x qual : Str} {params : Arguments} {body : List Stmt} {scope : Scope} {dvs : List V} {kws : List (Str × V)} {f : Addr} (h : ∃ fd, FunD K x qual params body scope dvs kws f fd) : FunD K x qual params body scope dvs kws f (fdOf K f) := by
  obtain ⟨fd, F⟩ := h
  obtain ⟨oc, od, dV, kV, doc, pm, an, cdv, ct, osl, e, lk, _⟩ := F.ex
  have : fdOf K f = fd := by
    unfold fdOf
    rw [lk]
  rw [this]
  exact F
abbrev AlF : Type := He.AlD × Bool
def obsF (fa : List He.Fa) (fn : List He.DefD) (exs : List (PySem.W.Frag → Bool)) (K : PySem.W.Frag) : AlF := (He.obsD fa fn K, exs.all fun e => e K)
def valF (fn : List He.DefD) : AlF := (He.valD fn, true)
def SaysF (fa : List He.Fa) (fn : List He.DefD) (exs : List (PySem.W.Frag → Bool)) (K : PySem.W.Frag) : Prop := obsF fa fn exs K = valF fn
def obsFG (n : Nat) (fa : List He.Fa) (fn : List He.DefD) (exs : List (PySem.W.Frag → Bool)) (g : Addr → Option Obj) : AlF := obsF fa fn exs (He.frG g (He.asD g n))
def hookF (n : Nat) (fa : List He.Fa) (fn : List He.DefD) (exs : List (PySem.W.Frag → Bool)) : PySem.W.Hook where
  α := AlF
  obs := fun s => obsFG n fa fn exs s.heap.get?
  val := fun _ => valF fn
  says := fun _ h => ∃ K : PySem.W.Frag, K.In h ∧ SaysF fa fn exs K
  of := fun _ _ e => ⟨_, He.frG_in, e⟩
  keeps := fun _ _ _ ⟨K, hK, c⟩ k => ⟨K, PySem.W.Frag.In.keeps hK k, c⟩
theorem obsFG_eq {n : Nat} {fa : List He.Fa} {fn : List He.DefD} {exs : List (PySem.W.Frag → Bool)} {g : Addr → Option Obj} {s : Shared} (h : ∀ a, g a = s.heap.get? a) : obsFG n fa fn exs g = (hookF n fa fn exs).obs s := by
  have e : g = s.heap.get? := funext h
  rw [e] <;> rfl
section
variable {fa : List He.Fa} {fn : List He.DefD} {exs : List (PySem.W.Frag → Bool)} {K : PySem.W.Frag}
theorem SaysF.d (c : SaysF fa fn exs K) : He.SaysD fa fn K := congrArg (fun z : AlF => z.1) c
theorem SaysF.fact (c : SaysF fa fn exs K) (i : Nat) {f : He.Fa} (h : fa[i]? = some f) : f.ok K = true := c.d.fact i h
theorem SaysF.def_ (c : SaysF fa fn exs K) (i : Nat) {d : He.DefD} (h : fn[i]? = some d) : ∃ fd, FunD K d.name d.qual d.params d.body d.scope (d.dvs K) (d.kws K) (He.fAd K d.at_) fd := c.d.def_ i h
theorem SaysF.ex_ (c : SaysF fa fn exs K) (i : Nat) {e : PySem.W.Frag → Bool} (h : exs[i]? = some e) : e K = true := by
  have c1 : (exs.all fun e => e K) = true := congrArg (fun z : AlF => z.2) c
  exact List.all_eq_true.mp c1 e (List.mem_of_getElem? h)
end
def clsOf (K : PySem.W.Frag) : Nat → Addr := fun n => match n with
  | 0 => He.ga K "Share" | 1 => He.ga K "Machine" | 2 => He.ga K "Carrying" | 3 => He.ga K "Reading" | 4 => He.ga K "Kept" | 5 => He.ga K "House" | 6 => He.ga K "Desk" | _ => He.ga K "Going"
def cfgL (P : Program) (w : World) (mg : Str → Option Value) (base : PySem.Heap) (tbs : List (Addr × Str)) (K : PySem.W.Frag) : Cfg := ⟨K, clsOf K, P, w, mg, base, tbs⟩
def noW : World := ⟨fun _ _ => 0, { strHash := fun _ => 0, shareClass := fun _ => 0, mergeTok := id, idOf := fun _ => 0, idOfShared := fun _ _ => 0, followText := fun _ => false, idOfImm := fun _ => 0 }⟩
def cfg (K : PySem.W.Frag) : Cfg := cfgL default noW (fun _ => none) default [] K
end Pw
namespace Pw
open PySem PySem.Spec PyProof.Rows L2
section
variable {T : Cfg} {W : WX} {K : Out → Prop} {u : TS} {s' : S} {d : D} {m : Mu} {x : XD} {P : D → Mu → Prop} {XP : XW} {I : Nat → S → Prop} {i : Nat}
theorem seqK_nx (h : SV T u W s' K) : seqK T u W K (.nx s') := h
theorem seqK_rt (h : K (.rt d m)) : seqK T u W K (.rt d m) := h
theorem seqK_xr (h : K (.xr x s')) : seqK T u W K (.xr x s') := h
theorem seqK_ct (h : K (.ct s')) : seqK T u W K (.ct s') := h
theorem seqK_bk (h : K (.bk s')) : seqK T u W K (.bk s') := h
theorem whK_rt (h : K (.rt d m)) : whK I i K (.rt d m) := h
theorem whK_xr (h : K (.xr x s')) : whK I i K (.xr x s') := h
theorem whK_bk (h : K (.nx s')) : whK I i K (.bk s') := h
theorem forK_nx (h : I (i + 1) s') : forK I i K (.nx s') := h
theorem forK_ct (h : I (i + 1) s') : forK I i K (.ct s') := h
theorem forK_rt (h : K (.rt d m)) : forK I i K (.rt d m) := h
theorem forK_xr (h : K (.xr x s')) : forK I i K (.xr x s') := h
theorem forK_bk (h : K (.nx s')) : forK I i K (.bk s') := h
theorem fnK_rt (h : P d m) : fnK P XP (.rt d m) := h
theorem fnK_nx (h : P .non s'.m) : fnK P XP (.nx s') := h
theorem fnK_xr (h : XP x s'.m) : fnK P XP (.xr x s') := h
end
end Pw
namespace Pw
open PySem PySem.Spec PyProof.Rows L2
section
variable {T : Cfg} {W : WX} {ρ : List (Option D)} {m0 : Mu} {XP : XW} {P : D → Mu → Prop} {ta : TA} {E : XK}
theorem ev_cal0 {c : List D → (D → Prop) → (XD → Prop) → Prop} (h : EA T ta W ⟨ρ, m0⟩ (fun ds μ => c ds (fun d => P d μ) (fun _ => False)) XP) : EV T (tCall (spOf T (pu c)) [] E ta) W ⟨ρ, m0⟩ P XP :=
  ev_call0 (dds := []) (fun _ => RepL.nil) (by simpa using h)
theorem ev_calW {c : Nat → List D → (D → Nat → Prop) → Prop} (h : EA T ta W ⟨ρ, m0⟩ (fun ds μ => ∃ a b rest, ds = .ptr a :: rest ∧ μ a = some (.well b) ∧ c b rest (fun d b' => P d (put μ a (.well b')))) XP) : EV T (tCall (spOf T (wl c)) [] E ta) W ⟨ρ, m0⟩ P XP :=
  ev_callW (dds := []) (fun _ => RepL.nil) (by simpa using h)
theorem ev_mak0 {k : Nat} {c : List D → (List (Str × D) → Prop) → (XD → Prop) → Prop} (h : EA T ta W ⟨ρ, m0⟩ (fun ds μ => c ds (fun fs => P (.ins k fs) μ) (fun _ => False)) XP) : EV T (tMake (T.cls k) (spOf T (ini k c)) [] E ta) W ⟨ρ, m0⟩ P XP :=
  ev_make0 (dds := []) (fun _ => RepL.nil) (by simpa using h)
theorem ev_mak1 {k : Nat} {i : Int} {c : List D → (List (Str × D) → Prop) → (XD → Prop) → Prop} (h : EA T ta W ⟨ρ, m0⟩ (fun ds μ => c (ds ++ [.int i]) (fun fs => P (.ins k fs) μ) (fun _ => False)) XP) : EV T (tMake (T.cls k) (spOf T (ini k c)) [.int i] E ta) W ⟨ρ, m0⟩ P XP :=
  ev_make0 (dds := [.int i]) (fun _ => .cons (.int i) .nil) h
end
end Pw
namespace FM
theorem fdiv_exact {g k : Int} (hg : g ≠ 0) : (g * k).fdiv g = k := Int.mul_fdiv_cancel_left _ hg
theorem num_ok {i j : Int} (hj : j ≠ 0) : i.fdiv (((Nat.gcd i.natAbs j.natAbs : Nat) : Int) * (if 0 < j then 1 else -1)) = (Rat.divInt i j).num := by
  have hg : 0 < Nat.gcd i.natAbs j.natAbs := Nat.gcd_pos_of_pos_right _ (by omega)
  have e : j.gcd i = Nat.gcd i.natAbs j.natAbs := by rw [Int.gcd, Nat.gcd_comm]
  rw [Rat.num_divInt, e]
  obtain ⟨k, hk⟩ : ((Nat.gcd i.natAbs j.natAbs : Nat) : Int) ∣ i := by
    rw [← Int.natAbs_dvd_natAbs]; simpa using Nat.gcd_dvd_left i.natAbs j.natAbs
  generalize hgg : ((Nat.gcd i.natAbs j.natAbs : Nat) : Int) = g at *
  have g0 : g ≠ 0 := by omega
  by_cases h : 0 < j
  · rw [if_pos h, Int.mul_one, Int.sign_eq_one_of_pos h, Int.one_mul, hk, fdiv_exact g0, Int.mul_ediv_cancel_left _ g0]
  · have h' : j < 0 := by omega
    rw [if_neg h, Int.sign_eq_neg_one_of_neg h', hk]
    rw [show g * k = (g * -1) * (-k) by rw [Int.mul_assoc]; congr 1; omega, fdiv_exact (by omega)]
    rw [show -1 * ((g * -1) * (-k)) = g * (-k) by rw [Int.mul_assoc g, ← Int.mul_assoc, Int.mul_comm (-1) g, Int.mul_assoc]; congr 1; omega, Int.mul_ediv_cancel_left _ g0]
theorem den_ok {i j : Int} (hj : j ≠ 0) : j.fdiv (((Nat.gcd i.natAbs j.natAbs : Nat) : Int) * (if 0 < j then 1 else -1)) = ((Rat.divInt i j).den : Int) := by
  have hg : 0 < Nat.gcd i.natAbs j.natAbs := Nat.gcd_pos_of_pos_right _ (by omega)
  have e : j.gcd i = Nat.gcd i.natAbs j.natAbs := by rw [Int.gcd, Nat.gcd_comm]
  rw [Rat.den_divInt, e, if_neg hj]
  obtain ⟨k, hk⟩ : Nat.gcd i.natAbs j.natAbs ∣ j.natAbs := Nat.gcd_dvd_right i.natAbs j.natAbs
  generalize hgg : Nat.gcd i.natAbs j.natAbs = g at *
  rw [hk, Nat.mul_div_cancel_left _ hg]
  by_cases h : 0 < j
  · have hj2 : j = (g : Int) * (k : Int) := by rw [← Int.natCast_mul, ← hk]; omega
    rw [if_pos h, Int.mul_one, hj2, fdiv_exact (by omega)]
  · have hj2 : j = ((g : Int) * -1) * (k : Int) := by rw [Int.mul_assoc, Int.neg_one_mul, Int.mul_neg, ← Int.natCast_mul, ← hk]; omega
    rw [if_neg h]
    rw [show j.fdiv ((g : Int) * -1) = (((g : Int) * -1) * (k : Int)).fdiv ((g : Int) * -1) by rw [← hj2], fdiv_exact (by omega)]
theorem mk_add (p q : Rat) : Rat.divInt (p.num * q.den + q.num * p.den) (p.den * q.den) = p + q := by
  rw [Rat.add_def', ← Rat.divInt_ofNat]; simp
theorem mk_sub (p q : Rat) : Rat.divInt (p.num * q.den - q.num * p.den) (p.den * q.den) = p - q := by
  rw [Rat.sub_def', ← Rat.divInt_ofNat]; simp
theorem mk_mul (p q : Rat) : Rat.divInt (p.num * q.num) (p.den * q.den) = p * q := by
  rw [Rat.mul_def', ← Rat.divInt_ofNat]; simp
theorem mk_div (p q : Rat) : Rat.divInt (p.num * q.den) (p.den * q.num) = p / q := by
  rw [Rat.div_def, Rat.inv_def]
  conv => rhs; rw [← Rat.num_divInt_den p]
  rw [Rat.divInt_mul_divInt]
theorem mk_int (i : Int) : Rat.divInt i 1 = (i : Rat) := by
  rw [Rat.divInt_eq_div]; grind
theorem less_iff (p q : Rat) : p.num * q.den < q.num * p.den ↔ p < q := (Rat.lt_iff p q).symm
def Bq (n : Nat) (q : Rat) : Prop := q.num.natAbs < 2 ^ n ∧ q.den < 2 ^ n
theorem Bq.mono {n m : Nat} {q : Rat} (h : Bq n q) (k : n ≤ m) : Bq m q :=
  ⟨Nat.lt_of_lt_of_le h.1 (Nat.pow_le_pow_right (by decide) k), Nat.lt_of_lt_of_le h.2 (Nat.pow_le_pow_right (by decide) k)⟩
theorem bq_divInt {i j : Int} {n : Nat} (hi : i.natAbs < 2 ^ n) (hj : j.natAbs < 2 ^ n) (h0 : 0 < n) : Bq n (Rat.divInt i j) := by
  constructor
  · rw [Rat.num_divInt]
    refine Nat.lt_of_le_of_lt ?_ hi
    rw [Int.natAbs_ediv_of_dvd]
    · refine Nat.le_trans (Nat.div_le_self _ _) ?_
      rw [Int.natAbs_mul]
      have : j.sign.natAbs ≤ 1 := by
        rcases Int.lt_trichotomy j 0 with h | h | h
        · rw [Int.sign_eq_neg_one_of_neg h]; decide
        · rw [h]; decide
        · rw [Int.sign_eq_one_of_pos h]; decide
      calc j.sign.natAbs * i.natAbs ≤ 1 * i.natAbs := Nat.mul_le_mul_right _ this
        _ = i.natAbs := Nat.one_mul _
    · exact Int.dvd_mul_of_dvd_right (Int.gcd_dvd_right ..)
  · rw [Rat.den_divInt]
    split
    · exact Nat.one_lt_two_pow (by omega)
    · exact Nat.lt_of_le_of_lt (Nat.div_le_self _ _) hj
theorem natAbs_mul_lt {a b : Int} {n m : Nat} (h : a.natAbs < 2 ^ n) (k : b.natAbs < 2 ^ m) : (a * b).natAbs < 2 ^ (n + m) := by
  rw [Int.natAbs_mul, Nat.pow_add]
  exact Nat.mul_lt_mul'' h k
theorem natAbs_add_lt {a b : Int} {n : Nat} (h : a.natAbs < 2 ^ n) (k : b.natAbs < 2 ^ n) : (a + b).natAbs < 2 ^ (n + 1) := by
  rw [Nat.pow_succ]; omega
theorem natAbs_sub_lt {a b : Int} {n : Nat} (h : a.natAbs < 2 ^ n) (k : b.natAbs < 2 ^ n) : (a - b).natAbs < 2 ^ (n + 1) := by
  rw [Nat.pow_succ]; omega
theorem up {a n m : Nat} (h : a < 2 ^ n) (k : n ≤ m) : a < 2 ^ m := Nat.lt_of_lt_of_le h (Nat.pow_le_pow_right (by decide) k)
theorem Bq.add {n m : Nat} {p q : Rat} (h : Bq n p) (k : Bq m q) : Bq (n + m + 1) (p + q) := by
  rw [← mk_add]
  refine bq_divInt ?_ ?_ (by omega)
  · refine natAbs_add_lt (natAbs_mul_lt h.1 (by simpa using k.2)) ?_
    rw [Nat.add_comm]
    exact natAbs_mul_lt k.1 (by simpa using h.2)
  · exact up (natAbs_mul_lt (by simpa using h.2) (by simpa using k.2)) (by omega)
theorem Bq.sub {n m : Nat} {p q : Rat} (h : Bq n p) (k : Bq m q) : Bq (n + m + 1) (p - q) := by
  rw [← mk_sub]
  refine bq_divInt ?_ ?_ (by omega)
  · refine natAbs_sub_lt (natAbs_mul_lt h.1 (by simpa using k.2)) ?_
    rw [Nat.add_comm]
    exact natAbs_mul_lt k.1 (by simpa using h.2)
  · exact up (natAbs_mul_lt (by simpa using h.2) (by simpa using k.2)) (by omega)
theorem Bq.mul {n m : Nat} {p q : Rat} (h : Bq n p) (k : Bq m q) (h0 : 0 < n + m) : Bq (n + m) (p * q) := by
  rw [← mk_mul]
  refine bq_divInt (natAbs_mul_lt h.1 k.1) (natAbs_mul_lt (by simpa using h.2) (by simpa using k.2)) h0
theorem Bq.div {n m : Nat} {p q : Rat} (h : Bq n p) (k : Bq m q) (h0 : 0 < n + m) : Bq (n + m) (p / q) := by
  rw [← mk_div]
  refine bq_divInt (natAbs_mul_lt h.1 (by simpa using k.2)) (natAbs_mul_lt (by simpa using h.2) k.1) h0
theorem sum_take_succ {qs : List Rat} {i : Nat} (h : i < qs.length) : (qs.take (i + 1)).sum = (qs.take i).sum + qs[i] := by
  rw [List.take_succ_eq_append_getElem h, List.sum_append]
  simp [List.sum_cons, Rat.add_zero]
end FM
namespace Far
open PySem PySem.Spec PyProof.Rows L2 Pw
def shF (q : Rat) : List (Str × D) := [("top", .int q.num), ("bottom", .int (q.den : Int))]
def shD (q : Rat) : D := .ins 0 (shF q)
def tagOf : D → String
  | .non => "NoneType"
  | .int _ => "int"
  | .bl _ => "bool"
  | .str _ => "str"
  | .lst _ => "list"
  | .tup _ => "tuple"
  | .dic _ => "dict"
  | _ => ""
def kk (a n : String) : Bool := n == a || (a == "bool" && n == "int")
def kindOf (d : D) (n : String) : Bool := kk (tagOf d) n
def isSh : D → Bool
  | .ins 0 _ => true
  | _ => false
def tys : List String := ["int", "bool", "str", "list", "tuple", "dict"]
structure Thing (T : Cfg) (d : D) (t : Value) : Prop where
  ty : TyD T d t
  kd : ∀ n ∈ tys, PySem.W.kitOne T.K t (.type n) = some (kindOf d n)
  sh : PySem.W.kitOne T.K t (.ref (T.cls 0)) = some (isSh d)
  nf : PySem.W.notFirst T.K (T.cls 0) t = true
structure ShOk (T : Cfg) : Prop where
  cl : Cls T.K (T.cls 0)
  nt : NoAttr T.K (T.cls 0) "top"
  nb : NoAttr T.K (T.cls 0) "bottom"
  ic : InsCls T.K (T.cls 0)
  kb : ∀ n ∈ ["NoneType", "int", "bool", "str", "list", "tuple", "dict"], PySem.W.subIn T.K (.type n) (.ref (T.cls 0)) = some false ∧ PySem.W.kitOne T.K (.type n) (.ref (T.cls 0)) = some false
  ko : ∀ n ∈ tys, PySem.W.kitOne T.K (.ref (T.cls 0)) (.type n) = some false
def tags : List String := ["NoneType", "int", "bool", "str", "list", "tuple", "dict"]
theorem kit_tab : ∀ a ∈ tags, ∀ n ∈ tys, kitB a n = some (kk a n) := by decide +kernel
section
variable {T : Cfg}
theorem nf_of {n : String} (h : PySem.W.subIn T.K (.type n) (.ref (T.cls 0)) = some false) : PySem.W.notFirst T.K (T.cls 0) (.type n) = true := by
  unfold PySem.W.notFirst
  rw [h]
  simp
theorem th_int (h : ShOk T) (i : Int) : Thing T (.int i) (.type "int") := ⟨.int i, fun n hn => kit_ty (kit_tab _ (by simp [tags]) n hn), (h.kb "int" (by simp)).2, nf_of (h.kb "int" (by simp)).1⟩
theorem th_bl (h : ShOk T) (i : Bool) : Thing T (.bl i) (.type "bool") := ⟨.bl i, fun n hn => kit_ty (kit_tab _ (by simp [tags]) n hn), (h.kb "bool" (by simp)).2, nf_of (h.kb "bool" (by simp)).1⟩
theorem th_non (h : ShOk T) : Thing T .non (.type "NoneType") := ⟨.non, fun n hn => kit_ty (kit_tab _ (by simp [tags]) n hn), (h.kb "NoneType" (by simp)).2, nf_of (h.kb "NoneType" (by simp)).1⟩
theorem th_str (h : ShOk T) (x : Str) : Thing T (.str x) (.type "str") := ⟨.str x, fun n hn => kit_ty (kit_tab _ (by simp [tags]) n hn), (h.kb "str" (by simp)).2, nf_of (h.kb "str" (by simp)).1⟩
theorem th_lst (h : ShOk T) (ds : List D) : Thing T (.lst ds) (.type "list") := ⟨.lst ds, fun n hn => kit_ty (kit_tab _ (by simp [tags]) n hn), (h.kb "list" (by simp)).2, nf_of (h.kb "list" (by simp)).1⟩
theorem kit_self {K : PySem.W.Frag} {C : Addr} : PySem.W.kitOne K (.ref C) (.ref C) = some true := by
  unfold PySem.W.kitOne
  rw [if_pos (by simp)]
theorem th_sh (h : ShOk T) (q : Rat) : Thing T (shD q) (.ref (T.cls 0)) := ⟨.ins h.ic, fun n hn => by
  rw [h.ko n hn]
  simp only [tys, List.mem_cons, List.not_mem_nil, or_false] at hn
  rcases hn with rfl | rfl | rfl | rfl | rfl | rfl <;> rfl, kit_self, by unfold PySem.W.notFirst; simp⟩
end
end Far
local macro_rules | `(tactic| walk_at "qw") => `(tactic| first
  | (with_reducible refine Pw.ev_op ?_)
  | ((with_reducible refine Pw.ev_var (d := ?d) ?h ?_); (case h => rfl))
  | (with_reducible refine Pw.ev_int ?_)
  | (with_reducible refine Pw.ev_bl ?_)
  | (with_reducible refine Pw.ev_str ?_)
  | (with_reducible refine Pw.ev_non ?_)
  | (with_reducible refine Pw.ev_ty ?_)
  | (with_reducible refine Pw.ev_ref ?_)
  | (with_reducible refine Pw.ev_cb ?_)
  | (with_reducible refine Pw.ev_un ?_)
  | (with_reducible refine Pw.ea_cons ?_)
  | (with_reducible refine Pw.ea_nil ?_)
  | (with_reducible refine Pw.ev_cal0 ?_)
  | (with_reducible refine Pw.ev_calW ?_)
  | (with_reducible refine Pw.ev_mak0 ?_)
  | (with_reducible refine Pw.ev_mak1 ?_)
  | (with_reducible refine Pw.ev_if ?_)
  | (with_reducible refine Pw.ev_and ?_)
  | (with_reducible refine Pw.ev_or ?_)
  | (with_reducible refine Pw.ev_not ?_)
  | (with_reducible refine Pw.tv_test ?_)
  | (with_reducible refine Pw.tv_B ?_)
  | (with_reducible refine Pw.tv_and ?_)
  | (with_reducible refine Pw.tv_or ?_)
  | (with_reducible refine Pw.tv_not ?_)
  | (with_reducible refine Pw.tv_yes ?_)
  | (with_reducible refine Pw.po_no ?_)
  | (with_reducible refine Pw.po_so ?_)
  | (with_reducible refine Pw.sv_seq ?_)
  | (with_reducible refine Pw.sv_asg ?_)
  | (with_reducible refine Pw.sv_ret ?_)
  | (with_reducible refine Pw.sv_if ?_)
  | (with_reducible refine Pw.sv_par ?_)
  | (with_reducible refine Pw.sv_next ?_)
  | (with_reducible refine Pw.sv_drop ?_)
  | (with_reducible refine Pw.sv_fld ?_)
  | (with_reducible refine Pw.ov_add ?_)
  | (with_reducible refine Pw.ov_sub ?_)
  | (with_reducible refine Pw.ov_lt ?_)
  | (with_reducible refine Pw.ov_le ?_)
  | (with_reducible refine Pw.ov_gt ?_)
  | (with_reducible refine Pw.ov_ge ?_)
  | (with_reducible refine Pw.ov_eqI ?_)
  | (with_reducible refine Pw.ov_neI ?_)
  | (with_reducible refine Pw.ov_eqS ?_)
  | (with_reducible refine Pw.ov_neS ?_)
  | (with_reducible refine Pw.ov_eqB ?_)
  | (with_reducible refine Pw.ov_neB ?_)
  | (with_reducible refine Pw.cv_abs ?_)
  | (with_reducible refine Pw.cv_intB ?_)
  | (with_reducible refine Pw.uv_neg ?_)
  | (with_reducible refine Pw.seqK_nx ?_)
  | (with_reducible refine Pw.seqK_rt ?_)
  | (with_reducible refine Pw.seqK_xr ?_)
  | (with_reducible refine Pw.seqK_ct ?_)
  | (with_reducible refine Pw.seqK_bk ?_)
  | (with_reducible refine Pw.whK_rt ?_)
  | (with_reducible refine Pw.whK_xr ?_)
  | (with_reducible refine Pw.whK_bk ?_)
  | (with_reducible refine Pw.forK_nx ?_)
  | (with_reducible refine Pw.forK_ct ?_)
  | (with_reducible refine Pw.forK_rt ?_)
  | (with_reducible refine Pw.forK_xr ?_)
  | (with_reducible refine Pw.forK_bk ?_)
  | (with_reducible refine Pw.fnK_rt ?_)
  | (with_reducible refine Pw.fnK_nx ?_)
  | (with_reducible refine Pw.fnK_xr ?_))
local macro_rules | `(tactic| walk_at "qws") => `(tactic| repeat (walk_at "qw"))
namespace Far
open PySem PySem.Spec PyProof.Rows L2 Pw
abbrev PC := List D → (D → Prop) → (XD → Prop) → Prop
def isInt : D → Bool
  | .int _ => true
  | _ => false
def c_is_whole (T : Cfg) : PC := fun ds P _ => ∃ d t, ds = [d] ∧ Thing T d t ∧ P (.bl (isInt d))
def c_common (T : Cfg) : PC := fun ds P _ => ∃ a b : Nat, ds = [.int a, .int b] ∧ P (.int (Nat.gcd a b : Nat))
theorem len_is_whole {T : Cfg} : ∀ ds μ P XP, pu (c_is_whole T) ds μ P XP → ds.length = 1 := by
  rintro ds μ P XP ⟨rfl, Pf, Xf, ⟨d, t, rfl, _⟩, _⟩
  rfl
theorem len_common {T : Cfg} : ∀ ds μ P XP, pu (c_common T) ds μ P XP → ds.length = 2 := by
  rintro ds μ P XP ⟨rfl, Pf, Xf, ⟨a, b, rfl, _⟩, _⟩
  rfl
def t_is_whole (T : Cfg) (E : XK) : TS := (tRet (tAndV (tCB (rIsi T.K) (tCons (tVar 0) (tCons (tC (.ty "int")) tNil))) (tNotV (tCB (rIsi T.K) (tCons (tVar 0) (tCons (tC (.ty "bool")) tNil))))))
def t_common (T : Cfg) (E : XK) : TS := (tSeq (tWhile (tTest (tOp rNe (tVar 1) (tC (.int 0)))) (tPar 0 1 (tCons (tVar 1) (tCons (tOp (rI (fun _ j => j ≠ 0) fun i j => .int (i.fmod j)) (tVar 0) (tVar 1)) tNil))))
    (tRet (tVar 0)))
theorem int_kind {d : D} {T : Cfg} {t : Value} (h : Thing T d t) : (kindOf d "int" && !kindOf d "bool") = isInt d := by
  cases h.ty <;> rfl
theorem pure_is_whole {T : Cfg} (hT : ShOk T) : ∀ E ds μ P XP, pu (c_is_whole T) ds μ P XP → SV T (t_is_whole T E) (fun cls dd _ H => E cls dd H) ⟨slots 1 ds, μ⟩ (fnK P XP) := by
  rintro E ds μ P XP ⟨rfl, Pf, Xf, ⟨d, t, rfl, hd, p⟩, hP, hX⟩
  unfold t_is_whole
  have e := int_kind hd
  repeat walk_at "qw"
  refine cv_isiT hd.ty (hd.kd "int" (by decide)) ⟨_, rfl, fun h1 => ?_, fun h1 => ?_⟩
  · repeat walk_at "qw"
    refine cv_isiT hd.ty (hd.kd "bool" (by decide)) ⟨_, rfl, ?_⟩
    rw [h1, Bool.true_and] at e
    rw [e]
    exact hP _ p
  · rw [h1, Bool.false_and] at e
    rw [e]
    exact hP _ p
theorem pure_common {T : Cfg} (hT : ShOk T) : ∀ E ds μ P XP, pu (c_common T) ds μ P XP → SV T (t_common T E) (fun cls dd _ H => E cls dd H) ⟨slots 2 ds, μ⟩ (fnK P XP) := by
  rintro E ds μ P XP ⟨rfl, Pf, Xf, ⟨a, b, rfl, p⟩, hP, hX⟩
  unfold t_common
  walk_at "qw"
  refine sv_while (fun n s => ∃ x : Nat, s = ⟨[some (.int x), some (.int n)], mu0⟩ ∧ Nat.gcd x n = Nat.gcd a b) b ⟨a, rfl, rfl⟩ ?_
  rintro n s ⟨x, rfl, hg⟩
  repeat walk_at "qw"
  refine ⟨_, rfl, fun h1 => ?_, fun h1 => ?_⟩
  · repeat walk_at "qw"
    have hn : n ≠ 0 := by
      intro z; subst z; simp at h1
    refine ov_mod (by omega) ?_
    repeat walk_at "qw"
    refine ⟨_, _, rfl, x % n, Nat.mod_lt _ (by omega), n, ?_, ?_⟩
    · have : (x : Int).fmod (n : Int) = ((x % n : Nat) : Int) := by
        rw [Int.fmod_eq_emod_of_nonneg _ (by omega)]; rfl
      rw [this]
      rfl
    · rw [← hg, Nat.gcd_comm x n, Nat.gcd_rec n x, Nat.gcd_comm]
  · have hn : n = 0 := by
      simp at h1; omega
    subst hn
    rw [Nat.gcd_zero_right] at hg
    rw [hg]
    walk_at "qws"
    exact hP _ p
def c_Share___init__ (T : Cfg) : List D → (List (Str × D) → Prop) → (XD → Prop) → Prop := fun ds P X => ∃ d e t u, ds = [d, e] ∧ Thing T d t ∧ Thing T e u ∧
  ((∃ i j : Int, d = .int i ∧ e = .int j ∧ j ≠ 0 ∧ Bt 9000 j ∧ P (shF (Rat.divInt i j))) ∨ ((isInt d = false ∨ isInt e = false ∨ e = .int 0) ∧ X ⟨.ref (He.ga T.K "NoShare"), none⟩))
theorem len_Share___init__ {T : Cfg} : ∀ ds μ P XP, ini 0 (c_Share___init__ T) ds μ P XP → ds.length = 3 := by
  rintro ds μ P XP ⟨a, rest, rfl, rfl, Pf, Xf, ⟨d, e, t, u, rfl, _⟩, _⟩
  rfl
def t_Share___init__ (T : Cfg) (E : XK) : TS := (tSeq (tIfS (tOr (tNot (tB (tCall (spOf T (pu (c_is_whole T))) [] E0 (tCons (tVar 1) tNil)))) (tOr (tNot (tB (tCall (spOf T (pu (c_is_whole T))) [] E0 (tCons (tVar 2) tNil)))) (tTest (tOp rEq (tVar 2) (tC (.int 0)))))) (tRaise0 (He.ga T.K "NoShare") E) tNext)
    (tSeq (tAsg (tOp (rI IntMulOk fun i j => .int (i * j)) (tCall (spOf T (pu (c_common T))) [] E0 (tCons (tCB rAbs (tCons (tVar 1) tNil)) (tCons (tCB rAbs (tCons (tVar 2) tNil)) tNil))) (tIf (tTest (tOp (rI0 fun i j => .bl (decide (j < i))) (tVar 2) (tC (.int 0)))) (tC (.int 1)) (tUn (rU fun i => .int (-i)) (tC (.int 1))))) (gName 3))
    (tSeq (sFld T.K (tVar 0) (tOp (rI CFd fun i j => .int (i.fdiv j)) (tVar 1) (tVar 3)) "top")
    (sFld T.K (tVar 0) (tOp (rI CFd fun i j => .int (i.fdiv j)) (tVar 2) (tVar 3)) "bottom"))))
theorem gcd_log {i j : Int} (h : Bt 9000 j) (hj : j ≠ 0) : (((Nat.gcd i.natAbs j.natAbs : Nat) : Int) * (if 0 < j then 1 else -1)).natAbs.log2 < 9000 := by
  have h1 : Nat.gcd i.natAbs j.natAbs ≤ j.natAbs := Nat.le_of_dvd (by omega) (Nat.gcd_dvd_right ..)
  have h2 : (((Nat.gcd i.natAbs j.natAbs : Nat) : Int) * (if 0 < j then 1 else -1)).natAbs = Nat.gcd i.natAbs j.natAbs := by split <;> simp
  rw [h2]
  exact PySem.Flt.log2_lt_of (by decide) (Nat.lt_of_le_of_lt h1 h)
theorem by_ne {i j : Int} (hj : j ≠ 0) : ((Nat.gcd i.natAbs j.natAbs : Nat) : Int) * (if 0 < j then 1 else -1) ≠ 0 := by
  have h : 0 < Nat.gcd i.natAbs j.natAbs := Nat.gcd_pos_of_pos_right _ (by omega)
  split <;> omega
theorem pure_Share___init__ {T : Cfg} (hT : ShOk T) : ∀ E ds μ P XP, ini 0 (c_Share___init__ T) ds μ P XP → SV T (t_Share___init__ T E) (fun cls dd _ H => E cls dd H) ⟨slots 4 ds, μ⟩ (fnK P XP) := by
  rintro E ds μ P XP ⟨a, rest, rfl, rfl, Pf, Xf, ⟨d, e, t, u, rfl, hd, he, h⟩, hP, hX⟩
  unfold t_Share___init__
  have bad : (isInt d = false ∨ isInt e = false ∨ e = .int 0) → Xf ⟨.ref (He.ga T.K "NoShare"), none⟩ := fun hb => by
    rcases h with ⟨i, j, rfl, rfl, hj, _⟩ | ⟨_, hx⟩
    · rcases hb with hb | hb | hb
      · cases hb
      · cases hb
      · cases hb; exact absurd rfl hj
    · exact hx
  walk_at "qws"
  refine ⟨d, t, rfl, hd, _, rfl, fun h1 => ?_, fun h1 => ⟨fun _ => ?_, fun z => by cases z⟩⟩
  · have hd1 : isInt d = true := by simpa using h1
    obtain ⟨i, rfl⟩ : ∃ i, d = .int i := by cases d <;> first | exact ⟨_, rfl⟩ | cases hd1
    walk_at "qws"
    refine ⟨e, u, rfl, he, _, rfl, fun h2 => ?_, fun h2 => ⟨fun _ => ?_, fun z => by cases z⟩⟩
    · have he1 : isInt e = true := by simpa using h2
      obtain ⟨j, rfl⟩ : ∃ j, e = .int j := by cases e <;> first | exact ⟨_, rfl⟩ | cases he1
      walk_at "qws"
      refine ⟨_, rfl, fun h3 => ?_, fun h3 => ?_⟩
      · have hj : j = 0 := by simpa using h3
        subst hj
        refine sv_raise0 (fun _ _ _ _ z => z) ?_
        exact hX _ _ (bad (.inr (.inr rfl)))
      · have hj : j ≠ 0 := by simpa using h3
        obtain ⟨hb, hp⟩ : Bt 9000 j ∧ Pf (shF (Rat.divInt i j)) := by
          rcases h with ⟨i', j', e1, e2, _, hb, hp⟩ | ⟨h, _⟩
          · cases e1; cases e2; exact ⟨hb, hp⟩
          · rcases h with h | h | h
            · cases h
            · cases h
            · cases h; exact absurd rfl hj
        walk_at "qws"
        refine ⟨_, _, rfl, ?_⟩
        walk_at "qws"
        refine ⟨_, rfl, fun h4 => ?_, fun h4 => ?_⟩
        all_goals
          walk_at "qws"
          refine ov_mul (IntMulOk.of_right (by decide)) ?_
          walk_at "qws"
        · have ej : (if 0 < j then (1 : Int) else -1) = 1 := if_pos (by simpa using h4)
          have h5 := by_ne (i := i) hj
          have h6 := gcd_log (i := i) hb hj
          have e1 := FM.num_ok (i := i) hj
          have e2 := FM.den_ok (i := i) hj
          rw [ej] at h5 h6 e1 e2
          refine ov_fdiv ⟨h5, h6⟩ ?_
          walk_at "qws"
          refine ⟨a, 0, [], rfl, put_same, hT.cl, hT.nt, by decide, ?_⟩
          rw [put_put]
          walk_at "qws"
          refine ov_fdiv ⟨h5, h6⟩ ?_
          walk_at "qws"
          refine ⟨a, 0, _, rfl, put_same, hT.cl, hT.nb, (by show 1 < 1000; decide), ?_⟩
          rw [put_put, e1, e2]
          exact hP _ hp
        · have ej : (if 0 < j then (1 : Int) else -1) = -1 := if_neg (by simpa using h4)
          have h5 := by_ne (i := i) hj
          have h6 := gcd_log (i := i) hb hj
          have e1 := FM.num_ok (i := i) hj
          have e2 := FM.den_ok (i := i) hj
          rw [ej] at h5 h6 e1 e2
          refine ov_fdiv ⟨h5, h6⟩ ?_
          walk_at "qws"
          refine ⟨a, 0, [], rfl, put_same, hT.cl, hT.nt, by decide, ?_⟩
          rw [put_put]
          walk_at "qws"
          refine ov_fdiv ⟨h5, h6⟩ ?_
          walk_at "qws"
          refine ⟨a, 0, _, rfl, put_same, hT.cl, hT.nb, (by show 1 < 1000; decide), ?_⟩
          rw [put_put, e1, e2]
          exact hP _ hp
    · refine sv_raise0 (fun _ _ _ _ z => z) ?_
      exact hX _ _ (bad (.inr (.inl (by simpa using h2))))
  · refine sv_raise0 (fun _ _ _ _ z => z) ?_
    exact hX _ _ (bad (.inl (by simpa using h1)))
theorem look_bot (q : Rat) : (shF q).lookup ("bottom" : Str) = some (D.int (q.den : Int)) := by
  unfold shF
  rw [List.lookup_cons]
  have h : (("bottom" : Str) == "top") = false := by decide +kernel
  rw [h]
  simp [List.lookup]
section
variable {T : Cfg} {W : WX} {ρ : List (Option D)} {m0 : Mu} {XP : XW} {P : D → Mu → Prop} {ta : TE}
theorem ev_top (hT : ShOk T) (h : EV T ta W ⟨ρ, m0⟩ (fun d μ => ∃ q, d = shD q ∧ P (.int q.num) μ) XP) : EV T (tFld T.K ta "top") W ⟨ρ, m0⟩ P XP :=
  ev_fld (h.imp fun d μ ⟨q, e, p⟩ => ⟨0, shF q, .int q.num, e, hT.cl, hT.nt, rfl, p⟩)
theorem ev_bot (hT : ShOk T) (h : EV T ta W ⟨ρ, m0⟩ (fun d μ => ∃ q, d = shD q ∧ P (.int (q.den : Int)) μ) XP) : EV T (tFld T.K ta "bottom") W ⟨ρ, m0⟩ P XP :=
  ev_fld (h.imp fun d μ ⟨q, e, p⟩ => ⟨0, shF q, .int (q.den : Int), e, hT.cl, hT.nb, look_bot q, p⟩)
end
open FM (Bq)
theorem _root_.FM.Bq.bn {n : Nat} {q : Rat} (h : Bq n q) : Bt n q.num := h.1
theorem _root_.FM.Bq.bd {n : Nat} {q : Rat} (h : Bq n q) : Bt n (q.den : Int) := by
  show ((q.den : Int)).natAbs < 2 ^ n
  simpa using h.2
theorem den_ne (q : Rat) : (q.den : Int) ≠ 0 := by have := q.den_nz; omega
theorem i_init {T : Cfg} (hT : ShOk T) {i j : Int} {P : List (Str × D) → Prop} {X : XD → Prop} (hj : j ≠ 0) (hb : Bt 9000 j) (p : P (shF (Rat.divInt i j))) : c_Share___init__ T [.int i, .int j] P X :=
  ⟨.int i, .int j, _, _, rfl, th_int hT i, th_int hT j, .inl ⟨i, j, rfl, rfl, hj, hb, p⟩⟩
theorem i_int {T : Cfg} (hT : ShOk T) {i : Int} {P : List (Str × D) → Prop} {X : XD → Prop} (p : P (shF (i : Rat))) : c_Share___init__ T [.int i, .int 1] P X :=
  i_init hT (by decide) (Nat.one_lt_two_pow (n := 9000) (by decide)) (by rw [FM.mk_int]; exact p)
def c_Share___eq__ (T : Cfg) : PC := fun ds P _ => ∃ q d t, ds = [shD q, d] ∧ Thing T d t ∧ ((∃ p, d = shD p ∧ P (.bl (decide (q = p)))) ∨ (isSh d = false ∧ P (.bl false)))
theorem len_Share___eq__ {T : Cfg} : ∀ ds μ P XP, pu (c_Share___eq__ T) ds μ P XP → ds.length = 2 := by
  rintro ds μ P XP ⟨rfl, Pf, Xf, ⟨d, q, t, rfl, _⟩, _⟩
  rfl
def t_Share___eq__ (T : Cfg) (E : XK) : TS := (tRet (tAndV (tCB (rIsi T.K) (tCons (tVar 1) (tCons (tC (.ref (T.cls 0))) tNil))) (tOp (rEqD T.K) (tTup (tCons (tFld T.K (tVar 0) "top") (tCons (tFld T.K (tVar 0) "bottom") tNil))) (tTup (tCons (tFld T.K (tVar 1) "top") (tCons (tFld T.K (tVar 1) "bottom") tNil))))))
theorem rat_eq {p q : Rat} : decide (p.num = q.num ∧ (p.den : Int) = (q.den : Int)) = decide (p = q) := by
  rw [decide_eq_decide]
  constructor
  · rintro ⟨h1, h2⟩
    exact Rat.ext h1 (by omega)
  · rintro rfl
    exact ⟨rfl, rfl⟩
theorem pure_Share___eq__ {T : Cfg} (hT : ShOk T) : ∀ E ds μ P XP, pu (c_Share___eq__ T) ds μ P XP → SV T (t_Share___eq__ T E) (fun cls dd _ H => E cls dd H) ⟨slots 2 ds, μ⟩ (fnK P XP) := by
  rintro E ds μ P XP ⟨rfl, Pf, Xf, ⟨q, d, t, rfl, hd, h⟩, hP, hX⟩
  unfold t_Share___eq__
  walk_at "qws"
  refine cv_isi hd.ty hd.sh ⟨_, rfl, fun h1 => ?_, fun h1 => ?_⟩
  · rcases h with ⟨p, rfl, hp⟩ | ⟨h2, _⟩
    · refine ev_op (ev_tup (ea_cons (ev_top hT ?_)))
      walk_at "qws"
      refine ⟨q, rfl, ?_⟩
      refine ea_cons (ev_bot hT ?_)
      walk_at "qws"
      refine ⟨q, rfl, ?_⟩
      walk_at "qws"
      refine ⟨(by show 2 ≤ 100000; decide), ?_⟩
      refine ev_tup (ea_cons (ev_top hT ?_))
      walk_at "qws"
      refine ⟨p, rfl, ?_⟩
      refine ea_cons (ev_bot hT ?_)
      walk_at "qws"
      refine ⟨p, rfl, ?_⟩
      walk_at "qws"
      refine ⟨(by show 2 ≤ 100000; decide), ?_⟩
      refine ov_eq2 ?_
      rw [rat_eq]
      exact hP _ hp
    · rw [h2] at h1; cases h1
  · rcases h with ⟨p, rfl, _⟩ | ⟨_, hp⟩
    · cases h1
    · exact hP _ hp
def c_plus (T : Cfg) : PC := fun ds P _ => ∃ p q n m, ds = [shD p, shD q] ∧ Bq n p ∧ Bq m q ∧ n + m ≤ 9000 ∧ P (shD (p + q))
def c_minus (T : Cfg) : PC := fun ds P _ => ∃ p q n m, ds = [shD p, shD q] ∧ Bq n p ∧ Bq m q ∧ n + m ≤ 9000 ∧ P (shD (p - q))
def c_times (T : Cfg) : PC := fun ds P _ => ∃ p q n m, ds = [shD p, shD q] ∧ Bq n p ∧ Bq m q ∧ n + m ≤ 9000 ∧ P (shD (p * q))
def c_less (T : Cfg) : PC := fun ds P _ => ∃ p q n m, ds = [shD p, shD q] ∧ Bq n p ∧ Bq m q ∧ n + m ≤ 9000 ∧ P (.bl (decide (p < q)))
def c_sum_of (T : Cfg) : PC := fun ds P _ => ∃ (d : D) (qs : List Rat) (n m : Nat), ds = [d] ∧ Seqd d (qs.map shD) ∧ (∀ q ∈ qs, Bq n q) ∧ (∀ k, k ≤ qs.length → Bq m (qs.take k).sum) ∧ m + n ≤ 9000 ∧ P (shD qs.sum)
theorem take_bq {n : Nat} {qs : List Rat} (hb : ∀ q ∈ qs, Bq n q) : ∀ (k : Nat), k ≤ qs.length → Bq (k * (n + 1) + 1) (qs.take k).sum := by
  intro k
  induction k with
  | zero =>
    intro _
    rw [List.take_zero, Nat.zero_mul]
    exact ⟨by decide, by decide⟩
  | succ k ih =>
    intro hk
    have := (ih (by omega)).add (hb qs[k] (List.getElem_mem hk))
    rw [← FM.sum_take_succ hk] at this
    refine this.mono ?_
    rw [Nat.succ_mul]
    omega
theorem takes_bq {n : Nat} {qs : List Rat} (hb : ∀ q ∈ qs, Bq n q) (hs : (qs.length + 1) * (n + 2) ≤ 8000) : ∃ m, (∀ k, k ≤ qs.length → Bq m (qs.take k).sum) ∧ m + n ≤ 9000 := by
  have hs2 : qs.length * (n + 1) + (n + 2) ≤ 8000 := by
    have : (qs.length + 1) * (n + 2) = qs.length * (n + 2) + (n + 2) := by rw [Nat.succ_mul]
    have h3 : qs.length * (n + 1) ≤ qs.length * (n + 2) := Nat.mul_le_mul_left _ (by omega)
    omega
  refine ⟨qs.length * (n + 1) + 1, fun k hk => (take_bq hb k hk).mono ?_, by omega⟩
  have hm : k * (n + 1) ≤ qs.length * (n + 1) := Nat.mul_le_mul_right _ hk
  omega
theorem len_plus {T : Cfg} : ∀ ds μ P XP, pu (c_plus T) ds μ P XP → ds.length = 2 := by
  rintro ds μ P XP ⟨rfl, Pf, Xf, ⟨p, q, n, m, rfl, _⟩, _⟩; rfl
theorem len_minus {T : Cfg} : ∀ ds μ P XP, pu (c_minus T) ds μ P XP → ds.length = 2 := by
  rintro ds μ P XP ⟨rfl, Pf, Xf, ⟨p, q, n, m, rfl, _⟩, _⟩; rfl
theorem len_times {T : Cfg} : ∀ ds μ P XP, pu (c_times T) ds μ P XP → ds.length = 2 := by
  rintro ds μ P XP ⟨rfl, Pf, Xf, ⟨p, q, n, m, rfl, _⟩, _⟩; rfl
theorem len_less {T : Cfg} : ∀ ds μ P XP, pu (c_less T) ds μ P XP → ds.length = 2 := by
  rintro ds μ P XP ⟨rfl, Pf, Xf, ⟨p, q, n, m, rfl, _⟩, _⟩; rfl
theorem len_sum_of {T : Cfg} : ∀ ds μ P XP, pu (c_sum_of T) ds μ P XP → ds.length = 1 := by
  rintro ds μ P XP ⟨rfl, Pf, Xf, ⟨d, q, n, m, rfl, _⟩, _⟩; rfl
def t_plus (T : Cfg) (E : XK) : TS := (tRet (tMake (T.cls 0) (spOf T (ini 0 (c_Share___init__ T))) [] E0 (tCons (tOp (rI0 fun i j => .int (i + j)) (tOp (rI IntMulOk fun i j => .int (i * j)) (tFld T.K (tVar 0) "top") (tFld T.K (tVar 1) "bottom")) (tOp (rI IntMulOk fun i j => .int (i * j)) (tFld T.K (tVar 1) "top") (tFld T.K (tVar 0) "bottom"))) (tCons (tOp (rI IntMulOk fun i j => .int (i * j)) (tFld T.K (tVar 0) "bottom") (tFld T.K (tVar 1) "bottom")) tNil))))
def t_minus (T : Cfg) (E : XK) : TS := (tRet (tMake (T.cls 0) (spOf T (ini 0 (c_Share___init__ T))) [] E0 (tCons (tOp (rI0 fun i j => .int (i - j)) (tOp (rI IntMulOk fun i j => .int (i * j)) (tFld T.K (tVar 0) "top") (tFld T.K (tVar 1) "bottom")) (tOp (rI IntMulOk fun i j => .int (i * j)) (tFld T.K (tVar 1) "top") (tFld T.K (tVar 0) "bottom"))) (tCons (tOp (rI IntMulOk fun i j => .int (i * j)) (tFld T.K (tVar 0) "bottom") (tFld T.K (tVar 1) "bottom")) tNil))))
def t_times (T : Cfg) (E : XK) : TS := (tRet (tMake (T.cls 0) (spOf T (ini 0 (c_Share___init__ T))) [] E0 (tCons (tOp (rI IntMulOk fun i j => .int (i * j)) (tFld T.K (tVar 0) "top") (tFld T.K (tVar 1) "top")) (tCons (tOp (rI IntMulOk fun i j => .int (i * j)) (tFld T.K (tVar 0) "bottom") (tFld T.K (tVar 1) "bottom")) tNil))))
def t_less (T : Cfg) (E : XK) : TS := (tRet (tOp (rI0 fun i j => .bl (decide (i < j))) (tOp (rI IntMulOk fun i j => .int (i * j)) (tFld T.K (tVar 0) "top") (tFld T.K (tVar 1) "bottom")) (tOp (rI IntMulOk fun i j => .int (i * j)) (tFld T.K (tVar 1) "top") (tFld T.K (tVar 0) "bottom"))))
def t_sum_of (T : Cfg) (E : XK) : TS := (tSeq (tAsg (tMake (T.cls 0) (spOf T (ini 0 (c_Share___init__ T))) [.int 1] E0 (tCons (tC (.int 0)) tNil)) (gName 1))
    (tSeq (tFor (iList T.K (tVar 0)) (gName 2) (tAsg (tCall (spOf T (pu (c_plus T))) [] E0 (tCons (tVar 1) (tCons (tVar 2) tNil))) (gName 1)))
    (tRet (tVar 1))))
section
variable {T : Cfg} {W : WX} {ρ : List (Option D)} {m0 : Mu} {XP : XW} {P : D → Mu → Prop} {i j : Nat} {p q : Rat} {n m : Nat}
theorem ev_td (hT : ShOk T) (hp : ρ[i]? = some (some (shD p))) (hq : ρ[j]? = some (some (shD q))) (b1 : Bq n p) (b2 : Bq m q) (hs : n + m ≤ 9000) (k : P (.int (p.num * q.den)) m0) :
    EV T (tOp (rI IntMulOk fun i j => .int (i * j)) (tFld T.K (tVar i) "top") (tFld T.K (tVar j) "bottom")) W ⟨ρ, m0⟩ P XP :=
  ev_op (ev_top hT (ev_var hp ⟨p, rfl, ev_bot hT (ev_var hq ⟨q, rfl, ov_mul (Bt.ok (Bq.bn b1) (Bq.bd b2) (by omega)) k⟩)⟩))
theorem ev_tt (hT : ShOk T) (hp : ρ[i]? = some (some (shD p))) (hq : ρ[j]? = some (some (shD q))) (b1 : Bq n p) (b2 : Bq m q) (hs : n + m ≤ 9000) (k : P (.int (p.num * q.num)) m0) :
    EV T (tOp (rI IntMulOk fun i j => .int (i * j)) (tFld T.K (tVar i) "top") (tFld T.K (tVar j) "top")) W ⟨ρ, m0⟩ P XP :=
  ev_op (ev_top hT (ev_var hp ⟨p, rfl, ev_top hT (ev_var hq ⟨q, rfl, ov_mul (Bt.ok (Bq.bn b1) (Bq.bn b2) (by omega)) k⟩)⟩))
theorem ev_dd (hT : ShOk T) (hp : ρ[i]? = some (some (shD p))) (hq : ρ[j]? = some (some (shD q))) (b1 : Bq n p) (b2 : Bq m q) (hs : n + m ≤ 9000) (k : P (.int (p.den * q.den)) m0) :
    EV T (tOp (rI IntMulOk fun i j => .int (i * j)) (tFld T.K (tVar i) "bottom") (tFld T.K (tVar j) "bottom")) W ⟨ρ, m0⟩ P XP :=
  ev_op (ev_bot hT (ev_var hp ⟨p, rfl, ev_bot hT (ev_var hq ⟨q, rfl, ov_mul (Bt.ok (Bq.bd b1) (Bq.bd b2) (by omega)) k⟩)⟩))
end
theorem dd_ne (p q : Rat) : (p.den : Int) * (q.den : Int) ≠ 0 := Int.mul_ne_zero (den_ne p) (den_ne q)
theorem dd_bt {p q : Rat} {n m : Nat} (b1 : Bq n p) (b2 : Bq m q) (hs : n + m ≤ 9000) : Bt 9000 ((p.den : Int) * (q.den : Int)) := ((Bq.bd b1).mul (Bq.bd b2)).mono hs
theorem pure_plus {T : Cfg} (hT : ShOk T) : ∀ E ds μ P XP, pu (c_plus T) ds μ P XP → SV T (t_plus T E) (fun cls dd _ H => E cls dd H) ⟨slots 2 ds, μ⟩ (fnK P XP) := by
  rintro E ds μ P XP ⟨rfl, Pf, Xf, ⟨p, q, n, m, rfl, b1, b2, hs, hp⟩, hP, hX⟩
  unfold t_plus
  refine sv_ret (ev_mak0 (ea_cons (ev_op (ev_td hT rfl rfl b1 b2 hs (ev_td hT rfl rfl b2 b1 (by omega) (ov_add (ea_cons (ev_dd hT rfl rfl b1 b2 hs (ea_nil ?_)))))))))
  refine i_init hT (dd_ne p q) (dd_bt b1 b2 hs) ?_
  rw [FM.mk_add]
  exact hP _ hp
theorem pure_minus {T : Cfg} (hT : ShOk T) : ∀ E ds μ P XP, pu (c_minus T) ds μ P XP → SV T (t_minus T E) (fun cls dd _ H => E cls dd H) ⟨slots 2 ds, μ⟩ (fnK P XP) := by
  rintro E ds μ P XP ⟨rfl, Pf, Xf, ⟨p, q, n, m, rfl, b1, b2, hs, hp⟩, hP, hX⟩
  unfold t_minus
  refine sv_ret (ev_mak0 (ea_cons (ev_op (ev_td hT rfl rfl b1 b2 hs (ev_td hT rfl rfl b2 b1 (by omega) (ov_sub (ea_cons (ev_dd hT rfl rfl b1 b2 hs (ea_nil ?_)))))))))
  refine i_init hT (dd_ne p q) (dd_bt b1 b2 hs) ?_
  rw [FM.mk_sub]
  exact hP _ hp
theorem pure_times {T : Cfg} (hT : ShOk T) : ∀ E ds μ P XP, pu (c_times T) ds μ P XP → SV T (t_times T E) (fun cls dd _ H => E cls dd H) ⟨slots 2 ds, μ⟩ (fnK P XP) := by
  rintro E ds μ P XP ⟨rfl, Pf, Xf, ⟨p, q, n, m, rfl, b1, b2, hs, hp⟩, hP, hX⟩
  unfold t_times
  refine sv_ret (ev_mak0 (ea_cons (ev_tt hT rfl rfl b1 b2 hs (ea_cons (ev_dd hT rfl rfl b1 b2 hs (ea_nil ?_))))))
  refine i_init hT (dd_ne p q) (dd_bt b1 b2 hs) ?_
  rw [FM.mk_mul]
  exact hP _ hp
theorem pure_less {T : Cfg} (hT : ShOk T) : ∀ E ds μ P XP, pu (c_less T) ds μ P XP → SV T (t_less T E) (fun cls dd _ H => E cls dd H) ⟨slots 2 ds, μ⟩ (fnK P XP) := by
  rintro E ds μ P XP ⟨rfl, Pf, Xf, ⟨p, q, n, m, rfl, b1, b2, hs, hp⟩, hP, hX⟩
  unfold t_less
  refine sv_ret (ev_op (ev_td hT rfl rfl b1 b2 hs (ev_td hT rfl rfl b2 b1 (by omega) (ov_lt ?_))))
  rw [decide_eq_decide.mpr (FM.less_iff p q)]
  exact hP _ hp
theorem pure_sum_of {T : Cfg} (hT : ShOk T) : ∀ E ds μ P XP, pu (c_sum_of T) ds μ P XP → SV T (t_sum_of T E) (fun cls dd _ H => E cls dd H) ⟨slots 3 ds, μ⟩ (fnK P XP) := by
  rintro E ds μ P XP ⟨rfl, Pf, Xf, ⟨d, qs, n, m, rfl, hd, hb, bt, hs, hp⟩, hP, hX⟩
  unfold t_sum_of
  walk_at "qws"
  refine i_int hT ?_
  walk_at "qws"
  refine sv_for (is := [2]) (iv_list (ev_var rfl ⟨_, hd, ?_⟩))
  rw [List.length_map]
  have e0 : ((0 : Int) : Rat) = ([] : List Rat).sum := rfl
  rw [e0]
  refine ⟨fun i s => ∃ x, s = ⟨[some d, some (shD (qs.take i).sum), x], mu0⟩ ∧ i ≤ qs.length, ⟨none, rfl, Nat.zero_le _⟩, ?_, ?_⟩
  · rintro i s hi ⟨x, rfl, _⟩
    have hn : nth (qs.map shD) i = shD qs[i] := nth_of (by simp [hi])
    refine gv_name ?_
    rw [hn]
    walk_at "qws"
    have hq : Bq n qs[i] := hb _ (List.getElem_mem hi)
    refine ⟨_, _, _, _, rfl, bt i (by omega), hq, by omega, ?_⟩
    walk_at "qws"
    refine ⟨some (shD qs[i]), ?_, hi⟩
    rw [FM.sum_take_succ hi]
    rfl
  · rintro s ⟨x, rfl, _⟩
    rw [List.take_length]
    walk_at "qws"
    exact hP _ hp
end Far
namespace Pw
open PySem PySem.Spec PyProof.Rows L2
theorem ev_calN {T : Cfg} {W : WX} {ρ : List (Option D)} {m0 : Mu} {P : D → Mu → Prop} {XP : XW} {E : XK} {ta : TA} {c : Nat → List D → (D → Nat → Prop) → Prop} (h : EA T ta W ⟨ρ, m0⟩ (fun ds μ => ∃ a b rest μ', ds = .ptr a :: rest ∧ μ = put μ' a (.well b) ∧ c b rest (fun d b' => P d (put μ' a (.well b')))) XP) : EV T (tCall (spOf T (wl c)) [] E ta) W ⟨ρ, m0⟩ P XP :=
  ev_calW fun σ Hb H Q S q x => h σ Hb H Q S (fun ds μ vs Hb' H' g r ⟨a, b, rest, μ', e, em, hc⟩ => q ds μ vs Hb' H' g r (by
    subst em
    exact ⟨a, b, rest, e, put_same, by simpa only [put_put] using hc⟩)) x
theorem ex_bl {x : Bool} {Q : Bool → Prop} (h : Q x) : ∃ b, D.bl x = .bl b ∧ Q b := ⟨_, rfl, h⟩
theorem b_tt {A B : Prop} (h : A) : (true = true → A) ∧ (true = false → B) := ⟨fun _ => h, fun e => (nomatch e)⟩
theorem b_ff {A B : Prop} (h : B) : (false = true → A) ∧ (false = false → B) := ⟨fun e => (nomatch e), fun _ => h⟩
theorem b_tt' {A B : Prop} (h : B) : (true = false → A) ∧ (true = true → B) := ⟨fun e => (nomatch e), fun _ => h⟩
theorem b_ff' {A B : Prop} (h : A) : (false = false → A) ∧ (false = true → B) := ⟨fun _ => h, fun e => (nomatch e)⟩
theorem b_nt {A B : Prop} (h : B) : ((!true) = true → A) ∧ ((!true) = false → B) := ⟨fun e => (nomatch e), fun _ => h⟩
theorem b_nf {A B : Prop} (h : A) : ((!false) = true → A) ∧ ((!false) = false → B) := ⟨fun _ => h, fun e => (nomatch e)⟩
theorem b_nt' {A B : Prop} (h : A) : ((!true) = false → A) ∧ ((!true) = true → B) := ⟨fun _ => h, fun e => (nomatch e)⟩
theorem b_nf' {A B : Prop} (h : B) : ((!false) = false → A) ∧ ((!false) = true → B) := ⟨fun e => (nomatch e), fun _ => h⟩
theorem sv_asg2 {T : Cfg} {W : WX} {ρ : List (Option D)} {m0 : Mu} {K : Out → Prop} {te : TE} {i j : Nat} (h : EV T te W ⟨ρ, m0⟩ (fun d μ => ∃ x y, d = .tup [x, y] ∧ K (.nx ⟨(ρ.set i (some x)).set j (some y), μ⟩)) (xk ⟨ρ, m0⟩ K)) : SV T (tAsg te (gTup T.K 2 (gCons (gName i) (gCons (gName j) gNil)))) W ⟨ρ, m0⟩ K :=
  sv_asgG (h.imp fun d μ ⟨x, y, e, k⟩ => by subst e; exact gv_tup rfl (gvs_cons (gv_name (gvs_cons (gv_name (gvs_nil k))))))
theorem sv_asg3 {T : Cfg} {W : WX} {ρ : List (Option D)} {m0 : Mu} {K : Out → Prop} {te : TE} {i j l : Nat} (h : EV T te W ⟨ρ, m0⟩ (fun d μ => ∃ x y z, d = .tup [x, y, z] ∧ K (.nx ⟨((ρ.set i (some x)).set j (some y)).set l (some z), μ⟩)) (xk ⟨ρ, m0⟩ K)) : SV T (tAsg te (gTup T.K 3 (gCons (gName i) (gCons (gName j) (gCons (gName l) gNil))))) W ⟨ρ, m0⟩ K :=
  sv_asgG (h.imp fun d μ ⟨x, y, z, e, k⟩ => by subst e; exact gv_tup rfl (gvs_cons (gv_name (gvs_cons (gv_name (gvs_cons (gv_name (gvs_nil k))))))))
theorem ex_t2 {d e : D} {Q : D → D → Prop} (h : Q d e) : ∃ x y, D.tup [d, e] = .tup [x, y] ∧ Q x y := ⟨_, _, rfl, h⟩
theorem ex_t3 {d e f : D} {Q : D → D → D → Prop} (h : Q d e f) : ∃ x y z, D.tup [d, e, f] = .tup [x, y, z] ∧ Q x y z := ⟨_, _, _, rfl, h⟩
theorem bT {b : Bool} {A B : Prop} (e : b = true) (h : A) : (b = true → A) ∧ (b = false → B) := by subst e; exact b_tt h
theorem bF {b : Bool} {A B : Prop} (e : b = false) (h : B) : (b = true → A) ∧ (b = false → B) := by subst e; exact b_ff h
theorem bT' {b : Bool} {A B : Prop} (e : b = true) (h : B) : (b = false → A) ∧ (b = true → B) := by subst e; exact b_tt' h
theorem bF' {b : Bool} {A B : Prop} (e : b = false) (h : A) : (b = false → A) ∧ (b = true → B) := by subst e; exact b_ff' h
theorem b_d {α : Type} {x : α} {i : Decidable (x = x)} {A B : Prop} (h : A) : (decide (x = x) = true → A) ∧ (decide (x = x) = false → B) := bT (decide_eq_true rfl) h
theorem b_d' {α : Type} {x : α} {i : Decidable (x = x)} {A B : Prop} (h : B) : (decide (x = x) = false → A) ∧ (decide (x = x) = true → B) := bT' (decide_eq_true rfl) h
theorem b_dn {α : Type} {x : α} {i : Decidable (x = x)} {A B : Prop} (h : B) : ((!decide (x = x)) = true → A) ∧ ((!decide (x = x)) = false → B) := bF (by rw [decide_eq_true rfl]; rfl) h
theorem b_dn' {α : Type} {x : α} {i : Decidable (x = x)} {A B : Prop} (h : A) : ((!decide (x = x)) = false → A) ∧ ((!decide (x = x)) = true → B) := bF' (by rw [decide_eq_true rfl]; rfl) h
theorem ex_2 {d e : D} {Q : D → D → Prop} (h : Q d e) : ∃ x y, [d, e] = [x, y] ∧ Q x y := ⟨_, _, rfl, h⟩
end Pw
namespace Far
open PySem PySem.Spec PyProof.Rows L2 Pw
theorem ex_sh {q : Rat} {Q : Rat → Prop} (h : Q q) : ∃ p, shD q = shD p ∧ Q p := ⟨_, rfl, h⟩
def prD (q : Rat) : D := .tup [.int q.num, .int (q.den : Int)]
section
variable {T : Cfg} {μ : Mu} {P : D → Mu → Prop}
theorem isi_sh (hT : ShOk T) {q : Rat} (p : P (.bl true) μ) : CV T (rIsi T.K) [shD q, .ptr (T.cls 0)] μ P := cv_isi (th_sh hT q).ty (th_sh hT q).sh p
theorem isi_ib {i : Int} (p : P (.bl false) μ) : CV T (rIsi T.K) [.int i, .ty "bool"] μ P := cv_isiT (.int i) (kit_ty (kit_tab "int" (by simp [tags]) "bool" (by simp [tys]))) p
theorem isi_ii {i : Int} (p : P (.bl true) μ) : CV T (rIsi T.K) [.int i, .ty "int"] μ P := cv_isiT (.int i) (kit_ty (kit_tab "int" (by simp [tags]) "int" (by simp [tys]))) p
theorem ov_eqP {p q : Rat} (k : P (.bl (decide (p = q))) μ) : OV T (rEqD T.K) (prD p) (prD q) μ P := ov_eq2 (by rw [rat_eq]; exact k)
theorem ov_neP {p q : Rat} (k : P (.bl (!decide (p = q))) μ) : OV T (rNeD T.K) (prD p) (prD q) μ P := ov_ne2 (by rw [rat_eq]; exact k)
end
end Far
local macro_rules | `(tactic| walk_at "rw") => `(tactic| first
  | (with_reducible refine Pw.ev_op ?_)
  | ((with_reducible refine Pw.ev_var (d := ?d) ?h ?_); (case h => rfl))
  | (with_reducible refine Pw.ev_int ?_)
  | (with_reducible refine Pw.ev_bl ?_)
  | (with_reducible refine Pw.ev_str ?_)
  | (with_reducible refine Pw.ev_non ?_)
  | (with_reducible refine Pw.ev_ty ?_)
  | (with_reducible refine Pw.ev_ref ?_)
  | (with_reducible refine Pw.ev_cb ?_)
  | (with_reducible refine Pw.ev_un ?_)
  | (with_reducible refine Pw.ea_cons ?_)
  | (with_reducible refine Pw.ea_nil ?_)
  | (with_reducible refine Pw.ev_cal0 ?_)
  | (with_reducible refine Pw.ev_calN ?_)
  | (with_reducible refine Pw.ev_mak0 ?_)
  | (with_reducible refine Pw.ev_mak1 ?_)
  | (with_reducible refine Pw.ev_if ?_)
  | (with_reducible refine Pw.ev_and ?_)
  | (with_reducible refine Pw.ev_or ?_)
  | (with_reducible refine Pw.ev_not ?_)
  | (with_reducible refine Pw.tv_test ?_)
  | (with_reducible refine Pw.tv_B ?_)
  | (with_reducible refine Pw.tv_and ?_)
  | (with_reducible refine Pw.tv_or ?_)
  | (with_reducible refine Pw.tv_not ?_)
  | (with_reducible refine Pw.tv_yes ?_)
  | (with_reducible refine Pw.po_no ?_)
  | (with_reducible refine Pw.po_so ?_)
  | (with_reducible refine Pw.sv_seq ?_)
  | (with_reducible refine Pw.sv_asg ?_)
  | (with_reducible refine Pw.sv_ret ?_)
  | (with_reducible refine Pw.sv_if ?_)
  | (with_reducible refine Pw.sv_par ?_)
  | (with_reducible refine Pw.sv_next ?_)
  | (with_reducible refine Pw.sv_app ?_)
  | (with_reducible refine Pw.sv_drop ?_)
  | (with_reducible refine Pw.sv_fld ?_)
  | (with_reducible refine Pw.ov_add ?_)
  | (with_reducible refine Pw.ov_sub ?_)
  | (with_reducible refine Pw.ov_lt ?_)
  | (with_reducible refine Pw.ov_le ?_)
  | (with_reducible refine Pw.ov_gt ?_)
  | (with_reducible refine Pw.ov_ge ?_)
  | (with_reducible refine Pw.ov_eqI ?_)
  | (with_reducible refine Pw.ov_neI ?_)
  | (with_reducible refine Pw.ov_eqS ?_)
  | (with_reducible refine Pw.ov_neS ?_)
  | (with_reducible refine Pw.ov_eqB ?_)
  | (with_reducible refine Pw.ov_neB ?_)
  | (with_reducible refine Pw.cv_abs ?_)
  | ((with_reducible refine Pw.ov_ixT (e := ?e) ?h ?_); (case h => rfl))
  | ((with_reducible refine Pw.ov_ixM (ds := ?ds) (e := ?e) ?hm ?h ?_); (case hm => exact Pw.put_same); (case h => rfl))
  | ((with_reducible refine Pw.ov_pow ?h ?_); (case h => exact ⟨by decide, by decide, by decide⟩))
  | ((with_reducible refine Pw.ov_mod ?h ?_); (case h => decide))
  | (with_reducible refine Pw.ev_tup ?_)
  | ((with_reducible refine And.intro (show _ ≤ 100000 from ?hl) ?_); (case hl => (simp; done)))
  | (with_reducible refine Pw.cv_intB ?_)
  | (with_reducible refine Pw.uv_neg ?_)
  | (with_reducible refine Pw.seqK_nx ?_)
  | (with_reducible refine Pw.seqK_rt ?_)
  | (with_reducible refine Pw.seqK_xr ?_)
  | (with_reducible refine Pw.seqK_ct ?_)
  | (with_reducible refine Pw.seqK_bk ?_)
  | (with_reducible refine Pw.whK_rt ?_)
  | (with_reducible refine Pw.whK_xr ?_)
  | (with_reducible refine Pw.whK_bk ?_)
  | (with_reducible refine Pw.forK_nx ?_)
  | (with_reducible refine Pw.forK_ct ?_)
  | (with_reducible refine Pw.forK_rt ?_)
  | (with_reducible refine Pw.forK_xr ?_)
  | (with_reducible refine Pw.forK_bk ?_)
  | (with_reducible refine Pw.fnK_rt ?_)
  | (with_reducible refine Pw.fnK_nx ?_)
  | (with_reducible refine Pw.fnK_xr ?_))
local macro_rules | `(tactic| walk_at "rl") => `(tactic| first
  | walk_at "rw"
  | (with_reducible refine Pw.ev_lst ?_))
local macro_rules | `(tactic| walk_at "rls") => `(tactic| repeat (walk_at "rl"))
local macro_rules | `(tactic| walk_at "rws") => `(tactic| repeat (walk_at "rw"))
local macro_rules | `(tactic| walk_at "rk") => `(tactic| first
  | ((with_reducible refine Far.ev_mkS0 ?hT ?_); (case hT => assumption))
  | ((with_reducible refine Far.ev_mkS1 ?hT ?_); (case hT => assumption))
  | walk_at "rl"
  | (with_reducible refine Pw.ex_bl ?_)
  | (with_reducible refine Pw.b_tt ?_)
  | (with_reducible refine Pw.b_ff ?_)
  | (with_reducible refine Pw.b_tt' ?_)
  | (with_reducible refine Pw.b_ff' ?_)
  | (with_reducible refine Pw.b_nt ?_)
  | (with_reducible refine Pw.b_nf ?_)
  | (with_reducible refine Pw.b_nt' ?_)
  | (with_reducible refine Pw.b_nf' ?_)
  | (with_reducible refine Pw.b_d ?_)
  | (with_reducible refine Pw.b_d' ?_)
  | (with_reducible refine Pw.b_dn ?_)
  | (with_reducible refine Pw.b_dn' ?_)
  | (with_reducible refine Pw.ex_2 ?_)
  | ((with_reducible refine Far.ev_top ?hT ?_); (case hT => assumption))
  | ((with_reducible refine Far.ev_bot ?hT ?_); (case hT => assumption))
  | (with_reducible refine Far.ex_sh ?_)
  | ((with_reducible refine Far.isi_sh ?hT ?_); (case hT => assumption))
  | (with_reducible refine Far.isi_ib ?_)
  | (with_reducible refine Far.isi_ii ?_)
  | (with_reducible refine Pw.ov_eq2 ?_)
  | (with_reducible refine Pw.ov_ne2 ?_)
  | (with_reducible refine Far.ov_eqP ?_)
  | (with_reducible refine Far.ov_neP ?_)
  | (with_reducible refine Far.ex_ii ?_)
  | (with_reducible refine Far.ex_i ?_)
  | (with_reducible refine Far.ev_wellN ?_)
  | ((with_reducible refine Far.ov_shEq ?hT ?_); (case hT => assumption))
  | ((with_reducible refine Far.ov_shNe ?hT ?_); (case hT => assumption))
  | (with_reducible refine Pw.sv_asg2 ?_)
  | (with_reducible refine Pw.sv_asg3 ?_)
  | (with_reducible refine Pw.tryK_nx ?_)
  | (with_reducible refine Pw.tryK_rt ?_)
  | (with_reducible refine Pw.unK_rt ?_)
  | (with_reducible refine Pw.unK_nx ?_)
  | (with_reducible refine Pw.ex_t2 ?_)
  | (with_reducible refine Pw.ex_t3 ?_))
local macro_rules | `(tactic| walk_at "rks") => `(tactic| repeat (walk_at "rk"))
local macro_rules | `(tactic| walk_at "le") => `(tactic| (repeat (first | exact trivial | refine And.intro rfl ?_)))
local macro_rules | `(tactic| walk_at "po") => `(tactic| first
  | walk_at "rk"
  | ((with_reducible refine Far.plus_s ?h ?_); (case h => decide))
  | ((with_reducible refine Far.minus_s ?h ?_); (case h => decide))
  | ((with_reducible refine Far.times_s ?h ?_); (case h => decide))
  | ((with_reducible refine Far.less_s ?h ?_); (case h => decide)))
local macro_rules | `(tactic| walk_at "pos") => `(tactic| repeat (walk_at "po"))
local macro_rules | `(tactic| walk_at "gn") => `(tactic| first
  | ((refine Far.bN' ?h ?_); (case h => grind))
  | ((refine Far.bN ?h ?_); (case h => grind)))
namespace Far
open PySem PySem.Spec PyProof.Rows L2 Pw
open FM (Bq)
abbrev full : Nat := 1073741824
def c_Lwell (T : Cfg) : Ct := fun ds μ P _ => ∃ c : Int, ds = [.int c] ∧ ∀ a, μ a = none → P (.ptr a) (put μ a (.well full))
def c_Ldraw (T : Cfg) : Nat → List D → (D → Nat → Prop) → Prop := fun b rest P => ∃ n : Int, rest = [.int n] ∧ 0 < n ∧ n.natAbs.log2 < 9000 ∧ 1 ≤ b ∧ ∀ k : Int, 0 ≤ k → k < n → P (.int k) (b - 1)
def c_Lone (T : Cfg) : Nat → List D → (D → Nat → Prop) → Prop := fun b rest P => ∃ d ds, rest = [d] ∧ Seqd d ds ∧ 0 < ds.length ∧ ds.length ≤ 1000 ∧ 1 ≤ b ∧ ∀ e ∈ ds, P e (b - 1)
def c_Llow (T : Cfg) : PC := fun ds P _ => ∃ i j : Int, ds = [.int i, .int j] ∧ j ≠ 0 ∧ Bt 9000 j ∧ P (prD (Rat.divInt i j))
def c_Lpair (T : Cfg) : PC := fun ds P _ => ∃ q, ds = [shD q] ∧ Bq 9000 q ∧ P (prD q)
theorem len_Lwell {T : Cfg} : ∀ ds μ P XP, c_Lwell T ds μ P XP → ds.length = 1 := by
  rintro ds μ P XP ⟨c, rfl, _⟩; rfl
theorem len_Ldraw {T : Cfg} : ∀ ds μ P XP, wl (c_Ldraw T) ds μ P XP → ds.length = 2 := by
  rintro ds μ P XP ⟨a, b, rest, rfl, rfl, Pf, ⟨n, rfl, _⟩, _⟩; rfl
theorem len_Lone {T : Cfg} : ∀ ds μ P XP, wl (c_Lone T) ds μ P XP → ds.length = 2 := by
  rintro ds μ P XP ⟨a, b, rest, rfl, rfl, Pf, ⟨d, es, rfl, _⟩, _⟩; rfl
theorem len_Llow {T : Cfg} : ∀ ds μ P XP, pu (c_Llow T) ds μ P XP → ds.length = 2 := by
  rintro ds μ P XP ⟨rfl, Pf, Xf, ⟨i, j, rfl, _⟩, _⟩; rfl
theorem len_Lpair {T : Cfg} : ∀ ds μ P XP, pu (c_Lpair T) ds μ P XP → ds.length = 1 := by
  rintro ds μ P XP ⟨rfl, Pf, Xf, ⟨q, rfl, _⟩, _⟩; rfl
def t_Lwell (T : Cfg) (E : XK) : TS := (tRet (tLst (tCons (tOp (rI IntMulOk fun i j => .int (i * j)) (tVar 0) (tCB rInt1 (tCons (tOp (rI0 fun i j => .bl (decide (j ≤ i))) (tVar 0) (tOp (rI CPow fun i j => .int (i ^ j.toNat)) (tC (.int 10)) (tC (.int 18)))) tNil))) (tCons (tOp (rI (fun _ j => j ≠ 0) fun i j => .int (i.fmod j)) (tVar 0) (tC (.int 2147483647))) (tCons (tC (.int 0)) tNil)))))
def t_Ldraw (T : Cfg) (E : XK) : TS := (tSeq (tIfS (tTest (tOp (rI0 fun i j => .bl (decide (j < i))) (tOp (rIxL T.K) (tVar 0) (tC (.int 0))) (tC (.int 0)))) (tSeq (tAsg (tOp (rI (fun _ j => j ≠ 0) fun i j => .int (i.fmod j)) (tOp (rIxL T.K) (tVar 0) (tC (.int 0))) (tVar 1)) (gName 4))
    (tSeq (tAsg (tOp (rI CFd fun i j => .int (i.fdiv j)) (tOp (rIxL T.K) (tVar 0) (tC (.int 0))) (tVar 1)) (gSub (tVar 0) (tC (.int 0)) rSetL))
    (tRet (tVar 4)))) tNext)
    (tSeq (tAsg (tOp (rI0 fun i j => .int (i + j)) (tOp (rIxL T.K) (tVar 0) (tC (.int 2))) (tC (.int 1))) (gSub (tVar 0) (tC (.int 2)) rSetL))
    (tSeq (tAsg (tOp (rIxL T.K) (tLst (tCons (tC (.int 2147483647)) (tCons (tC (.int 2147483629)) (tCons (tC (.int 2147483587)) (tCons (tC (.int 2147483579)) (tCons (tC (.int 2147483563)) (tCons (tC (.int 2147483549)) (tCons (tC (.int 2147483543)) tNil)))))))) (tOp (rI (fun _ j => j ≠ 0) fun i j => .int (i.fmod j)) (tOp (rIxL T.K) (tVar 0) (tC (.int 2))) (tC (.int 7)))) (gName 2))
    (tSeq (tAsg (tOp (rI (fun _ j => j ≠ 0) fun i j => .int (i.fmod j)) (tOp (rI CPow fun i j => .int (i ^ j.toNat)) (tOp (rI0 fun i j => .int (i + j)) (tOp (rI0 fun i j => .int (i + j)) (tOp (rIxL T.K) (tVar 0) (tC (.int 1))) (tOp (rI IntMulOk fun i j => .int (i * j)) (tC (.int 7919)) (tOp (rIxL T.K) (tVar 0) (tC (.int 2))))) (tC (.int 1))) (tC (.int 5))) (tVar 2)) (gName 3))
    (tSeq (tAsg (tOp (rI (fun _ j => j ≠ 0) fun i j => .int (i.fmod j)) (tOp (rI IntMulOk fun i j => .int (i * j)) (tOp (rI0 fun i j => .int (i + j)) (tVar 3) (tOp (rIxL T.K) (tVar 0) (tC (.int 2)))) (tOp (rI0 fun i j => .int (i + j)) (tOp (rI CFd fun i j => .int (i.fdiv j)) (tVar 3) (tC (.int 1009))) (tC (.int 69621)))) (tVar 2)) (gName 3))
    (tRet (tOp (rI (fun _ j => j ≠ 0) fun i j => .int (i.fmod j)) (tOp (rI CFd fun i j => .int (i.fdiv j)) (tVar 3) (tC (.int 7))) (tVar 1))))))))
def t_Lone (T : Cfg) (E : XK) : TS := (tRet (tOp (rIxL T.K) (tVar 1) (tCall (spOf T (wl (c_Ldraw T))) [] E0 (tCons (tVar 0) (tCons (tCB (Pw.rLen T.K) (tCons (tVar 1) tNil)) tNil)))))
def t_Llow (T : Cfg) (E : XK) : TS := (tSeq (tPar 2 3 (tCons (tCB rAbs (tCons (tVar 0) tNil)) (tCons (tCB rAbs (tCons (tVar 1) tNil)) tNil)))
    (tSeq (tWhile (tTest (tOp (rI0 fun i j => .bl (decide (j < i))) (tVar 3) (tC (.int 0)))) (tPar 2 3 (tCons (tVar 3) (tCons (tOp (rI (fun _ j => j ≠ 0) fun i j => .int (i.fmod j)) (tVar 2) (tVar 3)) tNil))))
    (tSeq (tIfS (tTest (tOp (rI0 fun i j => .bl (decide (i < j))) (tVar 1) (tC (.int 0)))) (tAsg (tOp (rI0 fun i j => .int (i - j)) (tC (.int 0)) (tVar 2)) (gName 2)) tNext)
    (tRet (tTup (tCons (tOp (rI CFd fun i j => .int (i.fdiv j)) (tVar 0) (tVar 2)) (tCons (tOp (rI CFd fun i j => .int (i.fdiv j)) (tVar 1) (tVar 2)) tNil)))))))
def t_Lpair (T : Cfg) (E : XK) : TS := (tSeq (tIfS (tOr (tNot (tB (tCB (rIsi T.K) (tCons (tVar 0) (tCons (tC (.ref (T.cls 0))) tNil))))) (tOr (tB (tCB (rIsi T.K) (tCons (tFld T.K (tVar 0) "top") (tCons (tC (.ty "bool")) tNil)))) (tB (tCB (rIsi T.K) (tCons (tFld T.K (tVar 0) "bottom") (tCons (tC (.ty "bool")) tNil)))))) (tRet (tTup (tCons (tC (.int 0)) (tCons (tC (.int 0)) tNil)))) tNext)
    (tSeq (tIfS (tOr (tNot (tB (tCB (rIsi T.K) (tCons (tFld T.K (tVar 0) "top") (tCons (tC (.ty "int")) tNil))))) (tOr (tNot (tB (tCB (rIsi T.K) (tCons (tFld T.K (tVar 0) "bottom") (tCons (tC (.ty "int")) tNil))))) (tTest (tOp (rI0 fun i j => .bl (decide (i < j))) (tFld T.K (tVar 0) "bottom") (tC (.int 1)))))) (tRet (tTup (tCons (tC (.int 0)) (tCons (tC (.int 0)) tNil)))) tNext)
    (tRet (tIf (tTest (tOp (rEqD T.K) (tCall (spOf T (pu (c_Llow T))) [] E0 (tCons (tFld T.K (tVar 0) "top") (tCons (tFld T.K (tVar 0) "bottom") tNil))) (tTup (tCons (tFld T.K (tVar 0) "top") (tCons (tFld T.K (tVar 0) "bottom") tNil))))) (tTup (tCons (tFld T.K (tVar 0) "top") (tCons (tFld T.K (tVar 0) "bottom") tNil))) (tTup (tCons (tC (.int 0)) (tCons (tC (.int 0)) tNil)))))))
theorem pure_Lwell {T : Cfg} (hT : ShOk T) : ∀ E ds μ P XP, c_Lwell T ds μ P XP → SV T (t_Lwell T E) (fun cls dd _ H => E cls dd H) ⟨slots 1 ds, μ⟩ (fnK P XP) := by
  rintro E ds μ P XP ⟨c, rfl, h⟩
  unfold t_Lwell
  refine sv_ret (ev_newWell ?_)
  walk_at "rws"
  refine ov_mul ?_ ?_
  · exact IntMulOk.of_right (by split <;> decide)
  walk_at "rws"
  refine ⟨full, _, _, _, rfl, ?_, ?_, ?_, by decide, by decide, h⟩
  · split
    · rename_i hc
      have : (10 : Int) ^ Int.toNat 18 ≤ c := by simpa using hc
      have h2 : (0 : Int) ≤ 10 ^ Int.toNat 18 := by decide
      omega
    · omega
  · rw [Int.fmod_eq_emod_of_nonneg _ (by decide)]; omega
  · rw [Int.fmod_eq_emod_of_nonneg _ (by decide)]; omega
theorem pure_Ldraw {T : Cfg} (hT : ShOk T) : ∀ E ds μ P XP, wl (c_Ldraw T) ds μ P XP → SV T (t_Ldraw T E) (fun cls dd _ H => E cls dd H) ⟨slots 5 ds, μ⟩ (fnK P XP) := by
  rintro E ds μ P XP ⟨a, b, rest, rfl, rfl, Pf, ⟨n, rfl, hn, hl, hb, k⟩, hP⟩
  unfold t_Ldraw
  refine sv_well put_same fun w0 w1 w2 h0 h1 h2 h3 h4 => ?_
  rw [put_put]
  walk_at "rws"
  refine ⟨_, rfl, fun hw => ?_, fun hw => ?_⟩
  · have hw0 : 0 < w0 := by simpa using hw
    walk_at "rws"
    refine ov_mod (by omega) ?_
    walk_at "rws"
    refine sv_setL ?_
    walk_at "rws"
    refine ov_fdiv ⟨by omega, hl⟩ ?_
    walk_at "rws"
    refine ⟨a, _, 0, 0, rfl, put_same, rfl, rfl, ?_⟩
    rw [put_put]
    walk_at "rw"
    refine sv_ret (ev_close (a := a) ?_)
    walk_at "rws"
    refine ⟨b - 1, w0.fdiv n, w1, w2, put_same, ?_, h1, h2, h3, by omega, ?_⟩
    · rw [Int.fdiv_eq_ediv_of_nonneg _ (by omega)]
      exact Int.ediv_nonneg h0 (by omega)
    · rw [put_put]
      refine hP _ _ (k _ ?_ ?_)
      · rw [Int.fmod_eq_emod_of_nonneg _ (by omega)]; exact Int.emod_nonneg _ (by omega)
      · rw [Int.fmod_eq_emod_of_nonneg _ (by omega)]; exact Int.emod_lt_of_pos _ hn
  · walk_at "rws"
    refine sv_setL ?_
    walk_at "rws"
    refine ⟨a, _, 2, 2, rfl, put_same, rfl, rfl, ?_⟩
    rw [put_put]
    have hp : ∃ p : Int, atI [D.int 2147483647, D.int 2147483629, D.int 2147483587, D.int 2147483579, D.int 2147483563, D.int 2147483549, D.int 2147483543] ((w2 + 1).fmod 7) = some (.int p) ∧ 2147483543 ≤ p ∧ p ≤ 2147483647 := by
      rw [Int.fmod_eq_emod_of_nonneg _ (by decide)]
      have hr : (w2 + 1) % 7 = 0 ∨ (w2 + 1) % 7 = 1 ∨ (w2 + 1) % 7 = 2 ∨ (w2 + 1) % 7 = 3 ∨ (w2 + 1) % 7 = 4 ∨ (w2 + 1) % 7 = 5 ∨ (w2 + 1) % 7 = 6 := by omega
      rcases hr with e | e | e | e | e | e | e <;> rw [e] <;> exact ⟨_, rfl, by decide, by decide⟩
    obtain ⟨p, hp, p1, p2⟩ := hp
    walk_at "rls"
    refine ov_ixL (.inl rfl) hp ?_
    walk_at "rws"
    refine ov_mul (IntMulOk.of_left (by decide)) ?_
    walk_at "rws"
    refine ov_pow ⟨by decide, by decide, ?_⟩ ?_
    · have e : (2 : Nat) ^ 64 = 18446744073709551616 := by decide
      rw [e]; omega
    walk_at "rws"
    refine ov_mod (by omega) ?_
    generalize hx : ((w1 + 7919 * (w2 + 1) + 1) ^ Int.toNat 5).fmod p = x
    have x1 : 0 ≤ x ∧ x < p := by
      rw [Int.fmod_eq_emod_of_nonneg _ (by omega)] at hx
      exact hx ▸ ⟨Int.emod_nonneg _ (by omega), Int.emod_lt_of_pos _ (by omega)⟩
    walk_at "rws"
    refine ov_fdiv ⟨by decide, by decide⟩ ?_
    walk_at "rws"
    refine ov_mul ?_ ?_
    · refine IntMulOk.of_left (intBits_le_64 ?_ ?_)
      · have e : (2 : Int) ^ 64 = 18446744073709551616 := by decide
        rw [e]; omega
      · have e : (2 : Int) ^ 64 = 18446744073709551616 := by decide
        rw [e]; omega
    walk_at "rws"
    refine ov_mod (by omega) ?_
    generalize ((x + (w2 + 1)) * (x.fdiv 1009 + 69621)).fmod p = y
    walk_at "rw"
    refine sv_ret (ev_close (a := a) ?_)
    walk_at "rws"
    refine ov_fdiv ⟨by decide, by decide⟩ ?_
    walk_at "rws"
    refine ov_mod (by omega) ?_
    refine ⟨b - 1, w0, w1, w2 + 1, put_same, h0, h1, h2, by omega, by omega, ?_⟩
    rw [put_put]
    walk_at "rws"
    refine hP _ _ (k _ ?_ ?_)
    · rw [Int.fmod_eq_emod_of_nonneg _ (by omega)]; exact Int.emod_nonneg _ (by omega)
    · rw [Int.fmod_eq_emod_of_nonneg _ (by omega)]; exact Int.emod_lt_of_pos _ hn
theorem atI_mem {ds : List D} {k : Int} (h0 : 0 ≤ k) (h1 : k < ds.length) : ∃ e, atI ds k = some e ∧ e ∈ ds := by
  obtain ⟨n, rfl⟩ := Int.eq_ofNat_of_zero_le h0
  have hn : n < ds.length := by omega
  refine ⟨ds[n], ?_, List.getElem_mem hn⟩
  have e : ixN ds.length (n : Int) = some n := by
    unfold ixN
    rw [if_pos (by omega), if_pos (by omega)]
    rfl
  unfold atI
  rw [e]
  exact List.getElem?_eq_getElem hn
theorem pure_Lone {T : Cfg} (hT : ShOk T) : ∀ E ds μ P XP, wl (c_Lone T) ds μ P XP → SV T (t_Lone T E) (fun cls dd _ H => E cls dd H) ⟨slots 2 ds, μ⟩ (fnK P XP) := by
  rintro E ds μ P XP ⟨a, b, rest, rfl, rfl, Pf, ⟨d, es, rfl, hs, h0, h1, hb, k⟩, hP⟩
  unfold t_Lone
  walk_at "rws"
  refine cv_len hs ?_
  walk_at "rws"
  refine ⟨a, b, _, _, rfl, rfl, _, rfl, by omega, ?_, hb, fun x x0 x1 => ?_⟩
  · have : (es.length : Int).natAbs = es.length := by omega
    rw [this]
    exact PySem.Flt.log2_lt_of (by decide) (Nat.lt_of_le_of_lt h1 (Nat.lt_of_lt_of_le (m := 2 ^ 10) (by decide) (Nat.pow_le_pow_right (by decide) (by decide))))
  · obtain ⟨e, he, hm⟩ := atI_mem x0 x1
    refine ov_ixL hs he ?_
    walk_at "rws"
    exact hP _ _ (k e hm)
theorem gcd_step {x n : Nat} (h : n ≠ 0) : Nat.gcd n (x % n) = Nat.gcd x n := by
  rw [Nat.gcd_comm x n, Nat.gcd_rec n x, Nat.gcd_comm]
theorem pure_Llow {T : Cfg} (hT : ShOk T) : ∀ E ds μ P XP, pu (c_Llow T) ds μ P XP → SV T (t_Llow T E) (fun cls dd _ H => E cls dd H) ⟨slots 4 ds, μ⟩ (fnK P XP) := by
  rintro E ds μ P XP ⟨rfl, Pf, Xf, ⟨i, j, rfl, hj, hb, p⟩, hP, hX⟩
  unfold t_Llow
  walk_at "rws"
  refine ⟨_, _, rfl, ?_⟩
  walk_at "rw"
  walk_at "rw"
  refine sv_while (fun n s => ∃ x : Nat, s = ⟨[some (.int i), some (.int j), some (.int x), some (.int n)], mu0⟩ ∧ Nat.gcd x n = Nat.gcd i.natAbs j.natAbs) j.natAbs ⟨i.natAbs, rfl, rfl⟩ ?_
  rintro n s ⟨x, rfl, hg⟩
  walk_at "rws"
  refine ⟨_, rfl, fun h1 => ?_, fun h1 => ?_⟩
  · walk_at "rws"
    have hn : n ≠ 0 := by
      intro z; subst z; simp at h1
    refine ov_mod (by omega) ?_
    walk_at "rws"
    refine ⟨_, _, rfl, x % n, Nat.mod_lt _ (by omega), n, ?_, ?_⟩
    · have : (x : Int).fmod (n : Int) = ((x % n : Nat) : Int) := by
        rw [Int.fmod_eq_emod_of_nonneg _ (by omega)]; rfl
      rw [this]
      rfl
    · rw [← hg, gcd_step hn]
  · have hn : n = 0 := by
      simp at h1; omega
    subst hn
    rw [Nat.gcd_zero_right] at hg
    subst hg
    have hgp : 0 < Nat.gcd i.natAbs j.natAbs := Nat.gcd_pos_of_pos_right _ (by omega)
    have hgl : Nat.gcd i.natAbs j.natAbs ≤ j.natAbs := Nat.gcd_le_right _ (by omega)
    have fin : ∀ x : Int, x = ((Nat.gcd i.natAbs j.natAbs : Nat) : Int) * (if 0 < j then 1 else -1) → CFd i x ∧ CFd j x ∧ i.fdiv x = (Rat.divInt i j).num ∧ j.fdiv x = ((Rat.divInt i j).den : Int) := fun x hx => by
      have e1 := FM.num_ok (i := i) hj
      have e2 := FM.den_ok (i := i) hj
      rw [← hx] at e1 e2
      have hab : x.natAbs = Nat.gcd i.natAbs j.natAbs := by
        subst hx; split <;> omega
      have hc : x ≠ 0 ∧ x.natAbs.log2 < 9000 := ⟨by omega, PySem.Flt.log2_lt_of (by decide) (Nat.lt_of_le_of_lt (hab ▸ hgl) hb)⟩
      exact ⟨hc, hc, e1, e2⟩
    walk_at "rws"
    refine ⟨_, rfl, fun hl => ?_, fun hl => ?_⟩
    · have hl' : j < 0 := by simpa using hl
      obtain ⟨c1, c2, e1, e2⟩ := fin (0 - ((Nat.gcd i.natAbs j.natAbs : Nat) : Int)) (by rw [if_neg (by omega)]; omega)
      walk_at "rws"
      refine ov_fdiv c1 ?_
      walk_at "rws"
      refine ov_fdiv c2 ?_
      walk_at "rws"
      rw [e1, e2]
      exact hP _ p
    · have hl' : ¬ j < 0 := by simpa using hl
      obtain ⟨c1, c2, e1, e2⟩ := fin ((Nat.gcd i.natAbs j.natAbs : Nat) : Int) (by rw [if_pos (by omega)]; omega)
      walk_at "rws"
      refine ov_fdiv c1 ?_
      walk_at "rws"
      refine ov_fdiv c2 ?_
      walk_at "rws"
      rw [e1, e2]
      exact hP _ p
theorem low_i {T : Cfg} {i j : Int} {P : D → Prop} {X : XD → Prop} (hj : j ≠ 0) (hb : Bt 9000 j) (k : P (prD (Rat.divInt i j))) : c_Llow T [.int i, .int j] P X := ⟨i, j, rfl, hj, hb, k⟩
theorem pair_i {T : Cfg} {q : Rat} {P : D → Prop} {X : XD → Prop} (hb : Bq 9000 q) (k : P (prD q)) : c_Lpair T [shD q] P X := ⟨q, rfl, hb, k⟩
theorem one_i {T : Cfg} {b : Nat} {ds : List D} {P : D → Nat → Prop} (hb : 1 ≤ b) (h0 : 0 < ds.length) (h1 : ds.length ≤ 1000) (k : ∀ e ∈ ds, P e (b - 1)) : c_Lone T b [.lst ds] P := ⟨_, ds, rfl, .inl rfl, h0, h1, hb, k⟩
theorem draw_i {T : Cfg} {b : Nat} {n : Int} {P : D → Nat → Prop} (hb : 1 ≤ b) (h0 : 0 < n) (h1 : Bt 9000 n) (k : ∀ k : Int, 0 ≤ k → k < n → P (.int k) (b - 1)) : c_Ldraw T b [.int n] P := ⟨_, rfl, h0, h1.log (by decide), hb, k⟩
theorem pure_Lpair {T : Cfg} (hT : ShOk T) : ∀ E ds μ P XP, pu (c_Lpair T) ds μ P XP → SV T (t_Lpair T E) (fun cls dd _ H => E cls dd H) ⟨slots 1 ds, μ⟩ (fnK P XP) := by
  rintro E ds μ P XP ⟨rfl, Pf, Xf, ⟨q, rfl, hq, p⟩, hP, hX⟩
  unfold t_Lpair
  walk_at "rks"
  have hd : ¬ (q.den : Int) < 1 := by have := q.den_pos; omega
  rw [decide_eq_false hd]
  walk_at "rks"
  refine low_i (by have := q.den_pos; omega) (by simpa [Bt] using hq.2) ?_
  rw [Rat.num_divInt_den]
  walk_at "rks"
  refine ov_eqP ?_
  rw [decide_eq_true rfl]
  walk_at "rks"
  exact hP _ p
end Far
namespace Pw
open PySem PySem.Spec PyProof.Rows L2
def leR : List (Option D) → List (Option D) → Prop
  | [], [] => True
  | none :: r, _ :: s => leR r s
  | some d :: r, p :: s => p = some d ∧ leR r s
  | _, _ => False
theorem leR.len : ∀ {r s : List (Option D)}, leR r s → r.length = s.length
  | [], [], _ => rfl
  | none :: r, _ :: s, h => by
    have := leR.len (r := r) (s := s) h
    simp [this]
  | some d :: r, p :: s, h => by
    have := leR.len (r := r) (s := s) h.2
    simp [this]
  | [], _ :: _, h => h.elim
  | none :: _, [], h => h.elim
  | some _ :: _, [], h => h.elim
theorem leR.get : ∀ {r s : List (Option D)}, leR r s → ∀ (i : Nat) (d : D), r[i]? = some (some d) → s[i]? = some (some d)
  | [], [], _, i, d, e => by simp at e
  | none :: r, _ :: s, h, 0, d, e => by simp at e
  | none :: r, _ :: s, h, i + 1, d, e => leR.get (r := r) (s := s) h i d e
  | some d' :: r, p :: s, h, 0, d, e => by
    have e' : some (some d') = some (some d) := e
    cases e'
    show some p = _
    rw [h.1]
  | some d' :: r, p :: s, h, i + 1, d, e => leR.get (r := r) (s := s) h.2 i d e
  | [], _ :: _, h, _, _, _ => h.elim
  | none :: _, [], h, _, _, _ => h.elim
  | some _ :: _, [], h, _, _, _ => h.elim
theorem leR.refl : ∀ {r : List (Option D)}, leR r r
  | [] => trivial
  | none :: r => leR.refl (r := r)
  | some d :: r => ⟨rfl, leR.refl (r := r)⟩
theorem leR.set : ∀ {r s : List (Option D)}, leR r s → ∀ (i : Nat) (d : D), leR (r.set i (some d)) (s.set i (some d))
  | [], [], _, i, d => trivial
  | none :: r, _ :: s, h, 0, d => ⟨rfl, h⟩
  | none :: r, _ :: s, h, i + 1, d => leR.set (r := r) (s := s) h i d
  | some d' :: r, p :: s, h, 0, d => ⟨rfl, h.2⟩
  | some d' :: r, p :: s, h, i + 1, d => ⟨h.1, leR.set (r := r) (s := s) h.2 i d⟩
  | [], _ :: _, h, _, _ => h.elim
  | none :: _, [], h, _, _ => h.elim
  | some _ :: _, [], h, _, _ => h.elim
theorem leR.of : ∀ {r s : List (Option D)}, r.length = s.length → (∀ (i : Nat) (d : D), r[i]? = some (some d) → s[i]? = some (some d)) → leR r s
  | [], [], _, _ => trivial
  | none :: r, p :: s, hl, h => leR.of (r := r) (s := s) (by simpa using hl) fun i d e => h (i + 1) d e
  | some d' :: r, p :: s, hl, h => ⟨Option.some.inj (h 0 d' rfl), leR.of (r := r) (s := s) (by simpa using hl) fun i d e => h (i + 1) d e⟩
  | [], _ :: _, hl, _ => by simp at hl
  | none :: _, [], hl, _ => by simp at hl
  | some _ :: _, [], hl, _ => by simp at hl
theorem leR.trans {r s t : List (Option D)} (h : leR r s) (k : leR s t) : leR r t := leR.of (h.len.trans k.len) fun i d e => k.get i d (h.get i d e)
section
variable {T : Cfg} {W : WX} {ρ ρ' : List (Option D)} {m0 m' : Mu} {XP : XW} {K : Out → Prop} {ta tb te : TE} {P : D → Mu → Prop} {u : TS}
theorem Sim.wk {σ : L2.St} {Hb H : Hp} (h : leR ρ' ρ) (hm : Subm m' m0) (S : Sim T ⟨ρ, m0⟩ σ Hb H) : Sim T ⟨ρ', m'⟩ σ Hb H :=
  ⟨h.len.trans S.len, fun i d e => S.vars i d (h.get i d e), S.sub, hm.sim S.mu⟩
theorem sv_wk (h : leR ρ' ρ) (hm : Subm m' m0) (k : SV T u W ⟨ρ', m'⟩ K) : SV T u W ⟨ρ, m0⟩ K := fun σ Hb H Dn S c =>
  k σ Hb H Dn (S.wk h hm) (c.go (S.refl.forget hm))
theorem sub_refl {m : Mu} : Subm m m := fun _ _ e => e
theorem seqK_wk {s' : S} (h : leR ρ' s'.r) (k : SV T u W ⟨ρ', s'.m⟩ K) : seqK T u W K (.nx s') := seqK_nx (sv_wk (ρ := s'.r) (m0 := s'.m) h sub_refl k)
theorem seqK_res {s' : S} (h : leR ρ' s'.r) (k : SV T u W ⟨ρ', mu0⟩ K) : seqK T u W K (.nx s') := seqK_nx (sv_wk (ρ := s'.r) (m0 := s'.m) h sub_nil k)
abbrev InvR (ρ : List (Option D)) (J : Nat → Mu → Prop) : Nat → S → Prop := fun n s => leR ρ s.r ∧ J n s.m
theorem sv_forN {i : Nat} (h : EV T te W ⟨ρ, m0⟩ (fun d μ => ∃ ds ρ' J, Seqd d ds ∧ leR ρ' ρ ∧ J 0 μ ∧ (∀ n e μ', ds[n]? = some e → J n μ' → SV T u W ⟨ρ'.set i (some e), μ'⟩ (forK (InvR ρ' J) n K)) ∧ ∀ s', leR ρ' s'.r → J ds.length s'.m → K (.nx s')) (xk ⟨ρ, m0⟩ K)) : SV T (tFor (iList T.K te) (gName i) u) W ⟨ρ, m0⟩ K :=
  sv_for (is := [i]) (iv_list (h.imp fun d μ ⟨ds, ρ', J, hs, hr, j0, turn, done⟩ => ⟨ds, hs, InvR ρ' J, ⟨hr, j0⟩, fun n s' hn hi => gv_name (sv_wk (hi.1.set i _) sub_refl (turn n _ s'.m (nth_get hn) hi.2)), fun s' hi => done s' hi.1 hi.2⟩))
theorem sv_forR {i : Nat} (h : EV T te W ⟨ρ, m0⟩ (fun d μ => ∃ ds ρ', Seqd d ds ∧ leR ρ' ρ ∧ (∀ e ∈ ds, SV T u W ⟨ρ'.set i (some e), mu0⟩ (forK (InvR ρ' fun _ _ => True) 0 K)) ∧ ∀ s', leR ρ' s'.r → K (.nx s')) (xk ⟨ρ, m0⟩ K)) : SV T (tFor (iList T.K te) (gName i) u) W ⟨ρ, m0⟩ K :=
  sv_forN (h.imp fun d μ ⟨ds, ρ', hs, hr, turn, done⟩ => ⟨ds, ρ', fun _ _ => True, hs, hr, trivial, fun n e μ' he _ => sv_wk leR.refl sub_nil ((turn e (List.mem_of_getElem? he)).imp fun o ho => by
    cases o <;> exact ho), fun s' a _ => done s' a⟩)
theorem ev_lcF {i : Nat} {te' : TE} (h : EV T te W ⟨ρ, m0⟩ (fun d μ => ∃ (ds : List D) (f : D → D), Seqd d ds ∧ ds.length ≤ 100000 ∧ (∀ e ∈ ds, EV T te' (fun _ _ _ _ => False) ⟨(wipeD ρ [i]).set i (some e), μ⟩ (fun x μ' => x = f e ∧ μ' = μ) (fun _ _ => False)) ∧ P (.lst (ds.map f)) μ) XP) : EV T (tLc (iList T.K te) (gName i) tYes te' [i]) W ⟨ρ, m0⟩ P XP :=
  ev_lc (is := [i]) (fun _ h => h) (iv_list (h.imp fun d μ ⟨ds, f, hs, hl, turn, done⟩ => ⟨ds, hs, hl, fun n acc μ' => μ' = μ ∧ acc = (ds.take n).map f, ⟨rfl, by simp⟩, fun n acc μ' hn _ ⟨e1, e2⟩ => by
    subst e1 e2
    refine gv_name (tv_yes ⟨fun _ => ?_, fun e => (nomatch e)⟩)
    have hm : nth ds n ∈ ds := List.mem_of_getElem? (nth_get hn)
    refine (turn _ hm).imp fun x μ2 ⟨e1, e2⟩ => ⟨e2, ?_⟩
    rw [e1, List.take_succ, nth_get hn]
    simp, fun acc μ' ⟨e1, e2⟩ => by
    subst e1 e2
    rw [List.take_length]
    exact done⟩))
end
end Pw
namespace Pw
open PySem PySem.Spec PyProof.Rows L2
theorem ev_callM0 {T : Cfg} {W : WX} {ρ : List (Option D)} {m0 : Mu} {P : D → Mu → Prop} {XP : XW} {c : Ct} {E : XK} {ta : TA}
    (h : EA T ta W ⟨ρ, m0⟩ (fun ds μ => ∃ μ1, Subm μ1 μ ∧ c ds μ1 (fun d μ2 => P d (mrg μ μ1 μ2)) (fun x μ2 => False)) XP) : EV T (tCall (spOf T c) [] E ta) W ⟨ρ, m0⟩ P XP := fun σ Hb H Q S q x =>
  h σ Hb H _ S (fun ds μ vs Hb1 H1 g r p => by
    obtain ⟨μ1, hs, p⟩ := p
    refine ⟨ds, μ1, Hb1, _, _, g.sub, hs.sim g.mu, by simpa using r, p, fun d μ' v Hb' H' g' r' k => ?_, fun y μ' cls dd Hb' H' g' r' k => k.elim⟩
    exact q _ _ _ _ _ (g.trans (g'.widen hs g.mu)) r' k) x
theorem mrg_put {μ : Mu} {a : Addr} {m : MO} : mrg μ mu0 (put mu0 a m) = put μ a m := by
  funext b
  unfold mrg put
  by_cases e : b = a
  · simp [e]
  · simp [e]
theorem cut_sub {ds : List D} {lo hi : Option Int} : ∀ e ∈ cutD ds lo hi, e ∈ ds := fun e h => List.mem_of_mem_drop (List.mem_of_mem_take h)
theorem cut_len {ds : List D} {lo hi : Option Int} : (cutD ds lo hi).length ≤ ds.length := by
  unfold cutD
  rw [List.length_take, List.length_drop]
  omega
def c_law (T : Cfg) : Ct := fun ds μ P _ => ∃ ns : List Int, ds = [.seq (ns.map D.int)] ∧ ns.length ≤ 63 ∧ μ = mu0 ∧ ∀ μ', P (.bl true) μ'
theorem len_law {T : Cfg} : ∀ ds μ P XP, c_law T ds μ P XP → ds.length = 1 := by
  rintro ds μ P XP ⟨ns, rfl, _⟩; rfl
theorem ints_rep {T : Cfg} {H : Hp} : ∀ ns : List Int, RepL T H (ns.map D.int) (ns.map V.int)
  | [] => .nil
  | n :: ns => .cons (.int n) (ints_rep ns)
theorem law_startL {T : Cfg} {H : Hp} {a : Addr} {ns : List Int} (hu : ∀ P q q', (P, q) ∈ T.tbs → (P, q') ∈ T.tbs → q = q') (hT : ∀ P q, (P, q) ∈ T.tbs → H P = some (.tbl #[])) (hl : ns.length ≤ 63) (hS : SqL T.K H a (ns.map V.int)) : spOf T (c_law T) [.ref a] H (fun v _ => v = .bl true) fun _ _ _ => False := by
  have main : ∀ Hb : Hp, Evl.Ex Hb H → SqL T.K Hb a (ns.map V.int) → (∀ c o, Hb c = some o → NoTC o) → spOf T (c_law T) [.ref a] H (fun v _ => v = .bl true) fun _ _ _ => False := fun Hb ex hS hn => by
    have sm : SimMu T mu0 Hb H := by
      classical
      let G : Hp := fun b => if ∃ q, (b, q) ∈ T.tbs then H b else none
      have gt : ∀ b u, G b = some u → u = .tbl #[] := fun b u e => by
        have e : (if ∃ q, (b, q) ∈ T.tbs then H b else none) = some u := e
        by_cases h : ∃ q, (b, q) ∈ T.tbs
        · rw [if_pos h] at e
          obtain ⟨q, hq⟩ := h
          rw [hT b q hq] at e
          exact (Option.some.inj e).symm
        · rw [if_neg h] at e
          cases e
      have noc : ∀ c oc, G c ≠ some (.frz oc mkC) := fun c oc e => by
        have := gt c _ e
        cases this
      have nm : ∀ P q, Nm T.tbs G P q → (P, q) ∈ T.tbs := fun P q h => by
        rcases h with h | ⟨c, oc, _, e, _⟩
        · exact h
        · exact absurd e (noc c oc)
      refine ⟨fun _ _ h => (nomatch h), ⟨G, fun b u e => ?_, ⟨fun P q h => ?_, fun P q q' h h' => hu P q q' (nm _ _ h) (nm _ _ h')⟩, fun c oc => ⟨fun e => absurd e (noc c oc), fun e => absurd rfl ((hn _ _ e).2 oc)⟩, fun b u e => ?_⟩, fun c ps e => absurd rfl ((hn _ _ e).1 ps)⟩
      · have e0 : (if ∃ q, (b, q) ∈ T.tbs then H b else none) = some u := e
        by_cases h : ∃ q, (b, q) ∈ T.tbs
        · rw [if_pos h] at e0
          exact e0
        · rw [if_neg h] at e0
          cases e0
      · have h := nm _ _ h
        refine ⟨#[], ?_, True.intro, fun pos cv e => ?_⟩
        · show (if ∃ q, (P, q) ∈ T.tbs then H P else none) = _
          rw [if_pos ⟨q, h⟩]
          exact hT P q h
        · have z : codeAmong pos [] = some cv := e
          simp [codeAmong] at z
      · rw [gt b u e]
        exact fun z => z.1 #[] rfl
    exact ⟨[.seq (ns.map D.int)], mu0, Hb, fun d _ => d = .bl true, fun _ _ => False, ex, sm, .cons (.seq hS (ints_rep (T := T) (H := Hb) ns).1 (ints_rep ns).2) .nil, ⟨ns, rfl, hl, rfl, fun _ => rfl⟩, fun d μ' v Hb' H' g r p => by
      subst p
      cases r
      rfl, fun _ _ _ _ _ _ _ _ k => k.elim⟩
  rcases hS with h | h
  · have hn : ∀ o, H a = some o → NoTC o := fun o e => by
      rcases h with z | ⟨od, z⟩ <;> rw [z] at e <;> cases e <;> exact ⟨fun _ z => (nomatch z), fun _ z => (nomatch z)⟩
    refine main (fun c => if c = a then H c else none) (fun c o e => ?_) (.inl ?_) fun c o e => ?_
    · have e : (if c = a then H c else none) = some o := e
      by_cases q : c = a
      · rw [if_pos q] at e; exact e
      · rw [if_neg q] at e; cases e
    · rcases h with z | ⟨od, z⟩
      · exact .inl (by show (if a = a then H a else none) = _; rw [if_pos rfl]; exact z)
      · exact .inr ⟨od, by show (if a = a then H a else none) = _; rw [if_pos rfl]; exact z⟩
    · have e : (if c = a then H c else none) = some o := e
      by_cases q : c = a
      · rw [if_pos q, q] at e; exact hn o e
      · rw [if_neg q] at e; cases e
  · exact main (fun _ => none) (fun _ _ e => (nomatch e)) (.inr h) fun _ _ e => (nomatch e)
theorem law_start {T : Cfg} {H : Hp} {a : Addr} {ns : List Int} (hl : ns.length ≤ 63) (hS : SqL T.K H a (ns.map V.int)) (h0 : T.tbs = [] := by rfl) : spOf T (c_law T) [.ref a] H (fun v _ => v = .bl true) fun _ _ _ => False :=
  law_startL (fun P q q' h => by rw [h0] at h; exact absurd h (by simp)) (fun P q h => by rw [h0] at h; exact absurd h (by simp)) hl hS
theorem ev_cells {T : Cfg} {W : WX} {ρ : List (Option D)} {m0 : Mu} {P : D → Mu → Prop} {XP : XW} {k : Int} {ns : List Int} {ta : TA} (h0 : ρ[0]? = some (some (.seq (ns.map D.int)))) (hl : ns.length ≤ 63)
    (h : EA T ta W ⟨ρ, m0⟩ (fun ds μ => ds.length ≤ 1000 ∧ (∀ e ∈ ds, ∃ c : Int, e = .int c) ∧ ∀ es, es.length ≤ 2000 → (∀ e ∈ es, ∃ c : Int, e = .int c) → P (.lst es) μ) XP) : EV T (tOp rCat (tSl (rSlL T.K) (tVar 0) tNoPart (tPart (tC (.int k)))) (tLst ta)) W ⟨ρ, m0⟩ P XP := by
  refine ev_op (ev_slL (ev_var h0 (po_no (po_so (ev_int ⟨k, rfl, ns.map D.int, .inr rfl, ev_lst ?_⟩)))))
  intro σ Hb H Q S q x
  refine h σ Hb H Q S (fun ds μ vs Hb' H' g r p => q ds μ vs Hb' H' g r ⟨by omega, ?_⟩) x
  have hc := cut_len (ds := ns.map D.int) (lo := none) (hi := some k)
  rw [List.length_map] at hc
  refine ov_cat (by omega) (p.2.2 _ (by rw [List.length_append]; omega) fun e he => ?_)
  rcases List.mem_append.1 he with h1 | h1
  · have := cut_sub e h1
    rw [List.mem_map] at this
    obtain ⟨c, _, rfl⟩ := this
    exact ⟨c, rfl⟩
  · exact p.2.1 e h1
end Pw
namespace Far
open PySem PySem.Spec PyProof.Rows L2 Pw
open FM (Bq)
theorem ev_wellN {T : Cfg} {W : WX} {ρ : List (Option D)} {m0 : Mu} {P : D → Mu → Prop} {XP : XW} {E : XK} {ta : TA}
    (h : EA T ta W ⟨ρ, m0⟩ (fun ds μ => ∃ c : Int, ds = [.int c] ∧ ∀ a, P (.ptr a) (put μ a (.well 1073741824))) XP) : EV T (tCall (spOf T (c_Lwell T)) [] E ta) W ⟨ρ, m0⟩ P XP :=
  ev_callM0 fun σ Hb H Q S q x => h σ Hb H Q S (fun ds μ vs Hb' H' g r ⟨c, e, p⟩ => q ds μ vs Hb' H' g r ⟨mu0, sub_nil, c, e, fun a _ => by
    show P _ (mrg μ mu0 (put mu0 a (.well full)))
    rw [mrg_put]
    exact p a⟩) x
section
variable {T : Cfg} {μ : Mu} {P : D → Mu → Prop} {E : XK}
theorem ov_shEq (hT : ShOk T) {p q : Rat} (k : P (.bl (decide (p = q))) μ) : OV T (rOwnEq T.K (T.cls 0) (spOf T (pu (c_Share___eq__ T))) E) (shD p) (shD q) μ P :=
  ov_ownEq (th_sh hT q).ty (th_sh hT q).nf ⟨p, shD q, _, rfl, th_sh hT q, .inl ⟨q, rfl, ⟨_, rfl⟩, k⟩⟩
theorem ov_shNe (hT : ShOk T) {p q : Rat} (k : P (.bl (!decide (p = q))) μ) : OV T (rOwnNe T.K (T.cls 0) (spOf T (pu (c_Share___eq__ T))) E) (shD p) (shD q) μ P :=
  ov_ownNe (th_sh hT q).ty (th_sh hT q).nf ⟨p, shD q, _, rfl, th_sh hT q, .inl ⟨q, rfl, _, rfl, k⟩⟩
end
end Far
namespace Far
open PySem PySem.Spec PyProof.Rows L2 Pw
section
variable {T : Cfg} {W : WX} {ρ : List (Option D)} {m0 : Mu} {P : D → Mu → Prop} {XP : XW} {E : XK} {ta : TA}
theorem EA.imp {P P' : List D → Mu → Prop} (h : EA T ta W ⟨ρ, m0⟩ P XP) (k : ∀ ds μ, P ds μ → P' ds μ) : EA T ta W ⟨ρ, m0⟩ P' XP :=
  fun σ Hb H Q S q x => h σ Hb H Q S (fun ds μ vs Hb' H' g r p => q ds μ vs Hb' H' g r (k _ _ p)) x
theorem ev_mkS0 (hT : ShOk T) (h : EA T ta W ⟨ρ, m0⟩ (fun ds μ => ∃ i j : Int, ds = [.int i, .int j] ∧ j ≠ 0 ∧ Bt 9000 j ∧ P (shD (Rat.divInt i j)) μ) XP) : EV T (tMake (T.cls 0) (spOf T (ini 0 (c_Share___init__ T))) [] E ta) W ⟨ρ, m0⟩ P XP :=
  ev_mak0 (EA.imp h fun ds μ ⟨i, j, e, h1, h2, p⟩ => by subst e; exact i_init hT h1 h2 p)
theorem ev_mkS1 (hT : ShOk T) (h : EA T ta W ⟨ρ, m0⟩ (fun ds μ => ∃ i : Int, ds = [.int i] ∧ P (shD (i : Rat)) μ) XP) : EV T (tMake (T.cls 0) (spOf T (ini 0 (c_Share___init__ T))) [.int 1] E ta) W ⟨ρ, m0⟩ P XP :=
  ev_mak1 (EA.imp h fun ds μ ⟨i, e, p⟩ => by subst e; exact i_int hT p)
theorem ex_ii {i j : Int} {Q : Int → Int → Prop} (h : Q i j) : ∃ x y, [D.int i, D.int j] = [.int x, .int y] ∧ Q x y := ⟨_, _, rfl, h⟩
theorem ex_i {i : Int} {Q : Int → Prop} (h : Q i) : ∃ x, [D.int i] = [.int x] ∧ Q x := ⟨_, rfl, h⟩
end
end Far
namespace Pw
open PySem PySem.Spec PyProof.Rows L2
open Evl (Ex fresh_back)
abbrev CF := List D → (D → Prop) → Prop
def SpecOf (T : Cfg) (sp : SpL) (caps : List (D × V)) (cells : List (Addr × V)) (cc : Addr × Obj) (C : CF) : Prop :=
  ∀ (ds : List D) (P : D → Prop) (vs : List V) (Hb H : Hp) (Q : VK), Ex Hb H → SimMu T mu0 Hb H → RepL T Hb ds vs → (∀ z ∈ caps, Rep T Hb z.1 z.2) → Hb cc.1 = some (.frz cc.2 mkC) → (∀ p ∈ cells, Hb p.1 = none ∧ ∃ ob, H p.1 = some (.frz ob mkO)) → C ds P →
    (∀ d v Hb' H', Go T mu0 Hb H mu0 Hb' H' → Rep T Hb' d v → P d → Q v H') → sp vs H Q
structure FunC (T : Cfg) (kb : Nat) (f : Addr) (C : CF) (μ : Mu) : Prop where
  ex : ∃ (k : Nat) (o : Obj) (cells : List (Addr × V)) (cc : Addr × Obj) (sp : SpL) (caps : List (D × V)), μ f = some (.clo k f o cells cc sp caps) ∧ k ≤ kb ∧ (∀ p ∈ cells, ∃ ob, μ p.1 = some (.cel ob) ∧ CellIs ob p.2) ∧ SpecOf T sp caps cells cc C
section
variable {T : Cfg} {W : WX} {s : S} {ρ : List (Option D)} {m0 μ μ1 μ2 : Mu} {Hb H Hb' H' : Hp} {P : D → Mu → Prop} {XP : XW} {kb : Nat} {f : Addr} {C C' : CF} {ta : TA} {te : TE}
theorem SpecOf.imp {sp : SpL} {caps : List (D × V)} {cells : List (Addr × V)} {cc : Addr × Obj} (h : SpecOf T sp caps cells cc C) (k : ∀ ds P, C' ds P → C ds P) : SpecOf T sp caps cells cc C' :=
  fun ds P vs Hb H Q ex sm r hc hcc hce hC q => h ds P vs Hb H Q ex sm r hc hcc hce (k _ _ hC) q
theorem FunC.imp (F : FunC T kb f C μ) (k : ∀ ds P, C' ds P → C ds P) : FunC T kb f C' μ := by
  obtain ⟨k1, o, cells, cc, sp, caps, h1, h2, h3, h4⟩ := F.ex
  exact ⟨⟨k1, o, cells, cc, sp, caps, h1, h2, h3, h4.imp k⟩⟩
theorem FunC.sub (F : FunC T kb f C μ1) (h : Subm μ1 μ) : FunC T kb f C μ := by
  obtain ⟨k1, o, cells, cc, sp, caps, h1, h2, h3, h4⟩ := F.ex
  exact ⟨⟨k1, o, cells, cc, sp, caps, h _ _ h1, h2, fun p hp => by
    obtain ⟨ob, a, b⟩ := h3 p hp
    exact ⟨ob, h _ _ a, b⟩, h4⟩⟩
theorem FunC.at_ (F : FunC T kb f C μ) : ∃ m, μ f = some m := by
  obtain ⟨k1, o, cells, cc, sp, caps, h1, _⟩ := F.ex
  exact ⟨_, h1⟩
end
section
variable {T : Cfg} {W : WX} {s : S} {ρ : List (Option D)} {m0 μ μ1 μ2 : Mu} {Hb H Hb' H' : Hp} {XP : XW} {kb : Nat} {f : Addr} {C C' : CF} {te : TE}
end
end Pw
namespace Pw
open PySem PySem.Spec PyProof.Rows L2
section
variable {P : Program} {w : World} {K : PySem.W.Frag} {mg : Str → Option Value} {base : Heap} {x y qual : Str} {params : Arguments} {body : List Stmt} {scope : Scope} {dvs : List V} {kws : List (Str × V)} {fd : FuncData}
end
end Pw
namespace LamY
open PySem PySem.Spec PyProof.Rows L2
theorem walk {l : PySem.W.OpenLaw} {n k : Nat} {q : Program} {loose : List Str} {XP : (Str → Option Value) → Heap → Prop} {YP : World → Heap → Prop} {d : DefRec} {CX : World → CXT} {x : Str}
    (hn : l.most = some n) (hn2 : n ≤ sizeLine) (hdf : d.params.defaults = []) (hr : Room k callerA)
    (F : ∀ (w : World) (mg : Str → Option Value) (fa : Addr) (h : Heap), YP w h → (∃ loose mean mb, Top q loose mean mg mb h) → h.Ns mainGlobals mg → mg d.name = some (.ref fa) → ∃ K : PySem.W.Frag, K.In h ∧ LamX.LawAtS l w K (CX w) k n x mg fa h)
    (hCX : ∀ (w : World) (H : Hp) (s : Shared) (e : Value) (s' : Shared), CX w [] H s (fun _ _ _ => False) e s' → False) :
    PySem.W.WalkO q loose XP YP l.row.toRowW d [] (fun f vs => PySem.call f vs) := by
  refine Att.attach_callB hn hdf fun w s₀ s₁ mg mb fa o pm cd doc a vs ns G Y ho hd hcd hmg hobj hints hlen hbits hg => ?_
  obtain ⟨K, KX, fd, cs, sp, hT, nT, C, hb, hsp, hF⟩ := F w mg fa _ Y ⟨_, _, _, G.T⟩ G.T.g hmg
  exact LamX.law_callTs KX G.T.g G.T.b G.T.builtins G.T.nolimit hg hT nT C G.T.bmain hobj hints (Nat.le_trans hlen hn2) hr hF hb (fun H hH hS => hsp H a ns hlen hbits hH hS) fun H e s' => hCX w H s₁ e s'
end LamY
namespace Lz
open PySem PySem.Spec PyProof.Rows
def Zo (h : Heap) (z ti tu t : Addr) (f : Bool) : Prop := h.get? z = some { cls := .type "zip", dict := none, data := .fields #[rawInt t, .bool f, .bool false, .ref ti, .ref tu], slots := #[] }
section
variable {prog : Program} {w : World} {A : Around} {E : Value → Shared → Prop} {s : Shared}
theorem free_no {z ti tu t : Addr} {f : Bool} {ot : Obj} {Q : Bool → Shared → Prop} (hz : Zo s.heap z ti tu t f) (ht : s.heap.get? t = some ot) (hQ : ∀ h', Zo h' z ti tu t true → h'.objs.size = s.heap.objs.size → (∀ c o, c ≠ z → s.heap.get? c = some o → h'.get? c = some o) → Q false { s with heap := h' }) :
    wpAny (model prog w) A (Builtin.SmallTypes.ownedTupleIsFree (.ref z)) Q E s := by
  unfold Builtin.SmallTypes.ownedTupleIsFree
  refine wpAny_bind (wpAny_field hz rfl (x := rawInt t) rfl ?_)
  show wpAny _ _ (loadIfAlive t >>= _) Q E s
  refine wpAny_bind (PySem.W.kdx_alive ht ?_)
  show wpAny _ _ (field (.ref z) 1 >>= _) Q E s
  refine wpAny_bind (wpAny_field hz rfl (x := .bool f) rfl ?_)
  cases f with
  | true => exact wpAny_pure (hQ s.heap hz rfl fun _ _ _ e => e)
  | false =>
    show wpAny _ _ (setField (.ref z) 1 (.bool true) >>= _) Q E s
    exact wpAny_bind (wpAny_setField_rec hz (by simp) fun h1 z1 s1 => wpAny_pure (hQ h1 z1 s1.1 fun c o hc e => s1.extBut _ _ hc e))
theorem sub_st : isSubtype (.type "StopIteration") (.type "StopIteration") = pure true := by rw [isSubtype_type]; kernel_rfl
theorem next_out {z ti tu t p q l r : Addr} {f : Bool} {ot : Obj} {k : Nat} {xs ys : Array Value} {x y : Value} {Q : Option Value → Shared → Prop} (hz : Zo s.heap z ti tu t f) (ht : s.heap.get? t = some ot) (hp : IsPair s.heap ti (.ref p) (.ref q))
    (pz : p ≠ z) (qz : q ≠ z) (lz : l ≠ z) (rz : r ≠ z) (pq : p ≠ q) (lp : l ≠ p) (rp : r ≠ p) (tz : ti ≠ z)
    (i1 : s.heap.IsListIter p l k) (i2 : s.heap.IsListIter q r k) (m1 : s.heap.IsList l xs) (m2 : s.heap.IsList r ys) (ex : xs[k]? = some x) (ey : ys[k]? = some y)
    (hQ : ∀ h', Zo h' z ti tu t true → h'.IsListIter p l (k + 1) → h'.IsListIter q r (k + 1) → IsPair h' s.heap.objs.size x y → h'.objs.size = s.heap.objs.size + 1 → (∀ c o, c ≠ z → c ≠ p → c ≠ q → s.heap.get? c = some o → h'.get? c = some o) → Q (some (.ref s.heap.objs.size)) { s with heap := h' }) :
    wpAny (model prog w) A (pyNext (.ref z)) Q E s := by
  have ty : s.TypeIs (.ref z) "zip" := ⟨_, hz, rfl⟩
  unfold pyNext
  refine wpAny_bind (wpAny_attempt (wpAny_callSpecial?_slot (name := Str.ofString "__next__") ty F.slot_zip_next (wpAny_call_entry F.slot_zip_next ty F.entry_zip_next ?_ (F.args_zip_next_1 _))))
  show wpAny _ _ (field (.ref z) 2 >>= _) _ _ s
  refine wpAny_bind (wpAny_field hz rfl (x := .bool false) rfl ?_)
  show wpAny _ _ (field (.ref z) 3 >>= _) _ _ s
  refine wpAny_bind (wpAny_field hz rfl (x := .ref ti) rfl (wpAny_bind (wpAny_seqItems hp rfl ?_)))
  show wpAny _ _ (Builtin.SmallTypes.ownedTupleIsFree (.ref z) >>= _) _ _ s
  refine wpAny_bind (free_no hz ht fun h1 z1 e1 k1 => ?_)
  simp only [Bool.false_eq_true, if_false]
  refine wpAny_bind ?_
  rw [show (#[Value.ref p, Value.ref q] : Array Value) = [Value.ref p, Value.ref q].toArray from rfl, List.forIn_toArray]
  simp only [List.forIn_cons, List.forIn_nil]
  refine wpAny_bind (wpAny_bind (wpAny_holding ?_))
  show wpAny _ _ (Builtin.SmallTypes.nextOf (.ref p) >>= _) _ _ _
  refine wpAny_bind (wpAny_nextOf_list_item (i1.at fun o e => k1 _ o pz e) (m1.at fun o e => k1 _ o lz e) ex fun h2 j1 s2 => wpAny_pure ?_)
  refine wpAny_pure ?_
  refine wpAny_bind (wpAny_bind (wpAny_holding ?_))
  show wpAny _ _ (Builtin.SmallTypes.nextOf (.ref q) >>= _) _ _ _
  have k2 : ∀ c o, c ≠ z → c ≠ p → s.heap.get? c = some o → h2.get? c = some o := fun c o a b e => s2.extBut _ _ b (k1 c o a e)
  refine wpAny_bind (wpAny_nextOf_list_item (i2.at fun o e => k2 _ o qz pq.symm e) (m2.at fun o e => k2 _ o rz rp e) ey fun h3 j2 s3 => wpAny_pure ?_)
  refine wpAny_pure ?_
  refine wpAny_pure ?_
  have k3 : ∀ c o, c ≠ z → c ≠ p → c ≠ q → s.heap.get? c = some o → h3.get? c = some o := fun c o a b d e => s3.extBut _ _ d (k2 c o a b e)
  have hsz : h3.objs.size = s.heap.objs.size := by rw [s3.1, s2.1]; exact e1
  show wpAny _ _ (newTuple [x, y] >>= _) _ _ _
  refine wpAny_bind (wpAny_newTuple (wpAny_pure ⟨_, rfl, wpAny_pure ?_⟩))
  have z3 : Zo h3 z ti tu t true := s3.extBut _ _ qz.symm (s2.extBut _ _ pz.symm z1)
  show Q (some (.ref h3.objs.size)) _
  rw [hsz]
  refine hQ _ (Heap.get?_push_of_some _ z3) ((j1.extBut s3.extBut pq).at fun o e => Heap.get?_push_of_some _ e) (j2.at fun o e => Heap.get?_push_of_some _ e) ?_ ?_ fun c o a b d e => Heap.get?_push_of_some _ (k3 c o a b d e)
  · show IsPair _ s.heap.objs.size x y
    rw [← hsz]
    exact Heap.get?_push_size _ rfl
  · rw [Heap.size_push, hsz]
theorem end_out {z ti tu t p q l : Addr} {f : Bool} {ot : Obj} {k : Nat} {xs : Array Value} {Q : Option Value → Shared → Prop} (hh : A.handled = none) (hz : Zo s.heap z ti tu t f) (ht : s.heap.get? t = some ot) (hp : IsPair s.heap ti (.ref p) (.ref q))
    (pz : p ≠ z) (lz : l ≠ z) (i1 : s.heap.IsListIter p l k) (m1 : s.heap.IsList l xs) (ex : xs[k]? = none)
    (hQ : ∀ h', (∀ c o, c ≠ z → c ≠ p → s.heap.get? c = some o → h'.get? c = some o) → Q none { s with heap := h' }) : wpAny (model prog w) A (pyNext (.ref z)) Q E s := by
  have ty : s.TypeIs (.ref z) "zip" := ⟨_, hz, rfl⟩
  unfold pyNext
  refine wpAny_bind (wpAny_attempt (wpAny_callSpecial?_slot (name := Str.ofString "__next__") ty F.slot_zip_next (wpAny_call_entry F.slot_zip_next ty F.entry_zip_next ?_ (F.args_zip_next_1 _))))
  show wpAny _ _ (field (.ref z) 2 >>= _) _ _ s
  refine wpAny_bind (wpAny_field hz rfl (x := .bool false) rfl ?_)
  show wpAny _ _ (field (.ref z) 3 >>= _) _ _ s
  refine wpAny_bind (wpAny_field hz rfl (x := .ref ti) rfl (wpAny_bind (wpAny_seqItems hp rfl ?_)))
  show wpAny _ _ (Builtin.SmallTypes.ownedTupleIsFree (.ref z) >>= _) _ _ s
  refine wpAny_bind (free_no hz ht fun h1 z1 e1 k1 => ?_)
  simp only [Bool.false_eq_true, if_false]
  refine wpAny_bind ?_
  rw [show (#[Value.ref p, Value.ref q] : Array Value) = [Value.ref p, Value.ref q].toArray from rfl, List.forIn_toArray]
  simp only [List.forIn_cons, List.forIn_nil]
  refine wpAny_bind (wpAny_bind (wpAny_holding ?_))
  show wpAny _ _ (Builtin.SmallTypes.nextOf (.ref p) >>= _) _ _ _
  refine wpAny_bind (wpAny_nextOf_list_end hh (i1.at fun o e => k1 _ o pz e) (m1.at fun o e => k1 _ o lz e) ex fun h2 e s2 he => ?_)
  obtain ⟨oe, ho, hc⟩ := he
  exact wpAny_bind (wpAny_isInstance (T := "StopIteration") (b := true) ⟨oe, ho, hc⟩ sub_st (wpAny_pure (hQ h2 fun c o a b e => s2 _ _ b (k1 c o a e))))
def Zs (h : Heap) (z ti tu p q S : Addr) (k : Nat) : Prop := (k = 0 ∧ IsZip h z ti tu .none ∧ ∃ a b, IsPair h tu a b) ∨ ∃ t f ot, Zo h z ti tu t f ∧ h.get? t = some ot ∧ S < t
structure Ap (z ti tu p q l r S : Addr) : Prop where
  d : ZipApart z ti tu p q l r
  Sz : z < S
  St : tu < S
  Si : ti < S
  Sp : p < S
  Sq : q < S
  Sl : l < S
  Sr : r < S
def Pr (xs ys : Array Value) (S : Addr) (h : Heap) (as : List Addr) : Prop := as.Nodup ∧ ∀ (j : Nat) (a : Addr), as[j]? = some a → S < a ∧ ∃ x y, xs[j]? = some x ∧ ys[j]? = some y ∧ IsPair h a x y
theorem no_len : typeLookup (.type "zip") "__len__" = pure none := by rw [typeLookup_type, builtinLookup_eq_fast]; kernel_rfl
theorem no_hint : typeLookup (.type "zip") "__length_hint__" = pure none := by rw [typeLookup_type, builtinLookup_eq_fast]; kernel_rfl
end
section
variable {prog : Program} {w : World} {A : Around} {s : Shared} {R : Result → Shared → Prop} {z ti tu p q l r S : Addr} {xs ys : Array Value}
theorem loop (hh : A.handled = none) (ap : Ap z ti tu p q l r S) (hxy : xs.size ≤ ys.size) (hn : xs.size ≤ sizeLine) (res : Value) {h0 : Heap}
    (hR : ∀ h' tk acc c as, (∀ b o, b ≠ S → b ≠ z → b ≠ tu → b ≠ p → b ≠ q → h0.get? b = some o → h'.get? b = some o) → h'.get? S = some { cls := .type "list", dict := none, data := .seq acc c, slots := #[] } → as.length = xs.size → Pr xs ys S h' as → acc.toList = as.map Value.ref → R (.ok (.ret res)) { s with heap := h', toks := tk }) :
    ∀ (m k : Nat) (h : Heap) (tk c : Nat) (acc : Array Value) (as : List Addr), xs.size - k = m → k ≤ xs.size → Zs h z ti tu p q S k → IsPair h ti (.ref p) (.ref q) → h.IsListIter p l k → h.IsListIter q r k → h.IsList l xs → h.IsList r ys → (∀ b o, b ≠ S → b ≠ z → b ≠ tu → b ≠ p → b ≠ q → h0.get? b = some o → h.get? b = some o) →
      h.get? S = some { cls := .type "list", dict := none, data := .seq acc c, slots := #[] } → acc.toList = as.map Value.ref → as.length = k → Pr xs ys S h as → codeAny (model prog w) A (.builtin "list.extend.loop" ⟨[.ref S, .ref z, res], []⟩) R { s with heap := h, toks := tk } := by
  obtain ⟨D, Sz, St, Si, Sp, Sq, Sl, Sr⟩ := ap
  intro m
  induction m with
  | zero =>
    intro k h tk c acc as hm hk zs hp i1 i2 m1 m2 keep hS ha hl pr
    refine codeAny_builtin PySem.F.entry_extend_loop ?_
    rw [Around.under_plainId PySem.F.plain_extend_loop _]
    show wpAny _ A.in1 (pyNext (.ref z) >>= _) _ _ _
    have ex : xs[k]? = none := Array.getElem?_eq_none (by omega)
    have fin : ∀ h', (∀ c o, c ≠ z → c ≠ tu → c ≠ p → c ≠ q → h.get? c = some o → h'.get? c = some o) → R (.ok (.ret res)) { s with heap := h', toks := tk } := fun h' kp => by
      refine hR h' tk acc c as (fun b o b1 b2 b3 b4 b5 e => kp b o b2 b3 b4 b5 (keep b o b1 b2 b3 b4 b5 e)) (kp S _ (Nat.ne_of_gt Sz) (Nat.ne_of_gt St) (Nat.ne_of_gt Sp) (Nat.ne_of_gt Sq) hS) (by omega) ⟨pr.1, fun j a hj => ?_⟩ ha
      obtain ⟨g, x, y, e1, e2, e3⟩ := pr.2 j a hj
      exact ⟨g, x, y, e1, e2, kp a _ (Nat.ne_of_gt (Nat.lt_trans Sz g)) (Nat.ne_of_gt (Nat.lt_trans St g)) (Nat.ne_of_gt (Nat.lt_trans Sp g)) (Nat.ne_of_gt (Nat.lt_trans Sq g)) e3⟩
    rcases zs with ⟨rfl, hz, a, b, ht⟩ | ⟨t, f, ot, hz, ht, hSt⟩
    · exact wpAny_bind (wpAny_pyNext_zip_end (s := { s with heap := h, toks := tk }) (A := A.in1) hh D hz hp ht i1 i2 m1 m2 (.inl ex) fun h' kp => wpAny_pure (fin h' kp))
    · exact wpAny_bind (end_out (s := { s with heap := h, toks := tk }) (A := A.in1) hh hz ht hp D.i1z D.l1z i1 m1 ex fun h' kp => wpAny_pure (fin h' fun c o a _ b _ e => kp c o a b e))
  | succ m ih =>
    intro k h tk c acc as hm hk zs hp i1 i2 m1 m2 keep hS ha hl pr
    have hlt : k < xs.size := by omega
    have ex : xs[k]? = some xs[k] := Array.getElem?_eq_getElem hlt
    have ey : ys[k]? = some ys[k] := Array.getElem?_eq_getElem (by omega)
    have hsz : acc.size = k := by rw [← Array.length_toList, ha, List.length_map, hl]
    have SL : S < h.objs.size := Heap.lt_size hS
    refine codeAny_builtin PySem.F.entry_extend_loop ?_
    rw [Around.under_plainId PySem.F.plain_extend_loop _]
    show wpAny _ A.in1 (pyNext (.ref z) >>= _) _ _ _
    have go : ∀ h', (∃ t f ot, Zo h' z ti tu t f ∧ h'.get? t = some ot ∧ S < t) → h'.IsListIter p l (k + 1) → h'.IsListIter q r (k + 1) → IsPair h' h.objs.size xs[k] ys[k] → (∀ c o, c ≠ z → c ≠ tu → c ≠ p → c ≠ q → h.get? c = some o → h'.get? c = some o) →
        wpAny (model prog w) A.in1 (updateSeq S (·.push (Value.ref h.objs.size)) >>= fun _ => again (.builtin "list.extend.loop" ⟨[.ref S, .ref z, res], []⟩)) (fun fin s' => match fin with | .done f => R (.ok f) s' | .again c' => c'.quiet = true ∧ codeAny (model prog w) A c' R s') (fun e s' => R (.error e) s') { s with heap := h', toks := tk } := by
      intro h' zo j1 j2 hpr kp
      have S' := kp S _ (Nat.ne_of_gt Sz) (Nat.ne_of_gt St) (Nat.ne_of_gt Sp) (Nat.ne_of_gt Sq) hS
      have up : ∀ b o, b ≠ S → h'.get? b = some o → (h'.update S (Obj.mapSeq (·.push (Value.ref h.objs.size)))).get? b = some o := fun b o hb e => (Heap.get?_update_other _ _ (Ne.symm hb)).trans e
      obtain ⟨t, f, ot, g1, g2, g3⟩ := zo
      have ndn : (as ++ [h.objs.size]).Nodup := by
        rw [List.nodup_append]
        refine ⟨pr.1, by simp, fun a hma b hb e => ?_⟩
        rw [List.mem_singleton] at hb
        obtain ⟨j, hj⟩ := List.getElem?_of_mem hma
        obtain ⟨_, _, _, _, _, e3⟩ := pr.2 j a hj
        rw [e, hb] at e3
        exact Nat.lt_irrefl _ (Heap.lt_size e3)
      refine wpAny_bind (wpAny_updateSeq S' rfl (wpAny_pure ⟨plainId_quiet PySem.F.plain_extend_loop _, ih (k + 1) _ tk _ (acc.push (Value.ref h.objs.size)) (as ++ [h.objs.size]) (by omega) hlt (.inr ⟨t, f, ot, up z _ (Nat.ne_of_lt Sz) g1, up t _ (Nat.ne_of_gt g3) g2, g3⟩) (up ti _ (Nat.ne_of_lt Si) (kp ti _ D.TIz D.TITO D.TIi1 D.TIi2 hp))
        (j1.at fun o e => up p o (Nat.ne_of_lt Sp) e) (j2.at fun o e => up q o (Nat.ne_of_lt Sq) e) (m1.at fun o e => up l o (Nat.ne_of_lt Sl) (kp l o D.l1z D.l1TO D.l1i1 D.l1i2 e)) (m2.at fun o e => up r o (Nat.ne_of_lt Sr) (kp r o D.l2z D.l2TO D.l2i1 D.l2i2 e)) (fun b o b1 b2 b3 b4 b5 e => up b o b1 (kp b o b2 b3 b4 b5 (keep b o b1 b2 b3 b4 b5 e)))
        (Heap.get?_update_self _ S' rfl) (by rw [Array.toList_push, ha, List.map_append]; rfl) (by rw [List.length_append, hl]; rfl) ⟨ndn, fun j b hj => ?_⟩⟩) (by rw [hsz]; omega) (by show (acc.push (Value.ref h.objs.size)).size ≤ sizeLine + 1; rw [Array.size_push, hsz]; omega))
      rcases Nat.lt_trichotomy j as.length with g | g | g
      · rw [List.getElem?_append_left g] at hj
        obtain ⟨u, x, y, e1, e2, e3⟩ := pr.2 j b hj
        exact ⟨u, x, y, e1, e2, up b _ (Nat.ne_of_gt u) (kp b _ (Nat.ne_of_gt (Nat.lt_trans Sz u)) (Nat.ne_of_gt (Nat.lt_trans St u)) (Nat.ne_of_gt (Nat.lt_trans Sp u)) (Nat.ne_of_gt (Nat.lt_trans Sq u)) e3)⟩
      · subst g
        have hb : h.objs.size = b := by simpa using hj
        subst hb
        exact ⟨SL, _, _, by rw [hl]; exact ex, by rw [hl]; exact ey, up _ _ (Nat.ne_of_gt SL) hpr⟩
      · rw [List.getElem?_eq_none (by rw [List.length_append, List.length_singleton]; omega)] at hj
        cases hj
    rcases zs with ⟨rfl, hz, a, b, ht⟩ | ⟨t, f, ot, hz, ht, hSt⟩
    · refine wpAny_bind (wpAny_pyNext_zip_item (s := { s with heap := h, toks := tk }) (A := A.in1) D hz hp ht i1 i2 m1 m2 ex ey fun h' g1 g2 g3 g4 g5 g6 g7 => ?_)
      exact go h' ⟨_, false, _, g1, g5, SL⟩ g3 g4 g5 g7
    · refine wpAny_bind (next_out (s := { s with heap := h, toks := tk }) (A := A.in1) hz ht hp D.i1z D.i2z D.l1z D.l2z D.i12 D.l1i1 D.l2i1 D.TIz i1 i2 m1 m2 ex ey fun h' g1 g3 g4 g5 g6 g7 => ?_)
      exact go h' ⟨t, true, ot, g1, g7 t ot (Nat.ne_of_gt (Nat.lt_trans Sz hSt)) (Nat.ne_of_gt (Nat.lt_trans Sp hSt)) (Nat.ne_of_gt (Nat.lt_trans Sq hSt)) ht, hSt⟩ g3 g4 g5 fun c o a _ b d e => g7 c o a b d e
theorem extend (hh : A.handled = none) (ap : Ap z ti tu p q l r S) (hxy : xs.size ≤ ys.size) (hn : xs.size ≤ sizeLine) (res : Value) (c0 : Nat) (hz : IsZip s.heap z ti tu .none) (ht : ∃ a b, IsPair s.heap tu a b) (hp : IsPair s.heap ti (.ref p) (.ref q)) (i1 : s.heap.IsListIter p l 0) (i2 : s.heap.IsListIter q r 0) (m1 : s.heap.IsList l xs) (m2 : s.heap.IsList r ys)
    (hS : s.heap.get? S = some { cls := .type "list", data := .seq #[] c0 })
    (hR : ∀ h' tk acc c as, (∀ b o, b ≠ S → b ≠ z → b ≠ tu → b ≠ p → b ≠ q → s.heap.get? b = some o → h'.get? b = some o) → h'.get? S = some { cls := .type "list", dict := none, data := .seq acc c, slots := #[] } → as.length = xs.size → Pr xs ys S h' as → acc.toList = as.map Value.ref → R (.ok (.ret res)) { s with heap := h', toks := tk }) :
    wpAny (model prog w) A.in1 (Builtin.List.listExtendWith (.ref S) (.ref z) res) (fun fin s' => match fin with | .done f => R (.ok f) s' | .again c' => c'.quiet = true ∧ codeAny (model prog w) A c' R s') (fun e s' => R (.error e) s') s := by
  have ty : s.TypeIs (.ref z) "zip" := ⟨_, hz, rfl⟩
  have hne : S ≠ z := Nat.ne_of_gt ap.Sz
  unfold Builtin.List.listExtendWith
  refine wpAny_bind (wpAny_typeOf ty ?_)
  have g1 : Builtin.List.listSameRef (.ref S) (.ref z) = false := by simp [Builtin.List.listSameRef, hne]
  have g2 : (Value.type "zip" == Value.type "list") = false := by decide
  have g3 : (Value.type "zip" == Value.type "tuple") = false := by decide
  simp only [g1, g2, g3, Bool.or_false, Bool.false_eq_true, if_false]
  refine wpAny_bind (wpAny_pyIter_zip hz (wpAny_bind (wpAny_holding ?_)))
  unfold Builtin.List.listLengthHint
  refine wpAny_bind (wpAny_specialOf ty no_len ?_)
  show wpAny _ A.in1 (specialOf (Value.ref z) (Str.ofString "__length_hint__") >>= _) _ _ _
  refine wpAny_bind (wpAny_specialOf ty no_hint (wpAny_pure ?_))
  show wpAny _ A.in1 (rule "list.extend.makes-room" >>= fun _ => Builtin.List.listTouch (.ref S) >>= fun _ => again (.builtin "list.extend.loop" ⟨[.ref S, .ref z, res], []⟩)) _ _ _
  refine wpAny_bind (wpAny_rule (wpAny_bind ?_))
  show wpAny _ A.in1 (updateSeq S (·.push .none) >>= fun _ => updateSeq S (·.pop)) _ _ _
  refine wpAny_bind (wpAny_updateSeq hS rfl ?_)
  have S2 := Heap.get?_update_self (Obj.mapSeq (·.push Value.none)) hS rfl
  refine wpAny_updateSeq (hz := by seq_fits) S2 rfl ?_
  have S3 := Heap.get?_update_self (Obj.mapSeq (·.pop)) S2 rfl
  have up : ∀ b o, b ≠ S → s.heap.get? b = some o → ((s.heap.update S (Obj.mapSeq (·.push Value.none))).update S (Obj.mapSeq (·.pop))).get? b = some o := fun b o hb e => (Heap.get?_update_other _ _ (Ne.symm hb)).trans ((Heap.get?_update_other _ _ (Ne.symm hb)).trans e)
  obtain ⟨a, b, ht⟩ := ht
  have ap' := ap
  obtain ⟨D, Sz, St, Si, Sp, Sq, Sl, Sr⟩ := ap
  exact wpAny_pure ⟨plainId_quiet F.plain_extend_loop _, loop hh ap' hxy hn res (h0 := s.heap) hR xs.size 0 _ _ _ #[] [] (Nat.sub_zero _) (Nat.zero_le _) (.inl ⟨rfl, up z _ (Nat.ne_of_lt Sz) hz, a, b, up tu _ (Nat.ne_of_lt St) ht⟩) (up ti _ (Nat.ne_of_lt Si) hp) (i1.at fun o e => up p o (Nat.ne_of_lt Sp) e) (i2.at fun o e => up q o (Nat.ne_of_lt Sq) e) (m1.at fun o e => up l o (Nat.ne_of_lt Sl) e) (m2.at fun o e => up r o (Nat.ne_of_lt Sr) e)
    (fun b o b1 _ _ _ _ e => up b o b1 e) S3 rfl rfl ⟨List.nodup_nil, fun j a hj => by simp at hj⟩⟩
end
section
variable {prog : Program} {w : World} {A : Around} {E : Value → Shared → Prop} {s : Shared} {z ti tu p q l r : Addr} {xs ys : Array Value}
theorem call_list {Q : Value → Shared → Prop} (hh : A.handled = none) (D : ZipApart z ti tu p q l r) (hxy : xs.size ≤ ys.size) (hn : xs.size ≤ sizeLine) (hz : IsZip s.heap z ti tu .none) (ht : ∃ a b, IsPair s.heap tu a b) (hp : IsPair s.heap ti (.ref p) (.ref q)) (i1 : s.heap.IsListIter p l 0) (i2 : s.heap.IsListIter q r 0) (m1 : s.heap.IsList l xs) (m2 : s.heap.IsList r ys)
    (hQ : ∀ h' tk acc c as, (∀ b o, b ≠ z → b ≠ tu → b ≠ p → b ≠ q → s.heap.get? b = some o → h'.get? b = some o) → h'.get? s.heap.objs.size = some { cls := .type "list", dict := none, data := .seq acc c, slots := #[] } → as.length = xs.size → Pr xs ys s.heap.objs.size h' as → acc.toList = as.map Value.ref → Q (.ref s.heap.objs.size) { s with heap := h', toks := tk }) :
    wpAny (model prog w) A (call (.type "list") [.ref z]) Q E s := by
  have lt : ∀ {a o}, s.heap.get? a = some o → a < s.heap.objs.size := fun e => Heap.lt_size e
  obtain ⟨u, v, ht⟩ := ht
  have ap : Ap z ti tu p q l r s.heap.objs.size := ⟨D, lt hz, lt ht, lt hp, by obtain ⟨_, e, _⟩ := i1; exact lt e, by obtain ⟨_, e, _⟩ := i2; exact lt e, by obtain ⟨_, e, _⟩ := m1; exact lt e, by obtain ⟨_, e, _⟩ := m2; exact lt e⟩
  refine callType_codes (Q₁ := fun obj s1 => obj = .ref s.heap.objs.size ∧ s1 = { s with heap := s.heap.push { cls := .type "list", data := .seq #[] } }) F.called_list (F.typeCall_list_1 _) F.entry_list_init (code_list_new _ ⟨rfl, rfl⟩) fun obj s1 h1 => ?_
  obtain ⟨rfl, rfl⟩ := h1
  have hS : (s.heap.push { cls := .type "list", data := .seq #[] }).get? s.heap.objs.size = some { cls := .type "list", data := .seq #[] } := Heap.get?_push_size _ rfl
  have up : ∀ b o, s.heap.get? b = some o → (s.heap.push { cls := .type "list", data := .seq #[] }).get? b = some o := fun b o e => Heap.get?_push_of_some _ e
  refine ⟨⟨_, hS, rfl⟩, F.args_list_init_2 _ _, ?_⟩
  show wpAny _ A.in1.in1 (do let old ← Builtin.List.listItems (.ref s.heap.objs.size); Builtin.List.listUpdate (.ref s.heap.objs.size) (fun _ => #[]); letGo old.toList.reverse; Builtin.List.listExtendWith (.ref s.heap.objs.size) (.ref z) .none) _ _ _
  refine wpAny_bind ?_
  unfold Builtin.List.listItems
  refine wpAny_bind (wpAny_seqItems hS rfl (wpAny_pure ?_))
  show wpAny _ A.in1.in1 (updateSeq s.heap.objs.size (fun _ => #[]) >>= fun _ => letGo (#[] : Array Value).toList.reverse >>= fun _ => Builtin.List.listExtendWith (.ref s.heap.objs.size) (.ref z) .none) _ _ _
  refine wpAny_bind (wpAny_updateSeq hS rfl ?_)
  have S2 := Heap.get?_update_self (Obj.mapSeq (fun _ => (#[] : Array Value))) hS rfl
  have up2 : ∀ b o, b ≠ s.heap.objs.size → s.heap.get? b = some o → ((s.heap.push { cls := .type "list", data := .seq #[] }).update s.heap.objs.size (Obj.mapSeq (fun _ => (#[] : Array Value)))).get? b = some o := fun b o hb e => (Heap.get?_update_other _ _ (Ne.symm hb)).trans (up b o e)
  refine wpAny_bind (wpAny_letGo ?_)
  have ap' := ap
  obtain ⟨_, Sz, St, Si, Sp, Sq, Sl, Sr⟩ := ap
  refine extend (A := A.in1) hh ap' hxy hn .none _ (up2 z _ (Nat.ne_of_lt Sz) hz) ⟨u, v, up2 tu _ (Nat.ne_of_lt St) ht⟩ (up2 ti _ (Nat.ne_of_lt Si) hp) (i1.at fun o e => up2 p o (Nat.ne_of_lt Sp) e) (i2.at fun o e => up2 q o (Nat.ne_of_lt Sq) e) (m1.at fun o e => up2 l o (Nat.ne_of_lt Sl) e) (m2.at fun o e => up2 r o (Nat.ne_of_lt Sr) e) S2 fun h' tk acc c as k g hl pr ha => ?_
  exact ⟨rfl, hQ h' tk acc c as (fun b o b2 b3 b4 b5 e => k b o (Nat.ne_of_lt (lt e)) b2 b3 b4 b5 (up2 b o (Nat.ne_of_lt (lt e)) e)) g hl pr ha⟩
end
end Lz
namespace Pw
open PySem PySem.Spec PyProof.Rows L2
section
variable {T : Cfg} {W : WX} {ρ : List (Option D)} {m0 m' : Mu} {XP : XW} {K : Out → Prop} {ta tb te te' : TE} {P : D → Mu → Prop} {u : TS}
abbrev InvI (ρ : Nat → List (Option D)) (J : Nat → Mu → Prop) : Nat → S → Prop := fun n s => leR (ρ n) s.r ∧ J n s.m
theorem sv_forNI {i : Nat} (h : EV T te W ⟨ρ, m0⟩ (fun d μ => ∃ ds ρ' J, Seqd d ds ∧ leR (ρ' 0) ρ ∧ J 0 μ ∧ (∀ n e μ', ds[n]? = some e → J n μ' → SV T u W ⟨(ρ' n).set i (some e), μ'⟩ (forK (InvI ρ' J) n K)) ∧ ∀ s', leR (ρ' ds.length) s'.r → J ds.length s'.m → K (.nx s')) (xk ⟨ρ, m0⟩ K)) : SV T (tFor (iList T.K te) (gName i) u) W ⟨ρ, m0⟩ K :=
  sv_for (is := [i]) (iv_list (h.imp fun d μ ⟨ds, ρ', J, hs, hr, j0, turn, done⟩ => ⟨ds, hs, InvI ρ' J, ⟨hr, j0⟩, fun n s' hn hi => gv_name (sv_wk (hi.1.set i _) sub_refl (turn n _ s'.m (nth_get hn) hi.2)), fun s' hi => done s' hi.1 hi.2⟩))
theorem sv_forRg {i : Nat} {ta : TA} (h : EA T ta W ⟨ρ, m0⟩ (fun ds μ => ∃ (n : Int) (ρ' : Nat → List (Option D)) (J : Nat → Mu → Prop), ds = [.int n] ∧ n ≤ 1000000 ∧ -1000000 ≤ n ∧ leR (ρ' 0) ρ ∧ J 0 μ ∧ (∀ (k : Nat) μ', k < n.toNat → J k μ' → SV T u W ⟨(ρ' k).set i (some (.int k)), μ'⟩ (forK (InvI ρ' J) k K)) ∧ ∀ s', leR (ρ' n.toNat) s'.r → J n.toNat s'.m → K (.nx s')) (xk ⟨ρ, m0⟩ K)) : SV T (tFor (iRng1 ta) (gName i) u) W ⟨ρ, m0⟩ K :=
  sv_for (is := [i]) (iv_rng1 (fun σ Hb H Q S q x => h σ Hb H Q S (fun ds μ vs Hb' H' g r ⟨n, ρ', J, e, h1, h2, hr, j0, turn, done⟩ => q ds μ vs Hb' H' g r ⟨n, e, h1, h2, InvI ρ' J, ⟨hr, j0⟩, fun k s' hk hi => by
    have e0 : (0 : Int) + (k : Nat) = (k : Int) := by omega
    show GV T (gName i) [i] (.int (0 + (k : Nat))) s' _
    rw [e0]
    exact gv_name (sv_wk (hi.1.set i _) sub_refl (turn k s'.m hk hi.2)), fun s' hi => done s' hi.1 hi.2⟩) x))
theorem ev_lcW {wi : TI} {i : Nat} (h : IV T wi W ⟨ρ, m0⟩ (fun n f μ => n ≤ 100000 ∧ ∃ (J : Nat → Mu → Prop) (R : Nat → D → Prop), J 0 μ ∧ (∀ k μ', k < n → J k μ' → EV T te' (fun _ _ _ _ => False) ⟨(wipeD ρ [i]).set i (some (f k)), μ'⟩ (fun x μ2 => R k x ∧ J (k + 1) μ2) (fun _ _ => False)) ∧ ∀ acc μ', acc.length = n → (∀ k x, acc[k]? = some x → R k x) → J n μ' → P (.lst acc) μ') XP) : EV T (tLc wi (gName i) tYes te' [i]) W ⟨ρ, m0⟩ P XP :=
  ev_lc (is := [i]) (fun _ h => h) (fun σ Hb H Q S q x => h σ Hb H Q S (fun It n f μ Hb' H' g ok ⟨hn, J, R, j0, turn, done⟩ => q It n f μ Hb' H' g ok ⟨hn, fun k acc μ' => J k μ' ∧ acc.length = k ∧ ∀ l y, acc[l]? = some y → R l y, ⟨j0, rfl, fun l y e => by simp at e⟩, fun k acc μ' hk _ ⟨jk, hl, hr⟩ => by
    refine gv_name (tv_yes ⟨fun _ => ?_, fun e => (nomatch e)⟩)
    refine (turn k μ' hk jk).imp fun y μ2 ⟨r1, j1⟩ => ⟨j1, by simp [hl], fun l z e => ?_⟩
    by_cases hlk : l < k
    · rw [List.getElem?_append_left (by omega)] at e
      exact hr l z e
    · rw [List.getElem?_append_right (by omega)] at e
      have : l = k := by
        rcases Nat.lt_or_ge (l - acc.length) 1 with w | w
        · omega
        · rw [List.getElem?_eq_none (by simpa using w)] at e; cases e
      subst this
      rw [hl, Nat.sub_self] at e
      cases e
      exact r1, fun acc μ' ⟨jn, hl, hr⟩ => done acc μ' hl hr jn⟩) x)
theorem ev_lcF2 {i j : Nat} (h : EV T te W ⟨ρ, m0⟩ (fun d μ => ∃ (ds : List D) (f : D → D), Seqd d ds ∧ ds.length ≤ 100000 ∧ (∀ e ∈ ds, ∃ x y, e = .tup [x, y] ∧ EV T te' (fun _ _ _ _ => False) ⟨((wipeD ρ [i, j]).set i (some x)).set j (some y), μ⟩ (fun x μ' => x = f e ∧ μ' = μ) (fun _ _ => False)) ∧ P (.lst (ds.map f)) μ) XP) : EV T (tLc (iList T.K te) (gTup T.K 2 (gCons (gName i) (gCons (gName j) gNil))) tYes te' [i, j]) W ⟨ρ, m0⟩ P XP :=
  ev_lc (is := [i] ++ ([j] ++ [])) (fun _ h => h) (iv_list (h.imp fun d μ ⟨ds, f, hs, hl, turn, done⟩ => ⟨ds, hs, hl, fun n acc μ' => μ' = μ ∧ acc = (ds.take n).map f, ⟨rfl, by simp⟩, fun n acc μ' hn _ ⟨e1, e2⟩ => by
    subst e1 e2
    have hm : nth ds n ∈ ds := List.mem_of_getElem? (nth_get hn)
    obtain ⟨x, y, e, k⟩ := turn _ hm
    rw [e]
    refine gv_tup rfl (gvs_cons (gv_name (gvs_cons (gv_name (gvs_nil (tv_yes ⟨fun _ => ?_, fun e => (nomatch e)⟩))))))
    refine k.imp fun x μ2 ⟨e1, e2⟩ => ⟨e2, ?_⟩
    rw [e1, List.take_succ, nth_get hn]
    simp, fun acc μ' ⟨e1, e2⟩ => by
    subst e1 e2
    rw [List.take_length]
    exact done⟩))
end
end Pw
namespace Pw
open PySem PySem.Spec PyProof.Rows L2
open Evl (ex_l ex_t)
section
variable {T : Cfg} {W : WX} {ρ : List (Option D)} {m0 : Mu} {XP : XW} {K : Out → Prop} {ta tb te te' : TE} {P : D → Mu → Prop} {u : TS} {μ : Mu}
theorem sv_frz {i : Nat} {a : Addr} {ds : List D} (h : ρ[i]? = some (some (.ptr a))) (hm : m0 a = some (.lst ds)) (k : SV T u W ⟨ρ.set i (some (.lst ds)), del m0 a⟩ K) : SV T u W ⟨ρ, m0⟩ K := fun σ Hb H Dn S c => by
  obtain ⟨v, e, r⟩ := S.vars i _ h
  cases r
  obtain ⟨n, o, ho, r⟩ := S.mu a _ hm
  cases o with
  | lst xs =>
    have g := Go.freeze S.sub S.mu hm ho
    have S1 := S.go g
    refine k σ (upd Hb a (.lst xs)) H Dn ⟨by simpa using S1.len, fun j d ej => ?_, S1.sub, S1.mu⟩ (c.go g)
    by_cases hij : i = j
    · subst hij
      have hl : i < ρ.length := by
        rcases Nat.lt_or_ge i ρ.length with w | w
        · exact w
        · rw [List.getElem?_eq_none w] at h; cases h
      have ej : (ρ.set i (some (.lst ds)))[i]? = some (some d) := ej
      rw [List.getElem?_set_self hl] at ej
      cases ej
      exact ⟨_, e, .lst upd_same r.1 (RepL.mono g.ex r).2⟩
    · have ej : (ρ.set i (some (.lst ds)))[j]? = some (some d) := ej
      rw [List.getElem?_set_ne hij] at ej
      exact S1.vars j d ej
  | _ => exact r.elim
theorem rep_rep {Hb : Hp} {ds : List D} {xs : List V} (r : RepL T Hb ds xs) : ∀ k : Nat, RepL T Hb (List.replicate k ds).flatten (List.replicate k xs).flatten
  | 0 => .nil
  | k + 1 => by
    rw [List.replicate_succ, List.replicate_succ, List.flatten_cons, List.flatten_cons]
    exact r.app (rep_rep r k)
theorem gv_lst {n : Nat} {gs : TGs} {is : List Nat} {d : D} {ds : List D} {s : S} {K : S → Prop} (hd : Seqd d ds) (hn : ds.length = n) (h : GVs T gs is ds s K) : GV T (gLst T.K n gs) is d s K := fun x σ Hb H Kt S r q => by
  obtain ⟨a, xs, rfl, hx, r⟩ := hd.inv r
  exact ⟨a, xs, rfl, ex_l S.sub hx, by rw [← r.1]; exact hn, h xs σ Hb H Kt S r q⟩
end
end Pw
namespace Pw
open PySem PySem.Spec PyProof.Rows L2
open Evl (ex_l ex_t)
section
variable {X : Cx} {CX : CXT} {k : Nat} {f C : Addr} {fd : FuncData} {ps : List Str} {sp : Sp} {dvs : List V} {ds : List Value} {E : L2.St → XK} {x : Str} {p pos : Pos} {e : Expr} {es : List Expr} {t : TA}
end
section
variable {T : Cfg} {W : WX} {ρ : List (Option D)} {m0 : Mu} {XP : XW} {K : Out → Prop} {ta : TA} {te te' : TE} {P : D → Mu → Prop} {u : TS} {μ : Mu}
def unK (i : Nat) (K : Out → Prop) : Out → Prop
  | .nx s => K (.nx ⟨s.r.set i none, s.m⟩)
  | .bk s => K (.bk ⟨s.r.set i none, s.m⟩)
  | .ct s => K (.ct ⟨s.r.set i none, s.m⟩)
  | .rt d m => K (.rt d m)
  | .xr _ _ => False
def tryK (T : Cfg) (c : Value) (i : Nat) (ts : Addr → Value → Option Addr → TS) (K : Out → Prop) : Out → Prop
  | .xr x s' => PySem.W.exmOne T.K x.cls c = some true ∧ ∀ a d, (x.val = none → d = none) → SV T (ts a x.cls d) (fun _ _ _ _ => False) ⟨s'.r.set i (some (.ptr a)), s'.m⟩ (unK i K)
  | o => K o
theorem tryK_nx {c : Value} {i : Nat} {ts : Addr → Value → Option Addr → TS} {s' : S} (h : K (.nx s')) : tryK T c i ts K (.nx s') := h
theorem tryK_rt {c : Value} {i : Nat} {ts : Addr → Value → Option Addr → TS} {d : D} {m : Mu} (h : K (.rt d m)) : tryK T c i ts K (.rt d m) := h
theorem unK_rt {i : Nat} {d : D} {m : Mu} (h : K (.rt d m)) : unK i K (.rt d m) := h
theorem unK_nx {i : Nat} {s' : S} (h : K (.nx ⟨s'.r.set i none, s'.m⟩)) : unK i K (.nx s') := h
end
end Pw
namespace Pw
open PySem PySem.Spec PyProof.Rows L2
open Evl (ex_l ex_t)
section
variable {T : Cfg} {W : WX} {ρ : List (Option D)} {m0 : Mu} {XP : XW} {K : Out → Prop} {ta tb tc te te' : TE} {P : D → Mu → Prop} {u : TS} {μ : Mu}
theorem ev_chain {r r' : R2} (h : EV T ta W ⟨ρ, m0⟩ (fun d μ1 => EV T tb W ⟨ρ, μ1⟩ (fun e μ2 => OV T r d e μ2 (fun z μ3 => ∃ k, z = .bl k ∧ (k = true → EV T tc W ⟨ρ, μ3⟩ (fun f μ4 => OV T r' e f μ4 P) XP) ∧ (k = false → P (.bl false) μ3))) XP) XP) : EV T (tChain r r' ta tb tc) W ⟨ρ, m0⟩ P XP := fun σ Hb H Q S q x =>
  h σ Hb H _ S (fun d μ1 v Hb1 H1 g1 r1 p1 => p1 σ Hb1 H1 _ (S.go g1) (fun e μ2 w Hb2 H2 g2 r2 p2 =>
    p2 v w Hb2 H2 _ g2.sub g2.mu (r1.mono g2.ex) r2 fun z μ3 z' Hb3 H3 g3 r3 p3 => by
      obtain ⟨k, rfl, pt, pf⟩ := p3
      cases r3
      refine ⟨k, rfl, ?_⟩
      have g13 := (g1.trans g2).trans g3
      cases k with
      | false => exact q _ _ _ _ _ g13 (.bl false) (pf rfl)
      | true =>
        refine pt rfl σ Hb3 H3 _ (S.go g13) (fun f μ4 w4 Hb4 H4 g4 r4 p4 => ?_) (fun y μ' cls dd Hb' H' g r p => x y μ' cls dd Hb' H' (g13.trans g) r p)
        exact p4 w w4 Hb4 H4 Q g4.sub g4.mu ((r2.mono g3.ex).mono g4.ex) r4 fun z5 μ5 u5 Hb5 H5 g5 r5 p5 => q z5 μ5 u5 Hb5 H5 ((g13.trans g4).trans g5) r5 p5)
    (fun y μ' cls dd Hb' H' g r p => x y μ' cls dd Hb' H' (g1.trans g) r p)) x
end
end Pw
namespace Pw
open PySem PySem.Spec PyProof.Rows L2
open Evl (ex_l ex_t)
section
variable {T : Cfg} {W : WX} {ρ : List (Option D)} {m0 : Mu} {XP : XW} {K : Out → Prop} {ta tb tc te te' : TE} {P : D → Mu → Prop} {u : TS} {μ : Mu}
end
end Pw
namespace Pw
open PySem PySem.Spec PyProof.Rows L2
section
variable {T : Cfg} {P : D → Mu → Prop} {μ : Mu}
end
abbrev AlG : Type := AlF × List (Option (List (Option (Str × Int))))
abbrev Dics := List (Str × List Str)
def obsG (fa : List He.Fa) (fn : List He.DefD) (exs : List (PySem.W.Frag → Bool)) (ds : Dics) (K : PySem.W.Frag) : AlG := (obsF fa fn exs K, ds.map fun q => He.dicW K (He.ga K q.1))
def valG (fn : List He.DefD) (ds : Dics) (w : World) : AlG := (valF fn, ds.map fun q => some (He.keysIn w.params q.2))
def SaysG (fa : List He.Fa) (fn : List He.DefD) (exs : List (PySem.W.Frag → Bool)) (ds : Dics) (w : World) (K : PySem.W.Frag) : Prop := obsG fa fn exs ds K = valG fn ds w
section
variable {fa : List He.Fa} {fn : List He.DefD} {exs : List (PySem.W.Frag → Bool)} {ds : Dics} {w : World} {K : PySem.W.Frag}
theorem SaysG.f (c : SaysG fa fn exs ds w K) : SaysF fa fn exs K := congrArg (fun z : AlG => z.1) c
theorem SaysG.fact (c : SaysG fa fn exs ds w K) (i : Nat) {f : He.Fa} (h : fa[i]? = some f) : f.ok K = true := c.f.fact i h
theorem SaysG.def_ (c : SaysG fa fn exs ds w K) (i : Nat) {d : He.DefD} (h : fn[i]? = some d) : ∃ fd, FunD K d.name d.qual d.params d.body d.scope (d.dvs K) (d.kws K) (He.fAd K d.at_) fd := c.f.def_ i h
theorem SaysG.ex_ (c : SaysG fa fn exs ds w K) (i : Nat) {e : PySem.W.Frag → Bool} (h : exs[i]? = some e) : e K = true := c.f.ex_ i h
theorem SaysG.dic (c : SaysG fa fn exs ds w K) (i : Nat) {q : Str × List Str} (h : ds[i]? = some q) : ∃ es n, KDict K w (He.ga K q.1) es n := by
  have c2 : (ds.map fun q => He.dicW K (He.ga K q.1)) = ds.map fun q => some (He.keysIn w.params q.2) := congrArg (fun z : AlG => z.2) c
  have e := congrArg (fun l => l[i]?) c2
  simp only [List.getElem?_map, h, Option.map_some] at e
  exact He.dicW_ok (Option.some.inj e)
end
end Pw
namespace Pw
open PySem PySem.Spec PyProof.Rows L2
open Evl (Ex ex_l ex_t fresh_back)
section
variable {T : Cfg} {W : WX} {s : S} {ρ : List (Option D)} {m0 : Mu} {K : Out → Prop} {ta tb te te' : TE} {m m1 : Mu} {Hb H Hb1 H1 : Hp} {Dn : Ends} {XP : XW} {P : D → Mu → Prop} {μ : Mu} {u : TS}
theorem ev_lcM {wi : TI} {g : TG} {is vs : List Nat} {tt : TT} {P : D → Mu → Prop} {XP : XW} (hv : ∀ i ∈ is, i ∈ vs)
    (h : IV T wi W ⟨ρ, m0⟩ (fun n f μ => n ≤ 100000 ∧ ∃ I : Nat → List D → Mu → Prop, I 0 [] μ ∧ (∀ i acc μ', i < n → acc.length ≤ i → I i acc μ' → GV T g is (f i) ⟨wipeD ρ vs, μ'⟩ (fun s'' => TV T tt (fun _ _ _ _ => False) s'' (fun b μ1 =>
      (b = true → EV T te (fun _ _ _ _ => False) ⟨s''.r, μ1⟩ (fun e μ2 => I (i + 1) (acc ++ [e]) μ2) (fun _ _ => False)) ∧ (b = false → I (i + 1) acc μ1)) (fun _ _ => False))) ∧ ∀ acc μ' p, I n acc μ' → acc.length ≤ n → μ' p = none → P (.ptr p) (put μ' p (.lst acc))) XP) :
    EV T (tLc wi g tt te vs) W ⟨ρ, m0⟩ P XP := fun σ Hb H Q S q x => by
  refine h σ Hb H _ S (fun J n f μ Hb1 H1 g1 ok p => ?_) x
  obtain ⟨hn, I, i0, turn, done⟩ := p
  have S1 := S.go g1
  intro Dl hD
  have hDb : Hb1 Dl = none := fresh_back S1.sub hD
  have hDm : μ Dl = none := by
    cases e : μ Dl with
    | none => rfl
    | some m =>
      obtain ⟨_, o, ho, _⟩ := g1.mu Dl m e
      rw [hD] at ho; cases ho
  -- the new list is one's own at Dl
  have gD : Go T μ Hb1 H1 (put μ Dl (.lst [])) Hb1 (upd H1 Dl (.lst [])) := Go.own g1.sub g1.mu hD RepL.nil
  refine ⟨fun i m H' => m = n - i ∧ i ≤ n ∧ ∃ acc μ' Hb', acc.length ≤ i ∧ μ' Dl = none ∧ Go T μ Hb1 H1 (put μ' Dl (.lst acc)) Hb' H' ∧ I i acc μ', ⟨n, by simp, Nat.zero_le _, [], μ, Hb1, Nat.le_refl _, hDm, gD, i0⟩, ?_⟩
  rintro i m H' ⟨rfl, hi, acc, μ', Hb', hl, hm', g', i'⟩
  have S' : Sim T ⟨ρ, put μ' Dl (.lst acc)⟩ σ Hb' H' := S1.go g'
  obtain ⟨go, stop, yld⟩ := ok Hb' H' g'.ex g'.sub
  by_cases hlt : i < n
  · refine .inr ⟨go i hlt, fun H2 => ∃ acc2 μ2 Hb2, acc2.length ≤ i + 1 ∧ μ2 Dl = none ∧ Go T μ Hb1 H1 (put μ2 Dl (.lst acc2)) Hb2 H2 ∧ I (i + 1) acc2 μ2, ?_, ?_⟩
    · rintro H2 ⟨acc2, μ2, Hb2, hl2, hm2, g2, i2⟩
      exact ⟨n - (i + 1), by omega, rfl, hlt, acc2, μ2, Hb2, hl2, hm2, g2, i2⟩
    · intro y H2 hy
      obtain ⟨Hb2, g2, r2⟩ := yld i y H2 hlt hy _ g'.mu
      have g02 := g'.trans g2
      -- the list set aside: the store without it
      have aside : ∀ {μa : Mu} {Hba Ha : Hp} {ac : List D}, μa Dl = none → SimMu T (put μa Dl (.lst ac)) Hba Ha → SimMu T μa Hba Ha := fun {μa Hba Ha ac} hn hs => hs.as fun a m ha => by
        refine hs a m ?_
        rw [put_ne (fun e => by rw [e, hn] at ha; cases ha)]
        exact ha
      have back : ∀ {μa μb : Mu} {Hba Ha Hbb Hc : Hp} {ac : List D}, μa Dl = none → SimMu T (put μa Dl (.lst ac)) Hba Ha → Go T μa Hba Ha μb Hbb Hc → μb Dl = none ∧ Go T (put μa Dl (.lst ac)) Hba Ha (put μb Dl (.lst ac)) Hbb Hc := fun {μa μb Hba Ha Hbb Hc ac} hn hs gg => by
        obtain ⟨hbn, o, ho, ro⟩ := hs Dl _ put_same
        obtain ⟨ho', hbn'⟩ := gg.keepN ho hbn hn ro
        have mb : μb Dl = none := by
          cases e : μb Dl with
          | none => rfl
          | some m =>
            rcases gg.new Dl m e with z | z
            · exact absurd hn z
            · rw [ho] at z; cases z
        refine ⟨mb, gg.ex, fun a u h1 h2 h3 h4 => ?_, fun a m h1 => ?_, gg.alive, gg.sub, gg.mu.as fun a m h1 => ?_⟩
        · have ne : a ≠ Dl := fun e => by rw [e, put_same] at h3; cases h3
          rw [put_ne ne] at h3
          exact gg.keep a u h1 h2 h3 h4
        · by_cases e : a = Dl
          · subst e; exact .inl (by rw [put_same]; simp)
          · rw [put_ne e] at h1 ⊢; exact gg.new a m h1
        · by_cases e : a = Dl
          · subst e
            rw [put_same] at h1
            cases h1
            exact ⟨hbn', o, ho', ro.mono gg.ex⟩
          · rw [put_ne e] at h1; exact gg.mu a m h1
      have Sw0 : Sim T ⟨ρ, put μ' Dl (.lst acc)⟩ σ Hb2 H2 := S'.go g2
      have Sw : Sim T ⟨ρ, μ'⟩ σ Hb2 H2 := ⟨Sw0.len, Sw0.vars, Sw0.sub, aside hm' Sw0.mu⟩
      have Sww : Sim T ⟨wipeD ρ vs, μ'⟩ (L2.wipe σ vs) Hb2 H2 := Sw.wipe vs
      refine turn i acc μ' hlt hl i' y (L2.wipe σ vs) Hb2 H2 _ Sww r2 fun s3 σ3 em S3 wq k => ?_
      have em : s3.m = μ' := em
      refine ⟨?_, ?_⟩
      · have e1 := wq vs hv
        have idem : ∀ (us : List Nat), (∀ u ∈ us, u ∈ vs) → L2.wipe (L2.wipe σ vs) us = L2.wipe σ vs := by
          intro us
          induction us with
          | nil => intro _; rfl
          | cons u us ih =>
            intro hu
            show (L2.wipe (L2.wipe σ vs) us).set u none = L2.wipe σ vs
            rw [ih fun z hz => hu z (List.mem_cons_of_mem _ hz)]
            have : ∀ (ws : List Nat) (u : Nat), u ∈ ws → (L2.wipe σ ws).set u none = L2.wipe σ ws := by
              intro ws
              induction ws with
              | nil => intro u hu; cases hu
              | cons w ws ih2 =>
                intro u hu
                show ((L2.wipe σ ws).set w none).set u none = (L2.wipe σ ws).set w none
                by_cases e : u = w
                · subst e; rw [List.set_set]
                · have hu2 : u ∈ ws := by
                    rcases List.mem_cons.mp hu with z | z
                    · exact absurd z e
                    · exact z
                  rw [List.set_comm _ _ (fun z => e z.symm), ih2 u hu2]
            exact this vs u (hu u (by simp))
        rw [e1]
        exact idem vs fun _ z => z
      · refine k σ3 Hb2 H2 _ S3 (fun b μ3 Hb3 H3 g3 kk => ?_) (fun _ _ _ _ _ _ _ _ z => z.elim)
        rw [em] at g3
        obtain ⟨hm3, g3'⟩ := back hm' Sw0.mu g3
        have S3' : Sim T ⟨s3.r, μ3⟩ σ3 Hb3 H3 := S3.go (by rw [em]; exact g3)
        cases b with
        | false =>
          show ∃ acc2 μ2 Hb2, _
          exact ⟨acc, μ3, Hb3, by omega, hm3, g02.trans g3', kk.2 rfl⟩
        | true =>
          show te σ3 H3 _
          refine kk.1 rfl σ3 Hb3 H3 _ S3' (fun e μ4 w Hb4 H4 g4 r4 i4 => ?_) (fun _ _ _ _ _ _ _ _ z => z.elim)
          obtain ⟨hm4, g4'⟩ := back hm3 g3'.mu g4
          obtain ⟨_, o, ho, ro⟩ := g4'.mu Dl _ put_same
          cases o with
          | lst xs =>
            have ro : RepL T Hb4 acc xs := ro
            have g5 := Go.chg g4'.sub g4'.mu (p := Dl) (o := .lst (xs ++ [w])) (z := .lst (acc ++ [e])) put_same (ro.app (.cons r4 .nil))
            rw [put_put] at g5
            exact ⟨xs, ho, Evl.sz_lt (by rw [← ro.1]; omega), acc ++ [e], μ4, Hb4, by simp; omega, hm4, ((g02.trans g3').trans g4').trans g5, i4⟩
          | _ => exact ro.elim
  · have e : i = n := by omega
    subst e
    exact .inl ⟨stop i (Nat.le_refl _), q _ _ _ _ _ (g1.trans g') (.ptr Dl) (done acc μ' Dl i' hl hm')⟩
theorem mu_fresh {p : Addr} (sm : SimMu T μ Hb H) (hp : H p = none) : μ p = none := by
  cases e : μ p with
  | none => rfl
  | some m =>
    obtain ⟨_, o, ho, _⟩ := sm p m e
    rw [hp] at ho; cases ho
theorem ov_repM {ds : List D} {k : Nat} (h1 : k ≤ 100000) (hl : ds.length * k ≤ 100000) (p : ∀ a, μ a = none → P (.ptr a) (put μ a (.lst (List.replicate k ds).flatten))) : OV T rRep (.lst ds) (.int (k : Int)) μ P := fun x y Hb H Q ex sm rx ry q => by
  obtain ⟨b, xs, rfl, hx, r⟩ := rx.lst_inv
  cases ry
  refine ⟨b, (k : Int), xs, rfl, rfl, ex _ _ hx, by omega, ?_, by rw [← r.1]; exact Evl.sz_of (by simpa using hl), fun p' hp => ?_⟩
  · have : (2 : Int) ^ 63 = 9223372036854775808 := by decide
    rw [this]; omega
  · have g := Go.own ex sm (o := .lst (List.replicate (k : Int).toNat xs).flatten) (z := .lst (List.replicate k ds).flatten) hp (rep_rep r k)
    exact q _ _ _ _ _ g (.ptr p') (p p' (mu_fresh sm hp))
theorem ov_repM1 {d : D} {k : Nat} (h1 : k ≤ 100000) (p : ∀ a, μ a = none → P (.ptr a) (put μ a (.lst (List.replicate k d)))) : OV T rRep (.lst [d]) (.int (k : Int)) μ P :=
  ov_repM h1 (by simpa using h1) fun a ha => by
    have e : (List.replicate k [d]).flatten = List.replicate k d := by
      clear h1 p
      induction k with
      | zero => rfl
      | succ k ih => rw [List.replicate_succ, List.flatten_cons, ih]; rfl
    rw [e]
    exact p a ha
theorem cv_lstC {d : D} {ds : List D} (hd : Seqd d ds ∨ d = .tup ds) (p : ∀ a, μ a = none → P (.ptr a) (put μ a (.lst ds))) : CV T (rListOf T.K) [d] μ P := fun xs Hb H Q ex sm r q => by
  obtain ⟨v, rfl, r1⟩ := one_inv r
  have : ∃ a ys, v = .ref a ∧ (SqL T.K H a ys ∨ SqT T.K H a ys) ∧ RepL T Hb ds ys := by
    rcases hd with hd | rfl
    · obtain ⟨a, ys, rfl, hx, r2⟩ := hd.inv r1
      exact ⟨a, ys, rfl, .inl (ex_l ex hx), r2⟩
    · obtain ⟨a, ys, rfl, hx, r2⟩ := r1.tup_inv
      exact ⟨a, ys, rfl, .inr (ex_t ex hx), r2⟩
  obtain ⟨a, ys, rfl, hx, r2⟩ := this
  refine ⟨a, ys, rfl, hx, fun l hl => ?_⟩
  have g := Go.own ex sm (o := .lst ys) (z := .lst ds) hl r2
  exact q _ _ _ _ _ g (.ptr l) (p l (mu_fresh sm hl))
theorem cv_sumM {a : Addr} {ns : List Int} (hm : μ a = some (.lst (ns.map D.int))) (p : P (.int ns.sum) μ) : CV T (rSum T.K) [.ptr a] μ P := fun xs Hb H Q ex sm r q => by
  obtain ⟨v, rfl, r1⟩ := one_inv r
  cases r1
  obtain ⟨n, o, ho, r⟩ := sm a _ hm
  cases o with
  | lst xs =>
    obtain rfl := RepL.ints (T := T) (H := Hb) r
    exact ⟨a, ns, rfl, Evl.sq_of ho, q _ _ _ _ _ (.refl ex sm) (.int _) p⟩
  | _ => exact r.elim
theorem ix_nat {n : Nat} {k : Nat} (h : k < n) : seqIndex? (k : Int) n = some k := by
  unfold seqIndex?
  first
    | (rw [if_neg (by omega), if_pos (by omega)]; rfl)
    | (simp; omega)
theorem ev_popAt (h : EV T ta W ⟨ρ, m0⟩ (fun d μ1 => ∃ a ds0, d = .ptr a ∧ μ1 a = some (.lst ds0) ∧ EV T te W ⟨ρ, μ1⟩ (fun e μ2 => ∃ (k : Nat) (ds : List D) (z : D), e = .int (k : Int) ∧ μ2 a = some (.lst ds) ∧ ds.length ≤ 100000 ∧ ds[k]? = some z ∧ P z (put μ2 a (.lst (ds.eraseIdx k)))) XP) XP) :
    EV T (tBM T.K "list" rPopAt ta (tCons te tNil)) W ⟨ρ, m0⟩ P XP := fun σ Hb H Q S q x => by
  refine h σ Hb H _ S (fun d μ1 v Hb1 H1 g1 r1 p1 => ?_) x
  obtain ⟨a, ds0, rfl, hm, p1⟩ := p1
  cases r1
  obtain ⟨n, o, ho, r⟩ := g1.mu a _ hm
  cases o with
  | lst xs0 =>
    refine ⟨Or.inl ⟨rfl, xs0, Evl.sq_of ho⟩, ?_⟩
    refine p1 σ Hb1 H1 _ (S.go g1) (fun e μ2 w Hb2 H2 g2 r2 p2 => ?_) (fun y μ' cls dd Hb' H' g r k => x y μ' cls dd Hb' H' (g1.trans g) r k)
    obtain ⟨k, ds, z, rfl, hm2, hl, hz, pz⟩ := p2
    cases r2
    obtain ⟨n2, o2, ho2, rr⟩ := g2.mu a _ hm2
    cases o2 with
    | lst xs =>
      have rr : RepL T Hb2 ds xs := rr
      obtain ⟨v, hv, rv⟩ := rr.get hz
      have hk : k < ds.length := (List.getElem?_eq_some_iff.mp hz).1
      have re : RepL T Hb2 (ds.eraseIdx k) (xs.eraseIdx k) := by
        refine ⟨by rw [List.length_eraseIdx, List.length_eraseIdx, rr.1], fun i d y e1 e2 => ?_⟩
        rw [List.getElem?_eraseIdx] at e1 e2
        split at e1
        · rename_i hi
          rw [if_pos hi] at e2
          exact rr.2 i d y e1 e2
        · rename_i hi
          rw [if_neg hi] at e2
          exact rr.2 (i + 1) d y e1 e2
      have g3 := Go.chg g2.sub g2.mu (p := a) (o := .lst (xs.eraseIdx k)) (z := .lst (ds.eraseIdx k)) hm2 re
      have e63 : (2 : Int) ^ 63 = 9223372036854775808 := by decide
      exact ⟨a, xs, (k : Int), k, v, rfl, rfl, ho2, by rw [e63]; omega, by rw [e63]; omega, ix_nat (by rw [← rr.1]; exact hk), hv, q _ _ _ _ _ ((g1.trans g2).trans g3) (rv.mono g3.ex) pz⟩
    | _ => exact rr.elim
  | _ => exact r.elim
theorem ev_slM {tl th : TO} (h : EV T te W ⟨ρ, m0⟩ (fun d μ1 => OV' T tl W ⟨ρ, μ1⟩ (fun lo μ2 => OV' T th W ⟨ρ, μ2⟩ (fun hi μ3 => ∃ a ds, d = .ptr a ∧ μ3 a = some (.lst ds) ∧ P (.lst (cutD ds lo hi)) μ3) XP) XP) XP) : EV T (tSl (rSlL T.K) te tl th) W ⟨ρ, m0⟩ P XP := fun σ Hb H Q S q x =>
  h σ Hb H _ S (fun d μ1 v Hb1 H1 g1 r1 p1 => p1 σ Hb1 H1 _ (S.go g1) (fun lo μ2 Hb2 H2 g2 p2 => p2 σ Hb2 H2 _ (S.go (g1.trans g2)) (fun hi μ3 Hb3 H3 g3 p3 => by
    obtain ⟨a, ds, rfl, hm, p⟩ := p3
    cases r1
    obtain ⟨n, o, ho, r⟩ := g3.mu a _ hm
    cases o with
    | lst xs =>
      have r : RepL T Hb3 ds xs := r
      refine ⟨a, xs, rfl, Evl.sq_of ho, fun p' hp => ?_⟩
      have g := Go.lay g3.sub g3.mu (o := .lst (cutV xs lo hi)) hp
      have r0 : RepL T Hb3 (cutD ds lo hi) (cutV xs lo hi) := by
        unfold cutD cutV
        rw [← r.1]
        exact (r.drop _).take _
      have rr := r0.mono g.ex
      exact q _ _ _ _ _ (((g1.trans g2).trans g3).trans g) (.lst upd_same rr.1 rr.2) p
    | _ => exact r.elim)
    (fun y μ' cls dd Hb' H' g r p => x y μ' cls dd Hb' H' ((g1.trans g2).trans g) r p)) (fun y μ' cls dd Hb' H' g r p => x y μ' cls dd Hb' H' (g1.trans g) r p)) x
end
section
variable {T : Cfg} {W : WX} {s : S} {ρ : List (Option D)} {m0 : Mu} {K : Out → Prop} {ta tb te te' : TE} {m m1 : Mu} {Hb H Hb1 H1 : Hp} {Dn : Ends} {XP : XW} {P : D → Mu → Prop} {μ : Mu} {u : TS}
theorem ev_wlo {a : Addr} (h : EV T te W ⟨ρ, m0⟩ (fun d μ => ∃ b, μ a = some (.well b) ∧ P d (put mu0 a (.well b))) XP) : EV T te W ⟨ρ, m0⟩ P XP := fun σ Hb H Q S q x =>
  h σ Hb H Q S (fun d μ v Hb' H' g r ⟨b, hm, p⟩ => q d _ v Hb' H' (g.forget (sub_one hm)) r p) x
theorem sv_forZ {i j : Nat} {tz : TA} (h : EA T tz W ⟨ρ, m0⟩ (fun fs μ => ∃ d ds e es ρ' J, fs = [d, e] ∧ Seqd d ds ∧ Seqd e es ∧ leR (ρ' 0) ρ ∧ J 0 μ ∧ (∀ n x y μ', ds[n]? = some x → es[n]? = some y → J n μ' → SV T u W ⟨((ρ' n).set i (some x)).set j (some y), μ'⟩ (forK (InvI ρ' J) n K)) ∧ ∀ s', leR (ρ' (min ds.length es.length)) s'.r → J (min ds.length es.length) s'.m → K (.nx s')) (xk ⟨ρ, m0⟩ K)) : SV T (tFor (iZip T.K tz) (gTup T.K 2 (gCons (gName i) (gCons (gName j) gNil))) u) W ⟨ρ, m0⟩ K :=
  sv_for (iv_zip (fun σ Hb H Q S q x => h σ Hb H Q S (fun fs μ vs Hb' H' g r ⟨d, ds, e, es, ρ', J, ef, hd, he, hr, j0, turn, done⟩ => q fs μ vs Hb' H' g r ⟨d, ds, e, es, ef, hd, he, InvI ρ' J, ⟨hr, j0⟩, fun n s' hn hi => by
    have h1 : n < ds.length := by omega
    have h2 : n < es.length := by omega
    exact gv_tup rfl (gvs_cons (gv_name (gvs_cons (gv_name (gvs_nil (sv_wk ((hi.1.set i _).set j _) sub_refl (turn n _ _ s'.m (nth_get h1) (nth_get h2) hi.2)))))))
    , fun s' hi => done s' hi.1 hi.2⟩) x))
theorem ev_lcZ {i j : Nat} {tz : TA} {tt : TT} (h : EA T tz W ⟨ρ, m0⟩ (fun fs μ => ∃ d ds e es, fs = [d, e] ∧ Seqd d ds ∧ Seqd e es ∧ ds.length ≤ 100000 ∧ ∃ g : D → D → Option D, (∀ x y, x ∈ ds → y ∈ es → TV T tt (fun _ _ _ _ => False) ⟨((wipeD ρ [i, j]).set i (some x)).set j (some y), μ⟩ (fun b μ1 => μ1 = μ ∧ (b = true → EV T te' (fun _ _ _ _ => False) ⟨((wipeD ρ [i, j]).set i (some x)).set j (some y), μ⟩ (fun z μ2 => g x y = some z ∧ μ2 = μ) (fun _ _ => False)) ∧ (b = false → g x y = none)) (fun _ _ => False)) ∧ P (.lst ((ds.zip es).filterMap fun p => g p.1 p.2)) μ) XP) : EV T (tLc (iZip T.K tz) (gTup T.K 2 (gCons (gName i) (gCons (gName j) gNil))) tt te' [i, j]) W ⟨ρ, m0⟩ P XP :=
  ev_lc (is := [i] ++ ([j] ++ [])) (fun _ h => h) (iv_zip (fun σ Hb H Q S q x => h σ Hb H Q S (fun fs μ vs Hb' H' g r ⟨d, ds, e, es, ef, hd, he, hl, gg, turn, done⟩ => q fs μ vs Hb' H' g r ⟨d, ds, e, es, ef, hd, he, by omega, fun k acc μ' => μ' = μ ∧ acc = ((ds.zip es).take k).filterMap (fun p => gg p.1 p.2), ⟨rfl, by simp⟩, fun k acc μ' hk _ ⟨e1, e2⟩ => by
    subst e1 e2
    have h1 : k < ds.length := by omega
    have h2 : k < es.length := by omega
    have hz : (ds.zip es)[k]? = some (nth ds k, nth es k) := by
      rw [List.getElem?_zip_eq_some]
      exact ⟨nth_get h1, nth_get h2⟩
    refine gv_tup rfl (gvs_cons (gv_name (gvs_cons (gv_name (gvs_nil ?_)))))
    intro σ2 Hb2 H2 Q2 S2 q2 x2
    refine turn _ _ (List.mem_of_getElem? (nth_get h1)) (List.mem_of_getElem? (nth_get h2)) σ2 Hb2 H2 Q2 S2 (fun b μ1 Hb3 H3 g3 ⟨em, pt, pf⟩ => q2 b μ1 Hb3 H3 g3 ⟨fun hb => ?_, fun hb => ?_⟩) x2
    · rw [em]
      refine (pt hb).imp fun z μ2 ⟨e1, e2⟩ => ⟨e2, ?_⟩
      rw [List.take_succ, List.filterMap_append, hz]
      simp [e1]
    · refine ⟨em, ?_⟩
      rw [List.take_succ, List.filterMap_append, hz]
      simp [pf hb], fun acc μ' ⟨e1, e2⟩ => by
    subst e1 e2
    rw [List.take_of_length_le (by rw [List.length_zip]; exact Nat.le_refl _)]
    exact done⟩) x))
theorem ev_lcU {i : Nat} (h : EV T te W ⟨ρ, m0⟩ (fun d μ => ∃ (ds : List D) (f : D → D), d = .tup ds ∧ ds.length ≤ 100000 ∧ (∀ e ∈ ds, EV T te' (fun _ _ _ _ => False) ⟨(wipeD ρ [i]).set i (some e), μ⟩ (fun x μ' => x = f e ∧ μ' = μ) (fun _ _ => False)) ∧ P (.lst (ds.map f)) μ) XP) : EV T (tLc (iTup T.K te) (gName i) tYes te' [i]) W ⟨ρ, m0⟩ P XP :=
  ev_lc (is := [i]) (fun _ h => h) (iv_tup (h.imp fun d μ ⟨ds, f, hs, hl, turn, done⟩ => ⟨ds, hs, hl, fun n acc μ' => μ' = μ ∧ acc = (ds.take n).map f, ⟨rfl, by simp⟩, fun n acc μ' hn _ ⟨e1, e2⟩ => by
    subst e1 e2
    refine gv_name (tv_yes ⟨fun _ => ?_, fun e => (nomatch e)⟩)
    have hm : nth ds n ∈ ds := List.mem_of_getElem? (nth_get hn)
    refine (turn _ hm).imp fun x μ2 ⟨e1, e2⟩ => ⟨e2, ?_⟩
    rw [e1, List.take_succ, nth_get hn]
    simp, fun acc μ' ⟨e1, e2⟩ => by
    subst e1 e2
    rw [List.take_length]
    exact done⟩))
theorem ov_isNT {ds : List D} (p : P (.bl false) μ) : OV T rIsN (.tup ds) .non μ P := ov_of (fun x y Hb H Q ex rx ry q => by
  obtain ⟨a, xs, rfl, _, _⟩ := rx.tup_inv
  cases ry
  refine ⟨rfl, q _ ?_⟩
  rw [decide_eq_false (by simp)]
  exact .bl _) p
end
end Pw
namespace NQ
open PySem PySem.SeqAt GQ
open AutoSeq1 (wpAny_loadPart')
open MeetsSeq MeetsSeq2 MeetsSeq3 SeqRoads2
section
variable {pr : Program} {wd : World} {B : Around} {Rs : Result → Shared → Prop}
end
end NQ
namespace Pw
open PySem PySem.Spec PyProof.Rows L2
open Evl (Ex ex_l ex_t)
theorem int_rep {T T' : Cfg} {H H' : Hp} {d : D} {v : V} (h : Rep T H d v) (hd : ∃ n, d = .int n) : Rep T' H' d v := by
  obtain ⟨n, rfl⟩ := hd
  cases h
  exact .int n
theorem sh_fields {q : Rat} {g : Str × D} (h : g ∈ Far.shF q) : ∃ n, g.2 = .int n := by
  unfold Far.shF at h
  rcases List.mem_cons.mp h with rfl | h
  · exact ⟨_, rfl⟩
  · rw [List.mem_singleton.1 h]
    exact ⟨_, rfl⟩
theorem sim_two {T : Cfg} {Hb H : Hp} {a b : Addr} {o u : HO} (ha : Hb a = some o) (hb : Hb b = some u) (ho : NoTC o) (hu : NoTC u) : SimMu T.nl mu0 (fun c => if c = a ∨ c = b then Hb c else none) H := by
  have all : ∀ c z, (if c = a ∨ c = b then Hb c else none) = some z → NoTC z := fun c z e => by
    by_cases h : c = a ∨ c = b
    · rw [if_pos h] at e
      rcases h with h | h
      · rw [h, ha] at e; cases e; exact ho
      · rw [h, hb] at e; cases e; exact hu
    · rw [if_neg h] at e; cases e
  refine ⟨fun _ _ h => (nomatch h), ⟨fun _ => none, fun _ _ h => (nomatch h), ⟨fun P q h => ?_, fun P q q' h => ?_⟩, fun c oc => ⟨fun h => (nomatch h), fun h => absurd rfl ((all _ _ h).2 oc)⟩, fun _ _ h => (nomatch h)⟩, fun c ps h => absurd rfl ((all _ _ h).1 ps)⟩
  all_goals
    rcases h with h | ⟨_, _, _, h, _⟩
    · exact absurd (show _ ∈ ([] : List (Addr × Str)) from h) (by simp)
    · cases h
def NrG (X : Cx) (n : Nat) (D : Eqv) : Prop := ∀ (A : Around) (pins : List (Addr × Obj)) (s : Shared) (σ : L2.St) (H : Hp) (x y : V) (u v : Value), L2.Sub X n A → Inv X pins σ H s → RelV x u → RelV y v → D x y H →
  wpAny (model X.prog X.w) A (richCompare .NotEq u v) (fun r s' => r = .bool false ∧ ∃ H', Inv X pins σ H' s' ∧ Ext H H') X.xe s
section
variable {X : Cx} {n : Nat} {D : Eqv}
def rNeG (D : Eqv) : R2 := fun x y H Q => D x y H ∧ ∀ H', Ext H H' → Q (.bl false) H'
theorem op_neG (h : NrG X n D) (hr : Room n X.A) : OpR X (compareOp .NotEq) (rNeG D) := by
  intro pins s σ H x y v u Q I rx ry hq
  obtain ⟨d, q⟩ := hq
  show wpAny (model X.prog X.w) X.A (richCompare .NotEq v u) (EP X pins σ Q) X.xe s
  refine wpAny_mono (h X.A pins s σ H x y v u ⟨hr, rfl⟩ I rx ry d) (fun r z k => ?_) fun _ _ x => x
  obtain ⟨er, H', I', e⟩ := k
  subst er
  exact ⟨.bl false, H', I', rfl, q H' e⟩
def DSh (T : Cfg) : Eqv := fun x y H => ∃ (q : Rat) (Hb : Hp), Ex Hb H ∧ Rep T Hb (Far.shD q) x ∧ Rep T Hb (Far.shD q) y
theorem mon_sh (T : Cfg) : Mon (DSh T) := fun x y H H' e ⟨q, Hb, ex, r1, r2⟩ => ⟨q, Hb, fun a o h => e a o (ex a o h), r1, r2⟩
theorem eqG_sh {T : Cfg} {CX : CXT} {f : Addr} {fd : FuncData} {ps : List Str} {E : XK} (hT : Far.ShOk T) (F : FnOk X.prog X.w X.K X.mg X.base CX n f fd ps (spOf T.nl (pu (Far.c_Share___eq__ T.nl))))
    (hs : PySem.W.findIn X.K (.ref (T.cls 0)) "__eq__" = some (some (.ref f))) (hf : PySem.W.isFn X.K (.ref f) = true) (hb : Binds X.K fd ps []) (hx : Passes CX X E) : EqG X n (DSh T) := by
  refine RcG.eqG ?_ ?_
  · intro A pins s σ H x y u v sb I rx ry d
    obtain ⟨q, Hb, ex, r1, r2⟩ := d
    have r1' := r1
    have r2' := r2
    obtain ⟨a, dx, fs, rfl, ha, ra⟩ := r1.ins_inv
    obtain ⟨b, dy, gs, rfl, hb', rb⟩ := r2.ins_inv
    cases rx
    cases ry
    obtain ⟨mA, J, _⟩ := ins_get I.hok (ex _ _ ha)
    obtain ⟨mB, J', _⟩ := ins_get I.hok (ex _ _ hb')
    obtain ⟨od, J, _⟩ := J.look
    obtain ⟨od', J', _⟩ := J'.look
    obtain ⟨m, hF⟩ := I.fr
    refine PySem.W.cmp_K (op := .Eq) (tb := .ref (T.cls 0)) sb.room.units0 hF I.ok.mod.kin J J'.type (by simp [PySem.W.notFirst]) hs hf ?_
    have smn := sim_two (T := T) (H := H) ha hb' ⟨fun _ z => (nomatch z), fun _ z => (nomatch z)⟩ ⟨fun _ z => (nomatch z), fun _ z => (nomatch z)⟩
    have exn : Ex (fun c => if c = a ∨ c = b then Hb c else none) H := fun c o e => by
      have e : (if c = a ∨ c = b then Hb c else none) = some o := e
      by_cases h : c = a ∨ c = b
      · rw [if_pos h] at e; exact ex c o e
      · rw [if_neg h] at e; cases e
    have n1 : Rep T.nl (fun c => if c = a ∨ c = b then Hb c else none) (Far.shD q) (.ref a) := .ins (by show (if a = a ∨ a = b then Hb a else none) = _; rw [if_pos (.inl rfl)]; exact ha) ra.1 fun i g f hg hf => int_rep (ra.2 i g f hg hf) (sh_fields (List.mem_of_getElem? hg))
    have n2 : Rep T.nl (fun c => if c = a ∨ c = b then Hb c else none) (Far.shD q) (.ref b) := .ins (by show (if b = a ∨ b = b then Hb b else none) = _; rw [if_pos (.inr rfl)]; exact hb') rb.1 fun i g f hg hf => int_rep (rb.2 i g f hg hf) (sh_fields (List.mem_of_getElem? hg))
    have hTn : Far.ShOk T.nl := ⟨hT.cl, hT.nt, hT.nb, hT.ic, hT.kb, hT.ko⟩
    have hsp : spOf T.nl (pu (Far.c_Share___eq__ T.nl)) [.ref a, .ref b] H (fun z H' => z = .bl true ∧ Ext H H') E :=
      ⟨[Far.shD q, Far.shD q], mu0, _, fun z μ' => z = .bl true ∧ μ' = mu0, fun _ _ => False, exn, smn, .cons n1 (.cons n2 .nil), ⟨rfl, fun z => z = .bl true, fun _ => False, ⟨q, Far.shD q, _, rfl, Far.th_sh hTn q, .inl ⟨q, rfl, by rw [decide_eq_true rfl]⟩⟩, fun z k => ⟨k, rfl⟩, fun _ k => k⟩, fun z μ' w Hb' H' g r k => by
        obtain ⟨rfl, rfl⟩ := k
        cases r
        refine ⟨rfl, fun c o hc => ?_⟩
        cases e : (if c = a ∨ c = b then Hb c else none) with
        | some o' =>
          have e1 := exn c o' e
          rw [hc] at e1
          cases e1
          exact g.sub c _ (g.ex c _ e)
        | none => exact (g.keep c o hc e rfl (.inl rfl)).1, fun _ _ _ _ _ _ _ _ k => k.elim⟩
    refine wpAny_mono (call_under F hb hx sb I (vs := [.ref a, .ref b]) (us := [.ref a, .ref b]) (.cons rfl (.cons rfl .nil)) hsp) (fun z s' hz => ?_) fun _ _ e => e
    obtain ⟨v, H', I', rv, rfl, q⟩ := hz
    cases (show z = Value.bool true from rv)
    exact ⟨rfl, H', I', q⟩
  · rintro x y H ⟨q, Hb, ex, r1, r2⟩
    obtain ⟨a, dx, fs, rfl, _, _⟩ := r1.ins_inv
    obtain ⟨b, dy, gs, rfl, _, _⟩ := r2.ins_inv
    exact ⟨a, b, rfl, rfl⟩
end
section
variable {T : Cfg} {P : D → Mu → Prop} {μ : Mu}
theorem Go.ext {Hb H H' : Hp} (ex : Ex Hb H) (sm : SimMu T μ Hb H) (e : Ext H H') : Go T μ Hb H μ Hb H' :=
  ⟨Ex.refl _, fun a o h n _ _ => ⟨e a o h, fun _ => n⟩, fun a m h => .inl (by rw [h]; simp), fun a o h => ⟨o, e a o h⟩, fun a o h => e a o (ex a o h), sm.up (fun a u _ q => e a u q) (fun _ _ _ => Iff.rfl) fun a m h => by
    obtain ⟨n, o, ho, r⟩ := sm a m h
    exact ⟨n, o, e a o ho, r⟩⟩
theorem dl_sh {Hb H : Hp} (ex : Ex Hb H) : ∀ {qs : List Rat} {x y : V}, Rep T Hb (.lst (qs.map Far.shD)) x → Rep T Hb (.lst (qs.map Far.shD)) y → DList (DSh T) x y H := by
  intro qs x y r1 r2
  obtain ⟨a, xs, rfl, hx, q1⟩ := r1.lst_inv
  obtain ⟨b, ys, rfl, hy, q2⟩ := r2.lst_inv
  refine ⟨a, b, xs, ys, rfl, rfl, ex _ _ hx, ex _ _ hy, q1.1.symm.trans q2.1, fun i v w hv hw => ?_⟩
  obtain ⟨d, hd, rd⟩ := q1.getV hv
  obtain ⟨e, he, re⟩ := q2.getV hw
  rw [hd] at he; cases he
  rw [List.getElem?_map, Option.map_eq_some_iff] at hd
  obtain ⟨q, _, rfl⟩ := hd
  exact ⟨q, Hb, ex, rd, re⟩
end
end Pw
namespace Pw
open PySem PySem.Spec PyProof.Rows L2
open Evl (Ex ex_l ex_t fresh_back)
inductive Stl (μ : Mu) : D → D → Prop
  | refl (d : D) : Stl μ d d
  | ptr {p : Addr} {ds es : List D} (h : μ p = some (.lst ds)) (l : ds.length = es.length) (k : ∀ (i : Nat) (x y : D), ds[i]? = some x → es[i]? = some y → Stl μ x y) : Stl μ (.ptr p) (.lst es)
  | lst {ds es : List D} (l : ds.length = es.length) (k : ∀ (i : Nat) (x y : D), ds[i]? = some x → es[i]? = some y → Stl μ x y) : Stl μ (.lst ds) (.lst es)
  | tup {ds es : List D} (l : ds.length = es.length) (k : ∀ (i : Nat) (x y : D), ds[i]? = some x → es[i]? = some y → Stl μ x y) : Stl μ (.tup ds) (.tup es)
theorem Stl.own {μ : Mu} {p : Addr} {ds : List D} (h : μ p = some (.lst ds)) : Stl μ (.ptr p) (.lst ds) := .ptr h rfl fun i x y hx hy => by
  rw [hx] at hy; cases hy; exact .refl _
theorem Stl.two {μ : Mu} {d e d' e' : D} (h : Stl μ d d') (k : Stl μ e e') : Stl μ (.tup [d, e]) (.tup [d', e']) := .tup rfl fun i x y hx hy => by
  match i, hx, hy with
  | 0, hx, hy => cases hx; cases hy; exact h
  | 1, hx, hy => cases hx; cases hy; exact k
  | n + 2, hx, _ => simp at hx
section
variable {T : Cfg} {W : WX} {ρ ρ' : List (Option D)} {m0 : Mu} {K : Out → Prop} {ta tb te te' : TE} {Hb H : Hp} {XP : XW} {P : D → Mu → Prop} {μ : Mu} {u : TS}
theorem sv_wkR {s : S} (h : leR ρ' s.r) (k : SV T u W ⟨ρ', s.m⟩ K) : SV T u W s K := sv_wk (ρ := s.r) (m0 := s.m) h sub_refl k
end
structure Pln (d : D) (p : PyData) : Prop where
  dp : DPy d p
  lay : p.canLay0 = true
  dep : p.depth ≤ 2
theorem pln_list : ∀ {ds : List D}, (∀ d ∈ ds, ∃ p, Pln d p) → ∃ ps, DPyL ds ps ∧ PyData.canLayAll0 ps = true ∧ PyData.depthAll ps ≤ 2 ∧ ps.length = ds.length
  | [], _ => ⟨[], .nil, rfl, by simp [PyData.depthAll], rfl⟩
  | d :: ds, h => by
    obtain ⟨p, hp⟩ := h d (by simp)
    obtain ⟨ps, h1, h2, h3, h4⟩ := pln_list fun d hd => h d (List.mem_cons_of_mem _ hd)
    refine ⟨p :: ps, .cons hp.dp h1, ?_, ?_, by simp [h4]⟩
    · simp [PyData.canLayAll0, hp.lay, h2]
    · have := hp.dep
      simp only [PyData.depthAll]
      omega
theorem pln_shaped {ps : List PyData} (h : PyData.canLayAll0 ps = true) (k : PyData.depthAll ps ≤ 2) : SeqAt.shaped (.list ps) = true := by
  unfold SeqAt.shaped
  rw [Bool.and_eq_true]
  refine ⟨?_, decide_eq_true ?_⟩
  · simp only [PyData.canLay0]; exact h
  · simp only [PyData.depth]; omega
theorem eqv_nil (ps : List PyData) : PyData.eqv (.list ps) (.list []) = decide (ps.length = 0) := by
  cases ps with
  | nil => rfl
  | cons p ps => rfl
section
variable {T : Cfg} {P : D → Mu → Prop} {μ : Mu}
theorem ov_neNil {d : D} {ds : List D} (hd : d = .lst ds) (h : ∀ d ∈ ds, ∃ p, Pln d p) (k : P (.bl (!decide (ds.length = 0))) μ) : OV T (rNeD T.K) d (.lst []) μ P := by
  obtain ⟨ps, h1, h2, h3, h4⟩ := pln_list h
  subst hd
  refine ov_neD (.lst h1) (.lst .nil) (pln_shaped h2 h3) (by decide) ?_
  rw [eqv_nil, h4]
  exact k
end
end Pw
namespace NQ
open PySem PySem.SeqAt GQ
open AutoSeq1 (wpAny_loadPart')
open MeetsSeq MeetsSeq2 MeetsSeq3 SeqRoads2
section
variable {pr : Program} {wd : World} {B : Around} {Rs : Result → Shared → Prop}
theorem ne_tup (p q : Addr) (us vs : Array Value) (cu cv : Nat) (du dv : Option Addr) (lu lv : Array (Option Value)) (same : us.size = vs.size) (J : Nat → Shared → Prop)
    (turn : ∀ k (k1 : k < us.size) (k2 : k < vs.size) z, J k z → wpAny (model pr wd) B.in1 (eqBool us[k] vs[k]) (fun t z' => t = true ∧ J (k + 1) z') (fun e z' => Rs (.error e) z') z)
    (done : ∀ z, J us.size z → Rs (.ok (.ret (.bool false))) z) {z : Shared} (gp : z.heap.get? p = some { cls := .type "tuple", dict := du, data := .seq us cu, slots := lu }) (gq : z.heap.get? q = some { cls := .type "tuple", dict := dv, data := .seq vs cv, slots := lv }) (j0 : J 0 z) :
    wpAny (model pr wd) B.in1 (Builtin.«tuple.__ne__» ⟨[.ref p, .ref q], []⟩) (FinOf pr wd B Rs) (fun e z' => Rs (.error e) z') z := by
  have tt := AutoSeq1.sub_tuple_tuple
  have len : (us.toList.zip vs.toList).length = us.size := by simp [same]
  have j1 := j0
  obtain ⟨z1, z2, z3, z4, z5⟩ := z
  wp_walk using wpAny_loadPart' gp, wpAny_loadPart' gq, wpAny_forIn_list _ (fun more c z' => c.1 = none ∧ ∃ k, more = (us.toList.zip vs.toList).drop k ∧ k ≤ us.size ∧ J k z') _
  case turn =>
    rintro ⟨u, v⟩ more c z' ⟨c0, k, ek, lek, jk⟩
    have kl : k < (us.toList.zip vs.toList).length := by
      by_cases w : k < (us.toList.zip vs.toList).length
      · exact w
      · rw [List.drop_of_length_le (by omega)] at ek; cases ek
    have ku : k < us.size := len ▸ kl
    have kv : k < vs.size := same ▸ ku
    rw [List.drop_eq_getElem_cons kl] at ek
    injection ek with e1 e2
    have eu : u = us[k] := by have := congrArg Prod.fst e1; simpa using this
    have ev : v = vs[k] := by have := congrArg Prod.snd e1; simpa using this
    subst eu ev
    refine wpAny_bind (wpAny_mono (turn k ku kv z' jk) (fun t y ty => ?_) fun _ _ x => x)
    obtain ⟨et, jy⟩ := ty
    subst et
    wp_walk
    exact ⟨rfl, k + 1, e2, ku, jy⟩
  case fin =>
    rintro ⟨c1, c2⟩ z' ⟨c0, k, ek, lek, jk⟩
    simp only at c0
    subst c0
    have ge : us.size ≤ k := by
      by_cases w : k < (us.toList.zip vs.toList).length
      · rw [List.drop_eq_getElem_cons w] at ek; cases ek
      · omega
    have kk : k = us.size := by omega
    have last : Rs (.ok (.ret (.bool false))) z' := done z' (kk ▸ jk)
    wp_walk
    simpa [Builtin.Tuple.tupleCompareSizes, same] using last
  case h =>
    exact ⟨rfl, 0, rfl, Nat.zero_le _, j1⟩
end
theorem ne_rcT {pr : Program} {wd : World} {B : Around} {Z : Value → Shared → Prop} {z : Shared} {p q : Addr} {us vs : Array Value} {Q : Value → Shared → Prop} (same : us.size = vs.size) (hu : B.units < cLine) (J : Nat → Shared → Prop)
    (gp : z.heap.IsTuple p us) (gq : z.heap.IsTuple q vs) (turn : ∀ k (k1 : k < us.size) (k2 : k < vs.size) z, J k z → wpAny (model pr wd) B.in1 (eqBool us[k] vs[k]) (fun t z' => t = true ∧ J (k + 1) z') Z z)
    (done : ∀ z, J us.size z → Q (.bool false) z) (j0 : J 0 z) : wpAny (model pr wd) B (richCompare .NotEq (.ref p) (.ref q)) Q Z z := by
  obtain ⟨⟨c1, d1, x1, l1⟩, g1, e1, n1, e2⟩ := id gp
  obtain ⟨⟨c2, d2, x2, l2⟩, g2, e3, n2, e4⟩ := id gq
  simp only at e1 e2 e3 e4
  subst e1 e2 e3 e4
  refine wpAny_richCompare_same_room (op := .NotEq) ⟨_, g1, rfl⟩ ⟨_, g2, rfl⟩ F.slot_tuple_ne (call_here F.slot_tuple_ne ⟨_, g1, rfl⟩ F.entry_tuple_ne (F.args_tuple_ne_2 _ _) ?_) hu
  exact ne_tup (Rs := wants (fun v z' => v ≠ .notImplemented ∧ Q v z') Z) p q us vs n1 n2 d1 d2 l1 l2 same J turn (fun z' k => ⟨(fun x => nomatch x), done z' k⟩) g1 g2 j0
end NQ
namespace Pw
open PySem PySem.Spec PyProof.Rows L2
open Evl (Ex ex_l ex_t)
theorem nrG_tup {X : Cx} {n : Nat} {D : Eqv} (hD : Mon D) (h : EqG X n D) : NrG X (n + 1) (DTup X.K D) := by
  intro A pins s σ H x y u v sb I rx ry d
  obtain ⟨a, b, xs, ys, rfl, rfl, ha, hb, p⟩ := d
  cases rx
  cases ry
  obtain ⟨us, r1, g1, z1⟩ := I.tuple ha
  obtain ⟨vs, r2, g2, z2⟩ := I.tuple hb
  have same : us.toArray.size = vs.toArray.size := by rw [List.size_toArray, List.size_toArray, ← r1.length, ← r2.length]; exact p.1
  exact NQ.ne_rcT same sb.room.units0 (fun _ z => LoopI X pins σ H z) g1 g2 (fun k k1 k2 z l => turnG hD h sb p r1 r2 k k1 k2 z l) (fun z l => ⟨rfl, l⟩) ⟨H, I, Ext.rfl'⟩
section
variable {T : Cfg} {W : WX} {ρ : List (Option D)} {m0 : Mu} {XP : XW} {K : Out → Prop} {te te' : TE} {P : D → Mu → Prop} {μ : Mu}
def prP (q : Rat) : PyData := .tuple [.int q.num, .int (q.den : Int)]
theorem prs_dpy : ∀ qs : List Rat, DPyL (qs.map Far.prD) (qs.map prP) ∧ PyData.canLayAll0 (qs.map prP) = true ∧ PyData.depthAll (qs.map prP) ≤ 2
  | [] => ⟨.nil, rfl, by simp [PyData.depthAll]⟩
  | q :: qs => by
    obtain ⟨h1, h2, h3⟩ := prs_dpy qs
    refine ⟨.cons dpy2 h1, ?_, ?_⟩
    · rw [List.map_cons]
      simp only [PyData.canLayAll0, h2, Bool.and_true]
      rfl
    · rw [List.map_cons]
      simp only [PyData.depthAll]
      have : (prP q).depth ≤ 2 := by simp [prP, PyData.depth, PyData.depthAll]
      omega
theorem prs_eqv : ∀ ps qs : List Rat, PyData.eqv (.list (ps.map prP)) (.list (qs.map prP)) = decide (ps = qs)
  | [], [] => by simp [PyData.eqv, PyData.eqvAll]
  | [], q :: qs => by simp [PyData.eqv, PyData.eqvAll]
  | p :: ps, [] => by simp [PyData.eqv, PyData.eqvAll]
  | p :: ps, q :: qs => by
    have ih := prs_eqv ps qs
    have e : PyData.eqv (prP p) (prP q) = decide (p = q) := by
      unfold prP
      rw [eqv2, Far.rat_eq]
    show (PyData.eqv (prP p) (prP q) && PyData.eqv (.list (ps.map prP)) (.list (qs.map prP))) = _
    rw [e, ih]
    by_cases h1 : p = q
    · by_cases h2 : ps = qs
      · simp [h1, h2]
      · simp [h1, h2]
    · simp [h1]
theorem ov_eqPrs {ps qs : List Rat} (k : P (.bl (decide (ps = qs))) μ) : OV T (rEqD T.K) (.lst (ps.map Far.prD)) (.lst (qs.map Far.prD)) μ P := by
  obtain ⟨h1, h2, h3⟩ := prs_dpy ps
  obtain ⟨g1, g2, g3⟩ := prs_dpy qs
  refine ov_eqD (.lst h1) (.lst g1) (pln_shaped h2 h3) (pln_shaped g2 g3) ?_
  rw [prs_eqv]
  exact k
theorem ev_lcE {i j : Nat} {tz : TA} (h : EA T tz W ⟨ρ, m0⟩ (fun fs μ => ∃ d ds g, fs = [d] ∧ Seqd d ds ∧ ds.length ≤ 100000 ∧ (∀ (n : Nat) x, ds[n]? = some x → EV T te' (fun _ _ _ _ => False) ⟨((wipeD ρ [i, j]).set i (some (.int (n : Nat)))).set j (some x), μ⟩ (fun z μ2 => z = g n ∧ μ2 = μ) (fun _ _ => False)) ∧ P (.lst ((List.range ds.length).map g)) μ) XP) : EV T (tLc (iEnum T.K tz) (gTup T.K 2 (gCons (gName i) (gCons (gName j) gNil))) tYes te' [i, j]) W ⟨ρ, m0⟩ P XP :=
  ev_lc (is := [i] ++ ([j] ++ [])) (fun _ h => h) (iv_enum (fun σ Hb H Q S q x => h σ Hb H Q S (fun fs μ vs Hb' H' g r ⟨d, ds, gg, ef, hd, hl, turn, done⟩ => q fs μ vs Hb' H' g r ⟨d, ds, ef, hd, hl, fun k acc μ' => μ' = μ ∧ acc = (List.range k).map gg, ⟨rfl, by simp⟩, fun k acc μ' hk _ ⟨e1, e2⟩ => by
    subst e1 e2
    refine gv_tup rfl (gvs_cons (gv_name (gvs_cons (gv_name (gvs_nil (tv_yes ⟨fun _ => ?_, fun e => (nomatch e)⟩))))))
    refine (turn k _ (nth_get hk)).imp fun z μ2 ⟨e1, e2⟩ => ⟨e2, ?_⟩
    rw [List.range_succ, List.map_append, e1]
    rfl, fun acc μ' ⟨e1, e2⟩ => by
    subst e1 e2
    exact done⟩) x))
end
end Pw
namespace Pw
open PySem PySem.Spec PyProof.Rows L2
open Evl (Ex ex_l ex_t fresh_back)
section
variable {T : Cfg} {W : WX} {s : S} {ρ : List (Option D)} {m0 : Mu} {K : Out → Prop} {ta tb te te' : TE} {m m1 : Mu} {Hb H Hb1 H1 : Hp} {Dn : Ends} {u : TS}
theorem ev_lcO {sl : Nat} {a : Addr} {ds : List D} {g : TG} {is vs : List Nat} {tt : TT} {P : D → Mu → Prop} {XP : XW} {I : Nat → List D → Mu → Prop} (hvar : ρ[sl]? = some (some (.ptr a))) (hmem : m0 a = some (.lst ds)) (hv : ∀ i ∈ is, i ∈ vs) (hn : ds.length ≤ 100000)
    (i0 : I 0 [] m0) (hI : ∀ i acc μ', I i acc μ' → μ' a = some (.lst ds)) (turn : ∀ i acc μ', i < ds.length → acc.length ≤ i → I i acc μ' → GV T g is (nth ds i) ⟨wipeD ρ vs, μ'⟩ (fun s'' => TV T tt (fun _ _ _ _ => False) s'' (fun b μ1 =>
      (b = true → EV T te (fun _ _ _ _ => False) ⟨s''.r, μ1⟩ (fun e μ2 => I (i + 1) (acc ++ [e]) μ2) (fun _ _ => False)) ∧ (b = false → I (i + 1) acc μ1)) (fun _ _ => False))) (done : ∀ acc μ', I ds.length acc μ' → P (.lst acc) μ') :
    EV T (tLc (iList T.K (tVar sl)) g tt te vs) W ⟨ρ, m0⟩ P XP := fun σ Hb H Q S q x => by
  obtain ⟨v0, e0, r0⟩ := S.vars sl _ hvar
  cases r0
  obtain ⟨nb0, o0, ho0, ro0⟩ := S.mu a _ hmem
  have hL : ∃ xs, H a = some (.lst xs) := by
    cases o0 with
    | lst xs => exact ⟨xs, ho0⟩
    | _ => exact ro0.elim
  obtain ⟨xs0, hx0⟩ := hL
  refine ⟨.ref a, e0, a, rfl, ⟨xs0, Evl.sq_of hx0⟩, ?_⟩
  have ok : ∀ μ' Hb' H', SimMu T μ' Hb' H' → Ex Hb' H' → μ' a = some (.lst ds) → (∀ i, i < ds.length → (Itl T.K a).go i H') ∧ (∀ i, ds.length ≤ i → (Itl T.K a).stop i H') ∧ ∀ i x H2, i < ds.length → (Itl T.K a).yld i H' x H2 → H2 = H' ∧ Rep T Hb' (nth ds i) x := by
    intro μ' Hb' H' sm ex ha
    obtain ⟨_, o, ho, ro⟩ := sm a _ ha
    cases o with
    | lst xs =>
      have ro : RepL T Hb' ds xs := ro
      refine ⟨fun i hi => ⟨xs, xs[i]'(by rw [← ro.1]; exact hi), Evl.sq_of ho, List.getElem?_eq_getElem _⟩, fun i hi => ⟨xs, Evl.sq_of ho, by rw [← ro.1]; exact hi⟩, ?_⟩
      rintro i x H2 hi ⟨rfl, y⟩
      exact ⟨rfl, ro.2 i _ x (nth_get hi) (y xs (Evl.sq_of ho))⟩
    | _ => exact ro.elim
  let n := ds.length
  let μ := m0
  let Hb1 := Hb
  let H1 := H
  have g1 : Go T m0 Hb H m0 Hb H := S.refl
  have S1 := S.go g1
  intro Dl hD
  have hDb : Hb1 Dl = none := fresh_back S1.sub hD
  have hDm : μ Dl = none := by
    cases e : μ Dl with
    | none => rfl
    | some m =>
      obtain ⟨_, o, ho, _⟩ := g1.mu Dl m e
      rw [hD] at ho; cases ho
  -- the new list is one's own at Dl
  have gD : Go T μ Hb1 H1 (put μ Dl (.lst [])) Hb1 (upd H1 Dl (.lst [])) := Go.own g1.sub g1.mu hD RepL.nil
  refine ⟨fun i m H' => m = n - i ∧ i ≤ n ∧ ∃ acc μ' Hb', acc.length ≤ i ∧ μ' Dl = none ∧ Go T μ Hb1 H1 (put μ' Dl (.lst acc)) Hb' H' ∧ I i acc μ', ⟨n, by simp, Nat.zero_le _, [], μ, Hb1, Nat.le_refl _, hDm, gD, i0⟩, ?_⟩
  rintro i m H' ⟨rfl, hi, acc, μ', Hb', hl, hm', g', i'⟩
  have S' : Sim T ⟨ρ, put μ' Dl (.lst acc)⟩ σ Hb' H' := S1.go g'
  have haD : a ≠ Dl := fun e => by
    have h1 := hI i acc μ' i'
    rw [e, hm'] at h1; cases h1
  obtain ⟨go, stop, yld⟩ := ok _ Hb' H' g'.mu g'.sub (by rw [put_ne haD]; exact hI i acc μ' i')
  by_cases hlt : i < n
  · refine .inr ⟨go i hlt, fun H2 => ∃ acc2 μ2 Hb2, acc2.length ≤ i + 1 ∧ μ2 Dl = none ∧ Go T μ Hb1 H1 (put μ2 Dl (.lst acc2)) Hb2 H2 ∧ I (i + 1) acc2 μ2, ?_, ?_⟩
    · rintro H2 ⟨acc2, μ2, Hb2, hl2, hm2, g2, i2⟩
      exact ⟨n - (i + 1), by omega, rfl, hlt, acc2, μ2, Hb2, hl2, hm2, g2, i2⟩
    · intro y H2 hy
      obtain ⟨eH2, r2⟩ := yld i y H2 hlt hy
      subst eH2
      obtain ⟨Hb2, g2, r2⟩ : ∃ Hb2, Go T (put μ' Dl (.lst acc)) Hb' H2 (put μ' Dl (.lst acc)) Hb2 H2 ∧ Rep T Hb2 (nth ds i) y := ⟨Hb', .refl g'.sub g'.mu, r2⟩
      have g02 := g'.trans g2
      -- the list set aside: the store without it
      have aside : ∀ {μa : Mu} {Hba Ha : Hp} {ac : List D}, μa Dl = none → SimMu T (put μa Dl (.lst ac)) Hba Ha → SimMu T μa Hba Ha := fun {μa Hba Ha ac} hn hs => hs.as fun a m ha => by
        refine hs a m ?_
        rw [put_ne (fun e => by rw [e, hn] at ha; cases ha)]
        exact ha
      have back : ∀ {μa μb : Mu} {Hba Ha Hbb Hc : Hp} {ac : List D}, μa Dl = none → SimMu T (put μa Dl (.lst ac)) Hba Ha → Go T μa Hba Ha μb Hbb Hc → μb Dl = none ∧ Go T (put μa Dl (.lst ac)) Hba Ha (put μb Dl (.lst ac)) Hbb Hc := fun {μa μb Hba Ha Hbb Hc ac} hn hs gg => by
        obtain ⟨hbn, o, ho, ro⟩ := hs Dl _ put_same
        obtain ⟨ho', hbn'⟩ := gg.keepN ho hbn hn ro
        have mb : μb Dl = none := by
          cases e : μb Dl with
          | none => rfl
          | some m =>
            rcases gg.new Dl m e with z | z
            · exact absurd hn z
            · rw [ho] at z; cases z
        refine ⟨mb, gg.ex, fun a u h1 h2 h3 h4 => ?_, fun a m h1 => ?_, gg.alive, gg.sub, gg.mu.as fun a m h1 => ?_⟩
        · have ne : a ≠ Dl := fun e => by rw [e, put_same] at h3; cases h3
          rw [put_ne ne] at h3
          exact gg.keep a u h1 h2 h3 h4
        · by_cases e : a = Dl
          · subst e; exact .inl (by rw [put_same]; simp)
          · rw [put_ne e] at h1 ⊢; exact gg.new a m h1
        · by_cases e : a = Dl
          · subst e
            rw [put_same] at h1
            cases h1
            exact ⟨hbn', o, ho', ro.mono gg.ex⟩
          · rw [put_ne e] at h1; exact gg.mu a m h1
      have Sw0 : Sim T ⟨ρ, put μ' Dl (.lst acc)⟩ σ Hb2 H2 := S'.go g2
      have Sw : Sim T ⟨ρ, μ'⟩ σ Hb2 H2 := ⟨Sw0.len, Sw0.vars, Sw0.sub, aside hm' Sw0.mu⟩
      have Sww : Sim T ⟨wipeD ρ vs, μ'⟩ (L2.wipe σ vs) Hb2 H2 := Sw.wipe vs
      refine turn i acc μ' hlt hl i' y (L2.wipe σ vs) Hb2 H2 _ Sww r2 fun s3 σ3 em S3 wq k => ?_
      have em : s3.m = μ' := em
      refine ⟨?_, ?_⟩
      · have e1 := wq vs hv
        have idem : ∀ (us : List Nat), (∀ u ∈ us, u ∈ vs) → L2.wipe (L2.wipe σ vs) us = L2.wipe σ vs := by
          intro us
          induction us with
          | nil => intro _; rfl
          | cons u us ih =>
            intro hu
            show (L2.wipe (L2.wipe σ vs) us).set u none = L2.wipe σ vs
            rw [ih fun z hz => hu z (List.mem_cons_of_mem _ hz)]
            have : ∀ (ws : List Nat) (u : Nat), u ∈ ws → (L2.wipe σ ws).set u none = L2.wipe σ ws := by
              intro ws
              induction ws with
              | nil => intro u hu; cases hu
              | cons w ws ih2 =>
                intro u hu
                show ((L2.wipe σ ws).set w none).set u none = (L2.wipe σ ws).set w none
                by_cases e : u = w
                · subst e; rw [List.set_set]
                · have hu2 : u ∈ ws := by
                    rcases List.mem_cons.mp hu with z | z
                    · exact absurd z e
                    · exact z
                  rw [List.set_comm _ _ (fun z => e z.symm), ih2 u hu2]
            exact this vs u (hu u (by simp))
        rw [e1]
        exact idem vs fun _ z => z
      · refine k σ3 Hb2 H2 _ S3 (fun b μ3 Hb3 H3 g3 kk => ?_) (fun _ _ _ _ _ _ _ _ z => z.elim)
        rw [em] at g3
        obtain ⟨hm3, g3'⟩ := back hm' Sw0.mu g3
        have S3' : Sim T ⟨s3.r, μ3⟩ σ3 Hb3 H3 := S3.go (by rw [em]; exact g3)
        cases b with
        | false =>
          show ∃ acc2 μ2 Hb2, _
          exact ⟨acc, μ3, Hb3, by omega, hm3, g02.trans g3', kk.2 rfl⟩
        | true =>
          show te σ3 H3 _
          refine kk.1 rfl σ3 Hb3 H3 _ S3' (fun e μ4 w Hb4 H4 g4 r4 i4 => ?_) (fun _ _ _ _ _ _ _ _ z => z.elim)
          obtain ⟨hm4, g4'⟩ := back hm3 g3'.mu g4
          obtain ⟨_, o, ho, ro⟩ := g4'.mu Dl _ put_same
          cases o with
          | lst xs =>
            have ro : RepL T Hb4 acc xs := ro
            have g5 := Go.chg g4'.sub g4'.mu (p := Dl) (o := .lst (xs ++ [w])) (z := .lst (acc ++ [e])) put_same (ro.app (.cons r4 .nil))
            rw [put_put] at g5
            exact ⟨xs, ho, Evl.sz_lt (by rw [← ro.1]; omega), acc ++ [e], μ4, Hb4, by simp; omega, hm4, ((g02.trans g3').trans g4').trans g5, i4⟩
          | _ => exact ro.elim
  · have e : i = ds.length := by omega
    have i2 : I ds.length acc μ' := e ▸ i'
    obtain ⟨hbn, o, ho, ro⟩ := g'.mu Dl _ put_same
    cases o with
    | lst xs =>
      have gf := Go.freeze g'.sub g'.mu (p := Dl) put_same ho
      rw [del_put hm'] at gf
      have ro : RepL T Hb' acc xs := ro
      exact .inl ⟨stop i (by omega), q _ _ _ _ _ ((g1.trans g').trans gf) (.lst upd_same ro.1 (ro.mono gf.ex).2) (done acc μ' i2)⟩
    | _ => exact ro.elim
end
end Pw
namespace MxS
open PySem PySem.Spec PyProof.Rows L2
section
variable {P : Program} {w : World} {κ : Type} [DecidableEq κ] (kd : KeyKind P w κ)
structure Quiet : Prop where
  cls : ∀ (ks : List κ) (vs : List Value), ItemsAre kd ks vs → ∀ v ∈ vs, ∀ n, ofAClassStatement n v = pure false
  hsv : ∀ (ks : List κ) (vs : List Value), ItemsAre kd ks vs → ∀ v ∈ vs, ∀ n, ∃ c, hashByValue n v = pure c
abbrev hsh (k : List κ) : Int := tupleKeyHash kd k
def row (p : Addr × List κ) : Int × Value := (hsh kd p.2, Value.ref p.1)
structure Tb (h : Heap) (a : Addr) (L : List (Addr × List κ)) (es : Array (Int × Value)) (ep : Nat) (t : SetTable) : Prop where
  obj : ∃ o, o.ExactSet ∧ o.data = .set es ep t ∧ h.get? a = some o
  its : es.toList = L.map (row kd)
  okt : TabOk t (L.map fun p => hsh kd p.2)
  one : (L.map Prod.snd).Nodup
  key : ∀ p, p ∈ L → IsTupleKey kd h p.2 p.1
  lead : w.params.followText "set-order" = true ∨ t.led = true
  free : 5 * L.length < 3 * t.mask
  small : L.length ≤ 63
end
section
variable {P : Program} {w : World} {κ : Type} [DecidableEq κ] {kd : KeyKind P w κ} {A : Around} {E : Value → Shared → Prop} {s : Shared} {a : Addr} {L : List (Addr × List κ)} {es : Array (Int × Value)} {ep : Nat} {t : SetTable}
theorem quiet_cls (q : Quiet kd) {k : List κ} {b : Addr} {Z : Bool → Shared → Prop} (hk : IsTupleKey kd s.heap k b) (h : Z false s) : wpAny (model P w) A (ofAClassStatement 8 (.ref b)) Z E s := by
  have ty := hk.typeIs
  obtain ⟨o, xs, n, g1, g2, g3, g4⟩ := hk
  have no := q.cls k _ g4
  unfold ofAClassStatement
  refine wpAny_bind (wpAny_typeOf ty ?_)
  dsimp only
  simp only [show (("tuple" : String) == "tuple") = true by decide, if_true, Bool.not_true, Bool.false_eq_true, if_false]
  try refine wpAny_bind (wpAny_pure ?_)
  try simp only [Bool.not_true, Bool.false_eq_true, if_false]
  refine wpAny_bind (wpAny_seqItems g1 g3 ?_)
  dsimp only
  refine wpAny_bind ?_
  rw [← Array.forIn_toList]
  refine wpAny_forIn_list _ (fun more c z => c.1 = none ∧ z = s ∧ ∀ v ∈ more, ∀ n, ofAClassStatement n v = pure false) _ ?_ ?_ _ _ ⟨rfl, rfl, no⟩
  · rintro v more c z ⟨c0, rfl, all⟩
    rw [all v List.mem_cons_self]
    refine wpAny_bind (wpAny_pure ?_)
    simp only [Bool.false_eq_true, if_false]
    exact wpAny_pure ⟨rfl, rfl, fun u hu => all u (List.mem_cons_of_mem _ hu)⟩
  · rintro ⟨c1, c2⟩ z ⟨c0, rfl, _⟩
    simp only at c0
    subst c0
    exact wpAny_pure h
theorem quiet_hsv (q : Quiet kd) {k : List κ} {b : Addr} {Z : Bool → Shared → Prop} (hk : IsTupleKey kd s.heap k b) (h : ∀ c, Z c s) : wpAny (model P w) A (hashByValue 8 (.ref b)) Z E s := by
  have ty := hk.typeIs
  obtain ⟨o, xs, n, g1, g2, g3, g4⟩ := hk
  have no := q.hsv k _ g4
  unfold hashByValue
  refine wpAny_bind (wpAny_specialOf ty F.slot_tuple_hash.lookup ?_)
  refine wpAny_bind (wpAny_seqItems g1 g3 ?_)
  refine wpAny_bind ?_
  rw [← Array.forIn_toList]
  refine wpAny_forIn_list _ (fun more c z => c.1 = none ∧ z = s ∧ ∀ v ∈ more, ∀ n, ∃ c, hashByValue n v = pure c) _ ?_ ?_ _ _ ⟨rfl, rfl, no⟩
  · rintro v more c z ⟨c0, rfl, all⟩
    obtain ⟨y, hy⟩ := all v List.mem_cons_self 7
    rw [hy]
    refine wpAny_bind (wpAny_pure ?_)
    cases y with
    | true =>
      simp only [Bool.not_true, Bool.false_eq_true, if_false]
      exact wpAny_pure ⟨rfl, rfl, fun u hu => all u (List.mem_cons_of_mem _ hu)⟩
    | false =>
      simp only [Bool.not_false, if_true]
      exact wpAny_pure (wpAny_pure (h false))
  · rintro ⟨c1, c2⟩ z ⟨c0, rfl, _⟩
    simp only at c0
    subst c0
    exact wpAny_pure (h true)
theorem quiet_seen (q : Quiet kd) {k : List κ} {b : Addr} {Z : Bool → Shared → Prop} (hk : IsTupleKey kd s.heap k b) {ys : List Value} (hy : ∀ y ∈ ys, ∃ c k', IsTupleKey kd s.heap k' c ∧ y = .ref c) (h : Z false s) : wpAny (model P w) A (searchCouldBeSeen (.ref b) ys) Z E s := by
  unfold searchCouldBeSeen
  refine wpAny_bind ?_
  refine wpAny_forIn_list _ (fun more c z => c.1 = none ∧ z = s ∧ ∀ y ∈ more, ∃ c k', IsTupleKey kd s.heap k' c ∧ y = .ref c) _ ?_ ?_ _ _ ⟨rfl, rfl, hy⟩
  · rintro v more c z ⟨c0, rfl, all⟩
    obtain ⟨d, k', hd, rfl⟩ := all v List.mem_cons_self
    have on : ∀ y ∈ more, ∃ c k', IsTupleKey kd z.heap k' c ∧ y = .ref c := fun u hu => all u (List.mem_cons_of_mem _ hu)
    dsimp only
    by_cases same : (b == d || (carriedByValue (.ref b) && carriedByValue (.ref d))) = true
    · exact wp_if_pos same (wpAny_pure ⟨rfl, rfl, on⟩)
    · refine wp_if_neg same (wpAny_bind (wpAny_eqIsQuiet_tuple hk ?_))
      simp only [Bool.not_true, Bool.false_eq_true, if_false]
      refine wpAny_bind (wpAny_eqIsQuiet_tuple hd ?_)
      simp only [Bool.not_true, Bool.false_eq_true, if_false]
      refine wpAny_bind (quiet_cls q hk ?_)
      simp only [Bool.false_eq_true, if_false]
      refine wpAny_bind (quiet_cls q hd ?_)
      simp only [Bool.false_eq_true, if_false]
      exact wpAny_pure ⟨rfl, rfl, on⟩
  · rintro ⟨c1, c2⟩ z ⟨c0, rfl, _⟩
    simp only at c0
    subst c0
    exact wpAny_pure h
theorem Tb.size (R : Tb kd s.heap a L es ep t) : es.size = L.length := by
  rw [← Array.length_toList, R.its, List.length_map]
theorem Tb.psize (R : Tb kd s.heap a L es ep t) : t.place.size = L.length := by
  have := R.okt.sz
  rwa [List.length_map] at this
theorem Tb.fits (R : Tb kd s.heap a L es ep t) : t.fits es.size = true := by
  have e1 := R.psize
  have e2 := R.size
  have e3 := R.free
  unfold SetTable.fits SetTable.fill
  rw [R.okt.dm, Bool.and_eq_true, beq_iff_eq, decide_eq_true_eq]
  refine ⟨by omega, ?_⟩
  show t.place.size + 0 ≤ _
  omega
theorem Tb.at (R : Tb kd s.heap a L es ep t) {i : Nat} {p : Addr × List κ} (h : L[i]? = some p) : es[i]? = some (hsh kd p.2, Value.ref p.1) := by
  have : es.toList[i]? = some (row kd p) := by rw [R.its, List.getElem?_map, h]; rfl
  rwa [Array.getElem?_toList] at this
abbrev pb (t : SetTable) (x : Int) (c : Nat) : SetTable.Probe := nth t.mask (runAt t.mask (SetTable.bits x % (t.mask + 1)) (SetTable.bits x)) c
theorem pb_nodummy (t : SetTable) (x : Int) (c : Nat) : (pb t x c).dummy = none := by
  have all : ∀ (n : Nat) (p : SetTable.Probe), p.dummy = none → (nth t.mask p n).dummy = none := by
    intro n
    induction n with
    | zero => exact fun p h => h
    | succ n ih => exact fun p h => ih (adv t.mask p) (by unfold adv; split <;> exact h)
  exact all c _ rfl
theorem seek (q : Quiet kd) (R : Tb kd s.heap a L es ep t) {x : Addr} {k : List κ} (hx : IsTupleKey kd s.heap k x) (hu : A.units < cLine) {z : Nat} (zf : z < 10 * SetTable.turns t.mask) (zo : (pb t (hsh kd k) z).j ∉ t.place.toList) (zi : ∀ c, c < z → (pb t (hsh kd k) c).j ∈ t.place.toList)
    {Z : SetFound → Shared → Prop} (yes : k ∈ L.map Prod.snd → Z (.there none) s) (no : k ∉ L.map Prod.snd → Z (.free (pb t (hsh kd k) z).j false) s) : ∀ (f c : Nat) (stand : Option SetTable.Probe), stand.getD (t.probeStart (hsh kd k)) = pb t (hsh kd k) c → c ≤ z → z < f + c →
      (∀ (i : Nat) (p : Addr × List κ), L[i]? = some p → p.2 = k → ∃ d, c ≤ d ∧ d < z ∧ t.place.toList[i]? = some (pb t (hsh kd k) d).j) → wpAny (model P w) A (setSearchFrom a (.ref x) (hsh kd k) true f stand) Z E s := by
  intro f
  induction f with
  | zero => intro c stand _ h1 h2; omega
  | succ f ih =>
    intro c stand st cz zf' later
    obtain ⟨o, ex, dt, ob⟩ := R.obj
    have gw : ¬ t.gaveWay = true := by
      unfold SetTable.gaveWay
      rw [mask_odd R.okt.mok]
      decide
    have hash : ∀ (i : Nat) (p : Addr × List κ), L[i]? = some p → (es[i]?.map (·.1)).getD 0 = hsh kd p.2 := fun i p hp => by rw [R.at hp]; rfl
    have go : ∀ d, nth t.mask (pb t (hsh kd k) c) d = pb t (hsh kd k) (c + d) := fun d => (nth_add t.mask c _ d).symm
    rw [setSearchFrom_succ]
    refine wpAny_bind (wpAny_setState_of ob dt R.fits ?_)
    dsimp only
    refine wp_if_neg gw ?_
    try refine wpAny_bind (wpAny_pure ?_)
    have look := go_spec t R.okt.ris R.okt.dm (fun i => (es[i]?.map (·.1)).getD 0) (hsh kd k) (10 * SetTable.turns t.mask) (z - c) (pb t (hsh kd k) c) (pb_nodummy t _ c) (by omega) (fun d hd => by rw [go]; exact zi (c + d) (by omega)) (by rw [go, show c + (z - c) = z by omega]; exact zo)
    rcases look with ⟨d, i, dz, pi, hi, before, eq⟩ | ⟨before, eq⟩
    · rw [st, show t.probe (fun i => (es[i]?.map (·.1)).getD 0) (hsh kd k) (pb t (hsh kd k) c) = _ from eq]
      dsimp only
      rw [go] at pi
      have il : i < L.length := by
        have := (List.getElem?_eq_some_iff.mp pi).1
        rw [Array.length_toList, R.psize] at this
        exact this
      obtain ⟨p, hp⟩ : ∃ p, L[i]? = some p := ⟨_, List.getElem?_eq_getElem il⟩
      have pm := List.mem_of_getElem? hp
      have live : t.slot (pb t (hsh kd k) (c + d)).j = .live i := slot_live R.okt.ris pi
      have rest : wpAny (model P w) A (searchRest a (.ref x) (hsh kd k) true f es t (nth t.mask (pb t (hsh kd k) c) d).j i (nth t.mask (pb t (hsh kd k) c) (d + 1))) Z E s := by
        rw [go, go]
        unfold searchRest
        rw [R.at hp]
        dsimp only
        refine wpAny_bind (wpAny_holding (wpAny_eqBool_tuple hu (R.key p pm) hx ?_))
        refine wpAny_bind (wpAny_setState_of ob dt R.fits ?_)
        dsimp only
        by_cases pk : p.2 = k
        · exact wp_if_pos (by simp [pk]) (wpAny_pure (yes (List.mem_map.mpr ⟨p, pm, pk⟩)))
        · refine wp_if_neg (by simp [pk]) ?_
          try refine wpAny_bind (wpAny_pure ?_)
          rw [sameMem]
          dsimp only
          simp only [if_true, live, R.at hp]
          refine wpAny_bind (wpAny_isSame_ref_self (wpAny_bind (wpAny_pure ?_)))
          simp only [if_true]
          refine wp_if_neg (by simp [pk]) (ih (c + (d + 1)) _ rfl (by omega) (by omega) fun i2 p2 h2 k2 => ?_)
          obtain ⟨e, e1, e2, e3⟩ := later i2 p2 h2 k2
          have ne1 : ¬ e < c + d := fun lt => before (e - c) i2 (by omega) (by rw [go, show c + (e - c) = e by omega]; exact e3) (by rw [← k2]; exact hash i2 p2 h2)
          have ne2 : e ≠ c + d := fun ee => by
            rw [ee] at e3
            have l2 := slot_live R.okt.ris e3
            rw [live] at l2
            cases l2
            rw [hp] at h2
            cases h2
            exact pk k2
          exact ⟨e, by omega, e2, e3⟩
      by_cases led : t.led = true
      · refine wp_if_neg (by simp [led]) ?_
        try refine wpAny_bind (wpAny_pure ?_)
        exact rest
      · refine wp_if_pos (by simp [led]) (wpAny_bind (quiet_seen q hx (fun y hy => ?_) ?_))
        · obtain ⟨e, he, rfl⟩ := List.mem_map.mp hy
          have he : e ∈ es.toList := by
            have : e ∈ es ∧ e.1 = hsh kd k := by simpa using he
            simpa using this.1
          rw [R.its] at he
          obtain ⟨p2, m2, rfl⟩ := List.mem_map.mp he
          exact ⟨p2.1, p2.2, R.key p2 m2, rfl⟩
        · refine wp_if_neg (by decide) ?_
          try refine wpAny_bind (wpAny_pure ?_)
          exact rest
    · rw [st, show t.probe (fun i => (es[i]?.map (·.1)).getD 0) (hsh kd k) (pb t (hsh kd k) c) = _ from eq, go, show c + (z - c) = z by omega]
      dsimp only
      refine wpAny_pure (no fun mem => ?_)
      obtain ⟨p, pm, pk⟩ := List.mem_map.mp mem
      obtain ⟨i, hi⟩ := List.getElem?_of_mem pm
      obtain ⟨e, e1, e2, e3⟩ := later i p hi pk
      exact before (e - c) i (by omega) (by rw [go, show c + (e - c) = e by omega]; exact e3) (by rw [← pk]; exact hash i p hi)
theorem seek_all (q : Quiet kd) (R : Tb kd s.heap a L es ep t) {x : Addr} {k : List κ} (hx : IsTupleKey kd s.heap k x) (hu : A.units < cLine) {Z : SetFound → Shared → Prop} (yes : k ∈ L.map Prod.snd → Z (.there none) s)
    (no : ∀ z, k ∉ L.map Prod.snd → (pb t (hsh kd k) z).j ∉ t.place.toList → (∀ c, c < z → (pb t (hsh kd k) c).j ∈ t.place.toList) → Z (.free (pb t (hsh kd k) z).j false) s) : wpAny (model P w) A (setSearch a (.ref x) (hsh kd k) true) Z E s := by
  have fr := R.free
  obtain ⟨z, zf, zo, zi⟩ := R.okt.first (by rw [List.length_map]; omega) (hsh kd k)
  have few : 10 * SetTable.turns t.mask < 100000 := by
    unfold SetTable.turns
    rcases R.okt.mok with e | e | e <;> omega
  unfold setSearch
  refine seek q R hx hu zf zo zi yes (fun n => no z n zo zi) 100000 0 none rfl (Nat.zero_le _) (by omega) fun i p hp pk => ?_
  have il : i < t.place.toList.length := by
    rw [Array.length_toList, R.psize]
    exact (List.getElem?_eq_some_iff.mp hp).1
  obtain ⟨c, cz, ce⟩ := R.okt.before zo (i := i) (h := hsh kd k) (by rw [List.getElem?_map, hp, ← pk]; rfl) (List.getElem?_eq_getElem il)
  exact ⟨c, Nat.zero_le _, cz, by rw [List.getElem?_eq_getElem il]; exact congrArg some ce.symm⟩
theorem key_on {h h' : Heap} {k : List κ} {b : Addr} {o : Obj} (hb : IsTupleKey kd h k b) (ob : h.get? a = some o) (dt : o.data = .set es ep t) (sb : Heap.SameBut a h h') : IsTupleKey kd h' k b := by
  obtain ⟨o2, xs, n, g1, g2, g3, g4⟩ := hb
  refine ⟨o2, xs, n, ?_, g2, g3, g4⟩
  rw [sb.2 b fun e => ?_]
  · exact g1
  · rw [e, ob] at g1
    cases g1
    rw [dt] at g3
    cases g3
theorem picked (L : List (Addr × List κ)) (its : es.toList = L.map (row kd)) : ∀ l : List Nat, (∀ i ∈ l, i < L.length) → l.filterMap (fun i => es[i]?) = (l.filterMap fun i => L[i]?).map (row kd) ∧ ((l.filterMap fun i => L[i]?).map fun p => hsh kd p.2) = l.map fun i => (es.map (·.1)).getD i 0
  | [], _ => ⟨rfl, rfl⟩
  | i :: l, hl => by
    have il := hl i List.mem_cons_self
    obtain ⟨e1, e2⟩ := picked L its l fun j hj => hl j (List.mem_cons_of_mem _ hj)
    have g1 : L[i]? = some L[i] := List.getElem?_eq_getElem il
    have g2 : es[i]? = some (row kd L[i]) := by rw [← Array.getElem?_toList, its, List.getElem?_map, g1]; rfl
    refine ⟨?_, ?_⟩
    · rw [List.filterMap_cons, List.filterMap_cons, g1, g2]
      simp only [List.map_cons, e1]
    · rw [List.filterMap_cons, g1]
      simp only [List.map_cons, e2]
      congr 1
      simp [Array.getD_eq_getD_getElem?, g2, row]
theorem all_of (L : List (Addr × List κ)) : ∀ n, n ≤ L.length → (List.range n).filterMap (fun i => L[i]?) = L.take n
  | 0, _ => rfl
  | n + 1, h => by
    rw [List.range_succ, List.filterMap_append, all_of L n (by omega), List.take_succ, List.getElem?_eq_getElem (show n < L.length by omega)]
    simp [List.getElem?_eq_getElem (show n < L.length by omega)]
theorem wider {o : Obj} (ob : s.heap.get? a = some o) (ex : o.ExactSet) (dt : o.data = .set es ep t) (its : es.toList = L.map (row kd)) (okt : TabOk t (L.map fun p => hsh kd p.2)) (lm : L.length ≤ t.mask) (one : (L.map Prod.snd).Nodup) (key : ∀ p, p ∈ L → IsTupleKey kd s.heap p.2 p.1)
    (lead : w.params.followText "set-order" = true ∨ t.led = true) (small : L.length ≤ 63) {n M : Nat} (nM : SetTable.sizeAbove n - 1 = M) (hM : MaskOk M) (n128 : SetTable.sizeAbove n ≤ 128) (room : 5 * L.length < 3 * M) {Z : Unit → Shared → Prop}
    (hZ : ∀ h' L' es' ep' t', Heap.SameBut a s.heap h' → Tb kd h' a L' es' ep' t' → L'.Perm L → Z () { s with heap := h' }) : wpAny (model P w) A (setRelay a n) Z E s := by
  have sz : es.size = L.length := by rw [← Array.length_toList, its, List.length_map]
  have psz : t.place.size = L.length := by
    have := okt.sz
    rwa [List.length_map] at this
  have fit : t.fits es.size = true := by
    unfold SetTable.fits SetTable.fill
    rw [okt.dm, Bool.and_eq_true, beq_iff_eq, decide_eq_true_eq]
    refine ⟨by omega, ?_⟩
    show t.place.size + 0 ≤ _
    omega
  obtain ⟨t2, ord, e1, pm, ok2, m2, l2, p2, d2⟩ := relaid_ok t (hs := es.map (·.1)) (wanted := n) nM hM (by rw [Array.size_map, sz]; omega)
  rw [Array.size_map, sz] at pm
  obtain ⟨r1, r2⟩ := picked L its ord.toList fun i hi => List.mem_range.mp (pm.mem_iff.mp hi)
  have perm : (ord.toList.filterMap fun i => L[i]?).Perm L := by
    have := pm.filterMap fun i => L[i]?
    rwa [all_of L L.length (Nat.le_refl _), List.take_length] at this
  rw [← r2] at ok2
  have its2 : (ord.filterMap fun i => es[i]?).toList = (ord.toList.filterMap fun i => L[i]?).map (row kd) := by
    first
      | (rw [Array.toList_filterMap]; exact r1)
      | simpa using r1
  generalize (ord.toList.filterMap fun i => L[i]?) = L2 at perm ok2 its2
  have len2 := perm.length_eq
  have sz2 : (ord.filterMap fun i => es[i]?).size = es.size := by rw [← Array.length_toList, its2, List.length_map, len2, sz]
  rw [setRelay_eq]
  refine wpAny_bind (wpAny_setState_of ob dt fit ?_)
  dsimp only
  refine wp_if_neg (by rw [sizeLine_eq]; omega) ?_
  try refine wpAny_bind (wpAny_pure ?_)
  rw [e1]
  dsimp only
  refine wpAny_bind ?_
  refine wp_if_neg (by rw [sz2]; simp) ?_
  try refine wpAny_bind (wpAny_pure ?_)
  refine wpAny_pure ?_
  dsimp only
  refine wpAny_storeSet_of ob dt ?_ (by rw [sz2, sz, sizeLine_eq]; omega)
  have sb : Heap.SameBut a s.heap (s.heap.update a (Obj.putSet (ord.filterMap fun i => es[i]?) t2)) := Heap.SameBut.update ..
  refine hZ _ L2 (ord.filterMap fun i => es[i]?) (ep + 1) t2 sb ⟨⟨{ o with data := .set (ord.filterMap fun i => es[i]?) (ep + 1) t2 }, ⟨ex.1, ex.2.1, ex.2.2⟩, rfl, store_at ob dt⟩, its2, ok2, (perm.map Prod.snd).nodup_iff.mpr one, fun p hp => key_on (key p (perm.mem_iff.mp hp)) ob dt sb, by rw [l2]; exact lead, by rw [len2, m2]; exact room, by rw [len2]; exact small⟩ perm
theorem gain (q : Quiet kd) (R : Tb kd s.heap a L es ep t) {x : Addr} {k : List κ} (hx : IsTupleKey kd s.heap k x) (hu : A.units < cLine) (few : L.length < 63) {Z : Bool → Shared → Prop}
    (hZ : ∀ b h' L' es' ep' t', Heap.SameBut a s.heap h' → Tb kd h' a L' es' ep' t' → (k ∈ L.map Prod.snd → L' = L) → (k ∉ L.map Prod.snd → L'.Perm ((x, k) :: L)) → Z b { s with heap := h' }) : wpAny (model P w) A (setAddHashed a (.ref x) (hsh kd k)) Z E s := by
  obtain ⟨o, ex, dt, ob⟩ := R.obj
  have sz := R.size
  have fr := R.free
  unfold setAddHashed
  refine wpAny_holding ?_
  rw [show (100000 : Nat) = 99999 + 1 from rfl, setAddHashedIn_succ]
  refine wpAny_bind (wpAny_setState_of ob dt R.fits ?_)
  dsimp only
  refine wp_if_neg (by simp [byScan, Value.scannable]) ?_
  try refine wpAny_bind (wpAny_pure ?_)
  refine wpAny_bind (seek_all q R hx hu (fun mem => ?_) fun z new zo zi => ?_)
  · dsimp only
    exact wpAny_pure (hZ false s.heap L es ep t (Heap.SameBut.refl a s.heap) R (fun _ => rfl) fun n => absurd mem n)
  dsimp only
  refine wpAny_bind (wpAny_setState_of ob dt R.fits ?_)
  dsimp only
  obtain ⟨f1, f2, f3, f4, f5, f6, f7, f8, f9⟩ := R.okt.put zo zi
  generalize t.put (pb t (hsh kd k) z).j = tp at f1 f3 f4 f5 f6 f7 f8 f9 ⊢
  obtain ⟨t0, at1⟩ := tp
  dsimp only at f1 f3 f4 f5 f6 f7 f8 f9 ⊢
  subst f1
  -- what is said of hashes by value changes but a mark
  have mark : ∀ (c : Bool), ∃ t1 : SetTable, (if c = true then t0 else { t0 with plain := false }) = t1 ∧ t1.mask = t0.mask ∧ t1.led = t0.led ∧ t1.fill = t0.fill ∧ ∀ hs, TabOk t0 hs → TabOk t1 hs := fun c => by
    cases c with
    | true => exact ⟨t0, rfl, rfl, rfl, rfl, fun hs h => h⟩
    | false => exact ⟨{ t0 with plain := false }, rfl, rfl, rfl, rfl, fun hs h => ⟨h.ris, h.dm, h.sz, h.mok, h.bd, h.reach⟩⟩
  by_cases pl0 : t0.plain = true
  refine wp_if_pos pl0 (wpAny_bind (quiet_hsv q hx fun c => ?_))
  obtain ⟨t1, e1, mk1, mk2, mk3, mk4⟩ := mark c
  rw [e1]
  rotate_left
  refine wp_if_neg pl0 ?_
  try refine wpAny_bind (wpAny_pure ?_)
  obtain ⟨t1, e1, mk1, mk2, mk3, mk4⟩ := mark true
  rw [e1]
  all_goals
    replace f3 := mk4 _ f3
    rw [← mk1] at f4
    rw [← mk2] at f5
    rw [← mk3] at f9
    generalize SetTable.below t.place (pb t (hsh kd k) z).j = m at f2 f3 ⊢
    have perm := put_perm L m (x, k)
    have its1 : (SetTable.insertAt es m (hsh kd k, Value.ref x)).toList = (L.take m ++ (x, k) :: L.drop m).map (row kd) := by
      rw [SetTable.toList_insertAt, R.its, List.map_append, List.map_cons, List.map_take, List.map_drop]
      rfl
    have hashes : (L.take m ++ (x, k) :: L.drop m).map (fun p => hsh kd p.2) = (L.map fun p => hsh kd p.2).take m ++ hsh kd k :: (L.map fun p => hsh kd p.2).drop m := by
      rw [List.map_append, List.map_cons, List.map_take, List.map_drop]
    rw [← hashes] at f3
    generalize L.take m ++ (x, k) :: L.drop m = L1 at perm its1 f3
    have len1 : L1.length = L.length + 1 := perm.length_eq
    have one1 : (L1.map Prod.snd).Nodup := (perm.map Prod.snd).nodup_iff.mpr (List.nodup_cons.mpr ⟨new, R.one⟩)
    generalize SetTable.insertAt es m (hsh kd k, Value.ref x) = es1 at its1 ⊢
    have sz1 : es1.size = L.length + 1 := by rw [← Array.length_toList, its1, List.length_map, len1]
    refine wpAny_bind (wpAny_storeSet_of ob dt ?_ (by rw [sz1, sizeLine_eq]; omega))
    have sb : Heap.SameBut a s.heap (s.heap.update a (Obj.putSet es1 t1)) := Heap.SameBut.update ..
    have ob1 := store_at (es' := es1) (t' := t1) ob dt
    generalize s.heap.update a (Obj.putSet es1 t1) = h1 at sb ob1 ⊢
    have key1 : ∀ p, p ∈ L1 → IsTupleKey kd h1 p.2 p.1 := fun p hp => by
      rcases List.mem_cons.mp (perm.mem_iff.mp hp) with e | hp
      · rw [e]; exact key_on hx ob dt sb
      · exact key_on (R.key p hp) ob dt sb
    have lead1 : w.params.followText "set-order" = true ∨ t1.led = true := by rw [f5]; exact R.lead
    have full : t1.tooFull = true ↔ 3 * t.mask ≤ 5 * (L.length + 1) := by
      unfold SetTable.tooFull
      rw [decide_eq_true_eq, f9, List.length_map, f4]
      omega
    by_cases tf : t1.tooFull = true
    · first
        | (refine wpAny_bind ?_; refine wp_if_pos (by simp [tf]) ?_)
        | (refine wp_if_pos (by simp [tf]) ?_; refine wpAny_bind ?_)
      have tf' := full.mp tf
      rw [sz]
      have two : (t.mask = 7 ∧ L.length = 4) ∨ (t.mask = 31 ∧ L.length = 18) := by
        rcases R.okt.mok with e | e | e <;> omega
      have wide : ∀ M, SetTable.sizeAbove (SetTable.grown (L.length + 1)) - 1 = M → MaskOk M → SetTable.sizeAbove (SetTable.grown (L.length + 1)) ≤ 128 → 5 * (L.length + 1) < 3 * M →
          wpAny (model P w) A (setRelay a (SetTable.grown (L.length + 1))) (fun _ z => wpAny (model P w) A (pure true) Z E z) E { s with heap := h1 } := fun M g1 g2 g3 g4 =>
        wider (s := { s with heap := h1 }) (L := L1) ob1 ⟨ex.1, ex.2.1, ex.2.2⟩ rfl its1 f3 (by rw [len1, f4]; omega) one1 key1 lead1 (by omega) g1 g2 g3 (by rw [len1]; exact g4) fun h2 L2 es2 ep2 t2 sb2 R2 perm2 =>
          wpAny_pure (hZ true h2 L2 es2 ep2 t2 (sb.trans sb2) R2 (fun y => absurd y new) fun _ => perm2.trans perm)
      rcases two with ⟨_, e⟩ | ⟨_, e⟩
      · exact wide 31 (by rw [e, size_20]) (.inr (.inl rfl)) (by rw [e, size_20]; decide) (by omega)
      · exact wide 127 (by rw [e, size_76]) (.inr (.inr rfl)) (by rw [e, size_76]; decide) (by omega)
    · first
        | refine wp_if_neg (by simp [tf]) ?_
        | (refine wpAny_bind ?_; refine wp_if_neg (by simp [tf]) ?_; refine wpAny_pure ?_)
      have tf' : ¬ 3 * t.mask ≤ 5 * (L.length + 1) := fun z => tf (full.mpr z)
      exact wpAny_pure (hZ true h1 L1 es1 (ep + 1) t1 sb ⟨⟨{ o with data := .set es1 (ep + 1) t1 }, ⟨ex.1, ex.2.1, ex.2.2⟩, rfl, ob1⟩, its1, f3, one1, key1, lead1, by rw [len1, f4]; omega, by omega⟩ (fun y => absurd y new) fun _ => perm)
structure In (ks : List (Addr × List κ)) (i : Nat) (L : List (Addr × List κ)) : Prop where
  from_ : ∀ p, p ∈ L → p ∈ ks
  has : ∀ k, k ∈ L.map Prod.snd ↔ k ∈ (ks.take i).map Prod.snd
  le : L.length ≤ i
theorem key_keep {h h' : Heap} {k : List κ} {b : Addr} (x : IsTupleKey kd h k b) (hk : ∀ c o, h.get? c = some o → h'.get? c = some o) : IsTupleKey kd h' k b := by
  obtain ⟨o, xs, n, g, r⟩ := x
  exact ⟨o, xs, n, hk b o g, r⟩
theorem Tb.keep {h h' : Heap} (R : Tb kd h a L es ep t) (ha : ∀ o, h.get? a = some o → h'.get? a = some o) (hk : ∀ p, p ∈ L → IsTupleKey kd h' p.2 p.1) : Tb kd h' a L es ep t := by
  obtain ⟨o, r1, r2, r3⟩ := R.obj
  exact ⟨⟨o, r1, r2, ha o r3⟩, R.its, R.okt, R.one, hk, R.lead, R.free, R.small⟩
theorem taken (q : Quiet kd) {I : Addr} {fp wr : List Addr} {G : Array GenState → Array GenState → Prop} {n : Nat} {Pv : Nat → Value → Prop} {St : Nat → Shared → Prop} {Rs : Result → Shared → Prop} (W : WalksS P w A.in1 I fp wr G n Pv St) (S : Addr) (notIn : S ∉ fp) (ks : List (Addr × List κ)) (len : n = ks.length) (few : ks.length ≤ 63)
    (val : ∀ i v, Pv i v → ∃ p, ks[i]? = some p ∧ v = .ref p.1) (h0 : Heap) (key : ∀ p, p ∈ ks → IsTupleKey kd h0 p.2 p.1) (fresh : h0.get? S = none) (wfresh : ∀ b ∈ wr, h0.get? b = none) (hu : A.in1.units < cLine) : ∀ (m i : Nat) (s : Shared), i + m = n → St i s → (∀ b o, h0.get? b = some o → s.heap.get? b = some o) →
      (∃ L es ep t, Tb kd s.heap S L es ep t ∧ In ks i L) → (∀ s' L es ep t, Moved (S :: wr) G s s' → Tb kd s'.heap S L es ep t → In ks n L → (∀ b o, h0.get? b = some o → s'.heap.get? b = some o) → Rs (.ok (.ret .none)) s') → codeAny (model P w) A (.builtin "set.update.loop" ⟨[.ref S, .ref I], []⟩) Rs s := by
  have sw : S ∉ wr := fun h => notIn (W.sub _ h)
  have up : ∀ b ∈ wr, b ∈ S :: wr := fun b hb => List.mem_cons_of_mem _ hb
  have stays : ∀ {y y' : Shared}, Moved wr G y y' → (∀ b o, h0.get? b = some o → y.heap.get? b = some o) → ∀ b o, h0.get? b = some o → y'.heap.get? b = some o := fun mv kp b o e =>
    mv.heap b o (fun hb => by rw [wfresh b hb] at e; cases e) (kp b o e)
  intro m
  induction m with
  | zero =>
    intro i s im st kp ⟨L, es, ep, t, R, g⟩ done
    obtain rfl : i = n := by omega
    refine codeAny_builtin F.entry_set_update_loop ?_
    rw [Around.under_plainId F.plain_set_update_loop _]
    show wpAny _ A.in1 (pyNext (.ref I) >>= _) _ _ s
    refine wpAny_bind (W.done s _ _ st fun s' mv => ?_)
    have kp' := stays mv kp
    exact wpAny_pure (done s' L es ep t (mv.mono up) (R.keep (fun o e => mv.heap S o sw e) fun p hp => key_keep (key p (g.from_ p hp)) kp') g kp')
  | succ m ih =>
    intro i s im st kp ⟨L, es, ep, t, R, g⟩ done
    have lt : i < n := by omega
    refine codeAny_builtin F.entry_set_update_loop ?_
    rw [Around.under_plainId F.plain_set_update_loop _]
    show wpAny _ A.in1 (pyNext (.ref I) >>= _) _ _ s
    refine wpAny_bind (W.item i s _ _ lt st fun v s' pv st' mv => ?_)
    obtain ⟨p, hp, rfl⟩ := val i v pv
    have kp' := stays mv kp
    have R' : Tb kd s'.heap S L es ep t := R.keep (fun o e => mv.heap S o sw e) fun y hy => key_keep (key y (g.from_ y hy)) kp'
    have hx : IsTupleKey kd s'.heap p.2 p.1 := key_keep (key p (List.mem_of_getElem? hp)) kp'
    show wpAny _ A.in1 (holding [Value.ref p.1] (setAdd S (.ref p.1)) >>= _) _ _ s'
    refine wpAny_bind (wpAny_holding ?_)
    unfold setAdd
    refine wpAny_holding (wpAny_bind (wpAny_pyHash_tuple hu hx ?_))
    refine gain (s := { s' with toks := s'.toks + (p.2.length + 1) }) q R' hx hu (by have := g.le; omega) fun b h' L' es' ep' t' sb R2 c1 c2 => ?_
    have tk : ks.take (i + 1) = ks.take i ++ [p] := by rw [List.take_succ, hp]; rfl
    have g' : In ks (i + 1) L' := by
      by_cases c : p.2 ∈ L.map Prod.snd
      · rw [c1 c]
        refine ⟨g.from_, fun k => ?_, by have := g.le; omega⟩
        rw [tk, List.map_append, List.mem_append, ← g.has k]
        constructor
        · exact .inl
        · rintro (z | z)
          · exact z
          · have : k = p.2 := by simpa using z
            rw [this]; exact c
      · have pm := c2 c
        refine ⟨fun y hy => ?_, fun k => ?_, ?_⟩
        · rcases List.mem_cons.mp (pm.mem_iff.mp hy) with e | z
          · rw [e]; exact List.mem_of_getElem? hp
          · exact g.from_ y z
        · rw [(pm.map Prod.snd).mem_iff, List.map_cons, List.mem_cons, tk, List.map_append, List.mem_append, ← g.has k]
          constructor
          · rintro (z | z)
            · exact .inr (by simpa using z)
            · exact .inl z
          · rintro (z | z)
            · exact .inr z
            · exact .inl (by simpa using z)
        · rw [pm.length_eq, List.length_cons]
          have := g.le
          omega
    have kp2 : ∀ b o, h0.get? b = some o → h'.get? b = some o := fun b o e => (sb.2 b (fun z => by rw [z, fresh] at e; cases e)).trans (kp' b o e)
    refine wpAny_pure ⟨plainId_quiet F.plain_set_update_loop _, ih (i + 1) _ (by omega) (W.frame _ s' _ _ st' (Nat.le_add_right _ _) fun b hb o e => ?_) kp2 ⟨L', es', ep', t', R2, g'⟩ fun s'' L2 es2 ep2 t2 mv2 R3 g3 kp3 => ?_⟩
    · rw [sb.2 b (fun z : b = S => notIn (z ▸ hb))]; exact e
    · refine done s'' L2 es2 ep2 t2 (Moved.trans W.gtrans ((mv.mono up).then_heap (Nat.le_add_right _ _) fun b o hb e => ?_) mv2) R3 g3 kp3
      rw [sb.2 b (fun z : b = S => hb (by rw [z]; exact List.mem_cons_self))]; exact e
end
end MxS
namespace Pw
open PySem PySem.Spec PyProof.Rows L2
open Evl (Ex ex_l ex_t)
section
variable {X : Cx}
end
end Pw
namespace Pw
open PySem PySem.Spec PyProof.Rows L2
open Evl (Ex ex_l ex_t fresh_back)
section
variable {T : Cfg} {W : WX} {ρ : List (Option D)} {m0 : Mu} {XP : XW} {K : Out → Prop} {ta tb tc te te' : TE} {P : D → Mu → Prop} {u : TS} {μ : Mu}
def kD : Key → D
  | .inl i => .int i
  | .inr x => .str x
theorem repP_snoc {α : Type} {Hb : Hp} {gs : List (α × D)} {fs : List (α × V)} {k : α} {d : D} {v : V} (h : RepP T Hb gs fs) (r : Rep T Hb d v) : RepP T Hb (gs ++ [(k, d)]) (fs ++ [(k, v)]) := by
  have hl : gs.length = fs.length := by have := congrArg List.length h.1; simpa using this
  refine ⟨by simp [h.1], fun i g f a b => ?_⟩
  by_cases hi : i < gs.length
  · rw [List.getElem?_append_left hi] at a
    rw [List.getElem?_append_left (by omega)] at b
    exact h.2 i g f a b
  · rw [List.getElem?_append_right (by omega)] at a
    rw [List.getElem?_append_right (by omega), ← hl] at b
    cases e : i - gs.length with
    | zero => rw [e] at a b; cases a; cases b; exact r
    | succ n => rw [e] at a; simp at a
theorem rep_kD {Hb : Hp} {k : Key} {y : V} (r : Rep T Hb (kD k) y) : y = kV k := by
  cases k with
  | inl i => have r' : Rep T Hb (.int i) y := r; cases r'; rfl
  | inr i => have r' : Rep T Hb (.str i) y := r; cases r'; rfl
theorem valV_fresh {fs : List (Key × V)} {k : Key} (h : k ∉ fs.map Prod.fst) : valV fs k = none := by
  induction fs with
  | nil => rfl
  | cons p r ih =>
    rw [List.map_cons, List.mem_cons, not_or] at h
    rw [valV_neg (fun e => h.1 e.symm)]
    exact ih h.2
end
end Pw
namespace Pw
open PySem PySem.Spec PyProof.Rows L2
open Evl (Ex ex_l ex_t fresh_back)
def tNevS : TS := fun _ _ _ => False
theorem ps_nev {X : Cx} {st : Stmt} : PS X st tNevS := ⟨fun _ _ _ _ _ _ h => h.elim⟩
end Pw
namespace Pw
open PySem PySem.Spec PyProof.Rows L2
open Evl (Ex ex_l ex_t fresh_back)
theorem hu1 {k : Nat} {A : Around} (r : Room k A) : A.units + 1 < cLine := by have := r.units; omega
def valD (kvs : List (Key × D)) (k : Key) : Option D := (kvs.find? fun kv => decide (kv.1 = k)).map (·.2)
section
variable {T : Cfg} {W : WX} {ρ : List (Option D)} {m0 : Mu} {XP : XW} {K : Out → Prop} {ta tb tc te te' : TE} {P : D → Mu → Prop} {u : TS} {μ : Mu}
theorem RepP.val {Hb : Hp} {k : Key} : ∀ {gs : List (Key × D)} {fs : List (Key × V)}, RepP T Hb gs fs → (∀ d, valD gs k = some d → ∃ v, valV fs k = some v ∧ Rep T Hb d v) ∧ (valD gs k = none → valV fs k = none) := by
  intro gs
  induction gs with
  | nil =>
    intro fs h
    have e : fs = [] := by have := h.1; simpa using this.symm
    subst e
    exact ⟨fun d e => (nomatch e), fun _ => rfl⟩
  | cons g gs ih =>
    intro fs h
    cases fs with
    | nil => have := h.1; simp at this
    | cons f fs =>
      obtain ⟨h1, h2⟩ := h
      simp only [List.map_cons, List.cons.injEq] at h1
      have r0 := h2 0 g f rfl rfl
      have rt : RepP T Hb gs fs := ⟨h1.2, fun i g' f' a b => h2 (i + 1) g' f' (by simpa using a) (by simpa using b)⟩
      have ih := ih rt
      unfold valD valV at *
      rw [List.find?_cons, List.find?_cons]
      by_cases e : g.1 = k
      · have e2 : f.1 = k := by rw [← h1.1]; exact e
        rw [decide_eq_true e, decide_eq_true e2]
        exact ⟨fun d hd => by cases hd; exact ⟨_, rfl, r0⟩, fun q => (nomatch q)⟩
      · have e2 : ¬ f.1 = k := by rw [← h1.1]; exact e
        rw [decide_eq_false e, decide_eq_false e2]
        exact ih
theorem keys_rep {Hb : Hp} : ∀ ks : List Key, RepL T Hb (ks.map kD) (ks.map kV) := by
  intro ks
  induction ks with
  | nil => exact .nil
  | cons k ks ih => exact .cons (by cases k with | inl i => exact .int i | inr z => exact .str z) ih
abbrev InvX {X : Type} (R : Nat → X → List (Option D)) (J : Nat → X → Mu → Prop) : Nat → S → Prop := fun n s => ∃ x, leR (R n x) s.r ∧ J n x s.m
theorem sv_forX {X : Type} (R : Nat → X → List (Option D)) (J : Nat → X → Mu → Prop) {wi : TI} {i : Nat} (h : IV T wi W ⟨ρ, m0⟩ (fun n f μ => ∃ x0, leR (R 0 x0) ρ ∧ J 0 x0 μ ∧ (∀ k x μ', k < n → J k x μ' → SV T u W ⟨(R k x).set i (some (f k)), μ'⟩ (forK (InvX R J) k K)) ∧ ∀ s' x, leR (R n x) s'.r → J n x s'.m → K (.nx s')) (xk ⟨ρ, m0⟩ K)) : SV T (tFor wi (gName i) u) W ⟨ρ, m0⟩ K :=
  sv_for (is := [i]) (fun σ Hb H Q S q x => h σ Hb H Q S (fun j n f μ Hb' H' g ok p => q j n f μ Hb' H' g ok (by
    obtain ⟨x0, hle, j0, turn, done⟩ := p
    exact ⟨InvX R J, ⟨x0, hle, j0⟩, fun k s' hk ⟨x, hl, hj⟩ => gv_name (sv_wk (hl.set i _) sub_refl (turn k x s'.m hk hj)), fun s' ⟨x, hl, hj⟩ => done s' x hl hj⟩)) x)
theorem sv_forX2 {X : Type} (R : Nat → X → List (Option D)) (J : Nat → X → Mu → Prop) {wi : TI} {i j : Nat} (h : IV T wi W ⟨ρ, m0⟩ (fun n f μ => ∃ x0, leR (R 0 x0) ρ ∧ J 0 x0 μ ∧ (∀ k x μ', k < n → J k x μ' → ∃ y z, f k = .tup [y, z] ∧ SV T u W ⟨((R k x).set i (some y)).set j (some z), μ'⟩ (forK (InvX R J) k K)) ∧ ∀ s' x, leR (R n x) s'.r → J n x s'.m → K (.nx s')) (xk ⟨ρ, m0⟩ K)) : SV T (tFor wi (gTup T.K 2 (gCons (gName i) (gCons (gName j) gNil))) u) W ⟨ρ, m0⟩ K :=
  sv_for (is := [i] ++ ([j] ++ [])) (fun σ Hb H Q S q x => h σ Hb H Q S (fun jj n f μ Hb' H' g ok p => q jj n f μ Hb' H' g ok (by
    obtain ⟨x0, hle, j0, turn, done⟩ := p
    refine ⟨InvX R J, ⟨x0, hle, j0⟩, fun k s' hk ⟨x, hl, hj⟩ => ?_, fun s' ⟨x, hl, hj⟩ => done s' x hl hj⟩
    obtain ⟨y, z, e, t⟩ := turn k x s'.m hk hj
    rw [e]
    exact gv_tup rfl (gvs_cons (gv_name (gvs_cons (gv_name (gvs_nil (sv_wk ((hl.set _ _).set _ _) sub_refl t)))))))) x)
theorem range_succ_fm {g : Nat → Option D} {k : Nat} : (List.range (k + 1)).filterMap g = (List.range k).filterMap g ++ (g k).toList := by
  rw [List.range_succ, List.filterMap_append]
  cases e : g k <;> simp [e]
theorem ev_lcX {wi : TI} {i : Nat} {tt : TT} (h : IV T wi W ⟨ρ, m0⟩ (fun n f μ => n ≤ 100000 ∧ ∃ g : Nat → Option D, (∀ k, k < n → TV T tt (fun _ _ _ _ => False) ⟨(wipeD ρ [i]).set i (some (f k)), μ⟩ (fun b μ1 => μ1 = μ ∧ (b = true → EV T te' (fun _ _ _ _ => False) ⟨(wipeD ρ [i]).set i (some (f k)), μ⟩ (fun z μ2 => g k = some z ∧ μ2 = μ) (fun _ _ => False)) ∧ (b = false → g k = none)) (fun _ _ => False)) ∧ P (.lst ((List.range n).filterMap g)) μ) XP) : EV T (tLc wi (gName i) tt te' [i]) W ⟨ρ, m0⟩ P XP :=
  ev_lc (is := [i]) (fun _ h => h) (fun σ Hb H Q S q x => h σ Hb H Q S (fun jj n f μ Hb' H' g ok p => q jj n f μ Hb' H' g ok (by
    obtain ⟨hn, gg, turn, done⟩ := p
    refine ⟨hn, fun k acc μ' => μ' = μ ∧ acc = (List.range k).filterMap gg, ⟨rfl, by simp⟩, fun k acc μ' hk _ ⟨e1, e2⟩ => ?_, fun acc μ' ⟨e1, e2⟩ => by subst e1 e2; exact done⟩
    subst e1 e2
    refine gv_name fun σ Hb H Q S q x => turn k hk σ Hb H Q S (fun b μ1 Hb' H' g p => q b μ1 Hb' H' g ?_) x
    obtain ⟨rfl, h1, h2⟩ := p
    refine ⟨fun e => (h1 e).imp fun z μ2 ⟨e1, e2⟩ => ⟨e2, ?_⟩, fun e => ⟨rfl, ?_⟩⟩
    · rw [range_succ_fm, e1]; rfl
    · rw [range_succ_fm, h2 e]; simp)) x)
theorem ev_lcX2 {wi : TI} {i j : Nat} {tt : TT} (h : IV T wi W ⟨ρ, m0⟩ (fun n f μ => n ≤ 100000 ∧ ∃ g : Nat → Option D, (∀ k, k < n → ∃ y z, f k = .tup [y, z] ∧ TV T tt (fun _ _ _ _ => False) ⟨((wipeD ρ [i, j]).set i (some y)).set j (some z), μ⟩ (fun b μ1 => μ1 = μ ∧ (b = true → EV T te' (fun _ _ _ _ => False) ⟨((wipeD ρ [i, j]).set i (some y)).set j (some z), μ⟩ (fun z μ2 => g k = some z ∧ μ2 = μ) (fun _ _ => False)) ∧ (b = false → g k = none)) (fun _ _ => False)) ∧ P (.lst ((List.range n).filterMap g)) μ) XP) : EV T (tLc wi (gTup T.K 2 (gCons (gName i) (gCons (gName j) gNil))) tt te' [i, j]) W ⟨ρ, m0⟩ P XP :=
  ev_lc (is := [i] ++ ([j] ++ [])) (fun _ h => h) (fun σ Hb H Q S q x => h σ Hb H Q S (fun jj n f μ Hb' H' g ok p => q jj n f μ Hb' H' g ok (by
    obtain ⟨hn, gg, turn, done⟩ := p
    refine ⟨hn, fun k acc μ' => μ' = μ ∧ acc = (List.range k).filterMap gg, ⟨rfl, by simp⟩, fun k acc μ' hk _ ⟨e1, e2⟩ => ?_, fun acc μ' ⟨e1, e2⟩ => by subst e1 e2; exact done⟩
    subst e1 e2
    obtain ⟨y, z, e, t⟩ := turn k hk
    rw [e]
    refine gv_tup rfl (gvs_cons (gv_name (gvs_cons (gv_name (gvs_nil fun σ Hb H Q S q x => t σ Hb H Q S (fun b μ1 Hb' H' g p => q b μ1 Hb' H' g ?_) x)))))
    obtain ⟨rfl, h1, h2⟩ := p
    refine ⟨fun e => (h1 e).imp fun z μ2 ⟨e1, e2⟩ => ⟨e2, ?_⟩, fun e => ⟨rfl, ?_⟩⟩
    · rw [range_succ_fm, e1]; rfl
    · rw [range_succ_fm, h2 e]; simp)) x)
end
end Pw
namespace Pw
open PySem PySem.Spec PyProof.Rows L2
open Evl (Ex ex_l ex_t fresh_back)
section
variable {T : Cfg} {W : WX} {ρ : List (Option D)} {m0 : Mu} {XP : XW} {K : Out → Prop} {ta : TA} {te : TE} {P : D → Mu → Prop} {u : TS} {μ : Mu}
end
end Pw
namespace Pw
open PySem PySem.Spec PyProof.Rows L2
open Evl (Ex ex_l ex_t fresh_back)
abbrev Cls' := Value × Option Nat × (Addr → Value → Option Addr → TS)
section
variable {X : Cx} {body : List Stmt} {g₀ : ExceptHandler} {gs : List ExceptHandler} {l : List Cls'} {pos : Pos} {tb : WX → TS} {Wo : WX}
end
end Pw
namespace Pw
open PySem PySem.Spec PyProof.Rows L2
open Evl (Ex ex_l ex_t fresh_back)
section
variable {T : Cfg} {W : WX} {ρ : List (Option D)} {m0 : Mu} {XP : XW} {K : Out → Prop} {te : TE} {P : D → Mu → Prop} {u : TS} {μ : Mu} {l : List Cls'}
end
end Pw
namespace Pw
open PySem PySem.Spec PyProof.Rows L2
open Evl (Ex ex_l ex_t fresh_back)
section
variable {T : Cfg} {W : WX} {ρ : List (Option D)} {m0 : Mu} {XP : XW} {K : Out → Prop} {te te' : TE} {P : D → Mu → Prop} {u : TS} {μ : Mu} {E : XK} {ta : TA} {Hb H : Hp}
theorem ev_lcXM {wi : TI} {i : Nat} {tt : TT} (h : IV T wi W ⟨ρ, m0⟩ (fun n f μ => n ≤ 100000 ∧ ∃ g : Nat → Option D, (∀ k, k < n → TV T tt (fun _ _ _ _ => False) ⟨(wipeD ρ [i]).set i (some (f k)), μ⟩ (fun b μ1 => μ1 = μ ∧ (b = true → EV T te' (fun _ _ _ _ => False) ⟨(wipeD ρ [i]).set i (some (f k)), μ⟩ (fun z μ2 => g k = some z ∧ μ2 = μ) (fun _ _ => False)) ∧ (b = false → g k = none)) (fun _ _ => False)) ∧ ∀ p, μ p = none → P (.ptr p) (put μ p (.lst ((List.range n).filterMap g)))) XP) : EV T (tLc wi (gName i) tt te' [i]) W ⟨ρ, m0⟩ P XP :=
  ev_lcM (is := [i]) (fun _ h => h) (fun σ Hb H Q S q x => h σ Hb H Q S (fun jj n f μ Hb' H' g ok p => q jj n f μ Hb' H' g ok (by
    obtain ⟨hn, gg, turn, done⟩ := p
    refine ⟨hn, fun k acc μ' => μ' = μ ∧ acc = (List.range k).filterMap gg, ⟨rfl, by simp⟩, fun k acc μ' hk _ ⟨e1, e2⟩ => ?_, fun acc μ' p ⟨e1, e2⟩ _ hp => by subst e1 e2; exact done p hp⟩
    subst e1 e2
    refine gv_name fun σ Hb H Q S q x => turn k hk σ Hb H Q S (fun b μ1 Hb' H' g p => q b μ1 Hb' H' g ?_) x
    obtain ⟨rfl, h1, h2⟩ := p
    refine ⟨fun e => (h1 e).imp fun z μ2 ⟨e1, e2⟩ => ⟨e2, ?_⟩, fun e => ⟨rfl, ?_⟩⟩
    · rw [range_succ_fm, e1]; rfl
    · rw [range_succ_fm, h2 e]; simp)) x)
theorem sv_clear (h : EV T te W ⟨ρ, m0⟩ (fun d μ1 => ∃ a ds, d = .ptr a ∧ μ1 a = some (.lst ds) ∧ K (.nx ⟨ρ, put μ1 a (.lst [])⟩)) (xk ⟨ρ, m0⟩ K)) : SV T (tDrop (tBM0 T.K "list" rClear te)) W ⟨ρ, m0⟩ K := fun σ Hb H Dn S c =>
  h σ Hb H _ S (fun d μ1 v Hb1 H1 g1 r1 p1 => by
    obtain ⟨a, ds, rfl, hm, k⟩ := p1
    cases r1
    obtain ⟨_, o, ho, ro⟩ := g1.mu a _ hm
    cases o with
    | lst xs =>
      refine ⟨Or.inl ⟨rfl, xs, Evl.sq_of ho⟩, a, xs, rfl, rfl, ho, ?_⟩
      have g2 := Go.chg g1.sub g1.mu (o := .lst []) (z := .lst []) hm RepL.nil
      exact c.nx _ _ _ _ (g1.trans g2) (S.go (g1.trans g2)) k
    | _ => exact ro.elim) (c.x S)
abbrev rDictP (K : PySem.W.Frag) : List V → Hp → VK → Prop := fun xs H Q => ∃ (a : Addr) (ps : List Addr) (kvs : List (Key × V)), xs = [.ref a] ∧ SqL K H a (ps.map V.ref) ∧ Paired (fun p kv => SqT K H p [kV kv.1, kv.2]) ps kvs ∧ ∀ p, H p = none → Q (.ref p) (upd H p (.dK (mergeK [] kvs)))
theorem merge_nd : ∀ {more acc : List (Key × V)}, ((acc ++ more).map Prod.fst).Nodup → mergeK acc more = acc ++ more := by
  intro more
  induction more with
  | nil => intro acc _; simp [mergeK]
  | cons kv more ih =>
    intro acc h
    have hk : kv.1 ∉ acc.map Prod.fst := by
      rw [List.map_append, List.map_cons, List.nodup_append] at h
      exact fun hm => h.2.2 _ hm _ (List.mem_cons_self) rfl
    have e : mergeK acc (kv :: more) = mergeK (putK acc kv.1 kv.2) more := rfl
    rw [e, putK_new _ (valV_fresh hk), ih (by simpa using h)]
    simp
theorem pairs_rep {Hb : Hp} : ∀ {kds : List (Key × D)} {xs : List V}, RepL T Hb (kds.map fun kd => .tup [kD kd.1, kd.2]) xs → ∃ (ps : List Addr) (kvs : List (Key × V)), xs = ps.map V.ref ∧ Paired (fun p kv => SqT T.K Hb p [kV kv.1, kv.2]) ps kvs ∧ RepP T Hb kds kvs := by
  intro kds
  induction kds with
  | nil => intro xs r; exact ⟨[], [], r.nil_inv, .nil, rfl, fun i g f a _ => by simp at a⟩
  | cons kd kds ih =>
    intro xs r
    obtain ⟨v, ys, rfl, r1, r2⟩ := RepL.cons_inv (d := .tup [kD kd.1, kd.2]) (ds := kds.map fun kd => .tup [kD kd.1, kd.2]) r
    obtain ⟨ps, kvs, rfl, hp, rp⟩ := ih r2
    obtain ⟨p, zs, rfl, hs, rz⟩ := r1.tup_inv
    obtain ⟨k, w, rfl, rk, rw'⟩ := two_inv rz
    obtain rfl := rep_kD rk
    refine ⟨p :: ps, (kd.1, w) :: kvs, rfl, .cons hs hp, by simp [rp.1], fun i g f a b => ?_⟩
    cases i with
    | zero =>
      simp at a b
      subst a b
      exact rw'
    | succ i =>
      simp at a b
      exact rp.2 i g f a b
theorem Paired.sq {Hb H : Hp} (ex : Ex Hb H) {ps : List Addr} {kvs : List (Key × V)} (h : Paired (fun p kv => SqT T.K Hb p [kV kv.1, kv.2]) ps kvs) : Paired (fun p kv => SqT T.K H p [kV kv.1, kv.2]) ps kvs := by
  induction h with
  | nil => exact .nil
  | cons a _ ih => exact .cons (ex_t ex a) ih
end
end Pw
namespace Lw
open PySem PySem.Spec PyProof.Rows L2 Pw
def top (i : Nat) : Stmt := PySem.Challenge.pw_farbetween_k13_cheapest_plans.main.body.getD i (.Pass ⟨0, 0, 0, 0⟩)
abbrev s_is_whole : Stmt := (top 6)
abbrev s_common : Stmt := (top 7)
abbrev s_Share___init__ : Stmt := (inClass (top 9) 0)
abbrev s_Share___eq__ : Stmt := (inClass (top 9) 1)
abbrev s_Share___str__ : Stmt := (inClass (top 9) 2)
abbrev s_plus : Stmt := (top 10)
abbrev s_minus : Stmt := (top 11)
abbrev s_times : Stmt := (top 12)
abbrev s_less : Stmt := (top 13)
abbrev s_sum_of : Stmt := (top 14)
abbrev s_are_shares : Stmt := (top 17)
abbrev s_none_below : Stmt := (top 18)
abbrev s_is_heap : Stmt := (top 19)
abbrev s_are_rows : Stmt := (top 20)
abbrev s_is_plan : Stmt := (top 21)
abbrev s_are_prices : Stmt := (top 22)
abbrev s_costW : Stmt := (top 23)
abbrev s_brought : Stmt := (top 24)
abbrev s_multiple_of : Stmt := (top 25)
abbrev s_in_whole : Stmt := (top 26)
abbrev s_Carrying___init__ : Stmt := (inClass (top 27) 0)
abbrev s_Carrying_ways_on : Stmt := (inClass (top 27) 1)
abbrev s_Carrying_led_from : Stmt := (inClass (top 27) 2)
abbrev s_Carrying_carry_on : Stmt := (inClass (top 27) 3)
abbrev s_Carrying_carry_all : Stmt := (inClass (top 27) 4)
abbrev s_Carrying_prices : Stmt := (inClass (top 27) 5)
abbrev s_all_prices : Stmt := (top 28)
abbrev s_check_carrying : Stmt := (top 29)
abbrev s_cheapestN : Stmt := (top 30)
abbrev s_Lwell : Stmt := (top 32)
abbrev s_Ldraw : Stmt := (top 33)
abbrev s_Lone : Stmt := (top 34)
abbrev s_Llow : Stmt := (top 35)
abbrev s_Lpair : Stmt := (top 36)
abbrev s_Lheap : Stmt := (top 37)
abbrev s_LcostsW : Stmt := (top 38)
abbrev s_Lshares : Stmt := (top 39)
abbrev s_LrowsS : Stmt := (top 40)
abbrev s_Ladded : Stmt := (top 41)
abbrev s_Ltotal : Stmt := (top 42)
abbrev s_Lby : Stmt := (top 43)
abbrev s_Lbelow : Stmt := (top 44)
abbrev s_LcostG : Stmt := (top 45)
abbrev s_Lless : Stmt := (top 46)
abbrev s_Lpairs13 : Stmt := (top 47)
abbrev s_LpairsT13 : Stmt := (top 47)
abbrev s_Lplan13 : Stmt := (top 48)
abbrev s_Lprices13 : Stmt := (top 49)
abbrev s_Lright13 : Stmt := (top 50)
abbrev s_law : Stmt := (top 51)
theorem sc_is_whole : FnScope ["thing"] ["thing"] (defScope s_is_whole) := ⟨rfl, rfl, rfl, by decide +kernel, rfl, by decide +kernel, by decide +kernel⟩
theorem sc_common : FnScope ["one", "other"] ["one", "other"] (defScope s_common) := ⟨rfl, rfl, rfl, by decide +kernel, rfl, by decide +kernel, by decide +kernel⟩
theorem sc_Share___init__ : FnScope ["self", "top", "bottom", "by"] ["self", "top", "bottom"] (defScope s_Share___init__) := ⟨rfl, rfl, rfl, by decide +kernel, rfl, by decide +kernel, by decide +kernel⟩
theorem sc_Share___eq__ : FnScope ["self", "other"] ["self", "other"] (defScope s_Share___eq__) := ⟨rfl, rfl, rfl, by decide +kernel, rfl, by decide +kernel, by decide +kernel⟩
theorem sc_plus : FnScope ["one", "other"] ["one", "other"] (defScope s_plus) := ⟨rfl, rfl, rfl, by decide +kernel, rfl, by decide +kernel, by decide +kernel⟩
theorem sc_minus : FnScope ["one", "other"] ["one", "other"] (defScope s_minus) := ⟨rfl, rfl, rfl, by decide +kernel, rfl, by decide +kernel, by decide +kernel⟩
theorem sc_times : FnScope ["one", "other"] ["one", "other"] (defScope s_times) := ⟨rfl, rfl, rfl, by decide +kernel, rfl, by decide +kernel, by decide +kernel⟩
theorem sc_less : FnScope ["one", "other"] ["one", "other"] (defScope s_less) := ⟨rfl, rfl, rfl, by decide +kernel, rfl, by decide +kernel, by decide +kernel⟩
theorem sc_sum_of : FnScope ["shares", "found", "share"] ["shares"] (defScope s_sum_of) := ⟨rfl, rfl, rfl, by decide +kernel, rfl, by decide +kernel, by decide +kernel⟩
theorem sc_are_shares : FnScope ["thing", "share"] ["thing"] (defScope s_are_shares) := ⟨rfl, rfl, rfl, by decide +kernel, rfl, by decide +kernel, by decide +kernel⟩
theorem sc_none_below : FnScope ["shares", "share"] ["shares"] (defScope s_none_below) := ⟨rfl, rfl, rfl, by decide +kernel, rfl, by decide +kernel, by decide +kernel⟩
theorem sc_is_heap : FnScope ["thing"] ["thing"] (defScope s_is_heap) := ⟨rfl, rfl, rfl, by decide +kernel, rfl, by decide +kernel, by decide +kernel⟩
theorem sc_are_rows : FnScope ["thing", "many", "long", "row"] ["thing", "many", "long"] (defScope s_are_rows) := ⟨rfl, rfl, rfl, by decide +kernel, rfl, by decide +kernel, by decide +kernel⟩
theorem sc_is_plan : FnScope ["thing", "first", "second", "at", "share", "row"] ["thing", "first", "second"] (defScope s_is_plan) := ⟨rfl, rfl, rfl, by decide +kernel, rfl, by decide +kernel, by decide +kernel⟩
theorem sc_are_prices : FnScope ["thing", "costs", "here", "there", "price", "row", "some", "cost", "other"] ["thing", "costs"] (defScope s_are_prices) := ⟨rfl, rfl, rfl, by decide +kernel, rfl, by decide +kernel, by decide +kernel⟩
theorem sc_costW : FnScope ["costs", "plan", "found", "row", "amounts", "cost", "amount"] ["costs", "plan"] (defScope s_costW) := ⟨rfl, rfl, rfl, by decide +kernel, rfl, by decide +kernel, by decide +kernel⟩
theorem sc_brought : FnScope ["prices", "first", "second", "gained", "here", "there", "price", "share"] ["prices", "first", "second"] (defScope s_brought) := ⟨rfl, rfl, rfl, by decide +kernel, rfl, by decide +kernel, by decide +kernel⟩
theorem sc_multiple_of : FnScope ["shares", "by", "share"] ["shares"] (defScope s_multiple_of) := ⟨rfl, rfl, rfl, by decide +kernel, rfl, by decide +kernel, by decide +kernel⟩
theorem sc_in_whole : FnScope ["shares", "by", "share"] ["shares", "by"] (defScope s_in_whole) := ⟨rfl, rfl, rfl, by decide +kernel, rfl, by decide +kernel, by decide +kernel⟩
theorem sc_Carrying___init__ : FnScope ["self", "costs", "have", "want", "x", "y"] ["self", "costs", "have", "want"] (defScope s_Carrying___init__) := ⟨rfl, rfl, rfl, by decide +kernel, rfl, by decide +kernel, by decide +kernel⟩
theorem sc_Carrying_ways_on : FnScope ["self", "node", "side", "at", "x", "y"] ["self", "node"] (defScope s_Carrying_ways_on) := ⟨rfl, rfl, rfl, by decide +kernel, rfl, by decide +kernel, by decide +kernel⟩
theorem sc_Carrying_led_from : FnScope ["self", "begins", "found", "ahead", "waiting", "node", "to", "cost"] ["self", "begins"] (defScope s_Carrying_led_from) := ⟨rfl, rfl, rfl, by decide +kernel, rfl, by decide +kernel, by decide +kernel⟩
theorem sc_Carrying_carry_on : FnScope ["self", "ends", "row", "begin", "steps", "back", "amount", "found", "ahead", "least", "end", "node", "to", "y", "x"] ["self"] (defScope s_Carrying_carry_on) := ⟨rfl, rfl, rfl, by decide +kernel, rfl, by decide +kernel, by decide +kernel⟩
theorem sc_Carrying_carry_all : FnScope ["self", "amount"] ["self"] (defScope s_Carrying_carry_all) := ⟨rfl, rfl, rfl, by decide +kernel, rfl, by decide +kernel, by decide +kernel⟩
theorem sc_Carrying_prices : FnScope ["self", "here", "found", "ahead", "x", "y"] ["self"] (defScope s_Carrying_prices) := ⟨rfl, rfl, rfl, by decide +kernel, rfl, by decide +kernel, by decide +kernel⟩
theorem sc_all_prices : FnScope ["costs", "here", "there", "y", "some", "x", "row", "cost"] ["costs", "here", "there"] (defScope s_all_prices) := ⟨rfl, rfl, rfl, by decide +kernel, rfl, by decide +kernel, by decide +kernel⟩
theorem sc_check_carrying : FnScope ["costs", "first", "second"] ["costs", "first", "second"] (defScope s_check_carrying) := ⟨rfl, rfl, rfl, by decide +kernel, rfl, by decide +kernel, by decide +kernel⟩
theorem sc_cheapestN : FnScope ["costs", "first", "second", "by", "have", "want", "scale", "row", "whole", "carrying", "priced", "plan", "prices", "here", "there", "x", "y", "some", "amount", "price"] ["costs", "first", "second"] (defScope s_cheapestN) := ⟨rfl, rfl, rfl, by decide +kernel, rfl, by decide +kernel, by decide +kernel⟩
theorem sc_Lwell : FnScope ["_law_cell"] ["_law_cell"] (defScope s_Lwell) := ⟨rfl, rfl, rfl, by decide +kernel, rfl, by decide +kernel, by decide +kernel⟩
theorem sc_Ldraw : FnScope ["_law_well_here", "_law_many", "_law_prime", "_law_number", "_law_digit"] ["_law_well_here", "_law_many"] (defScope s_Ldraw) := ⟨rfl, rfl, rfl, by decide +kernel, rfl, by decide +kernel, by decide +kernel⟩
theorem sc_Lone : FnScope ["_law_well_here", "_law_some"] ["_law_well_here", "_law_some"] (defScope s_Lone) := ⟨rfl, rfl, rfl, by decide +kernel, rfl, by decide +kernel, by decide +kernel⟩
theorem sc_Llow : FnScope ["_law_top", "_law_bottom", "_law_one_here", "_law_other"] ["_law_top", "_law_bottom"] (defScope s_Llow) := ⟨rfl, rfl, rfl, by decide +kernel, rfl, by decide +kernel, by decide +kernel⟩
theorem sc_Lpair : FnScope ["_law_share"] ["_law_share"] (defScope s_Lpair) := ⟨rfl, rfl, rfl, by decide +kernel, rfl, by decide +kernel, by decide +kernel⟩
theorem sc_Lheap : FnScope ["_law_well_here", "_law_many", "_law_way", "_law_weights", "_law_k", "_law_at", "_law_weight", "_law_place"] ["_law_well_here", "_law_many"] (defScope s_Lheap) := ⟨rfl, rfl, rfl, by decide +kernel, rfl, by decide +kernel, by decide +kernel⟩
theorem sc_LcostsW : FnScope ["_law_well_here", "_law_here", "_law_there", "_law_most", "_law_bottom", "_law_x", "_law_y"] ["_law_well_here", "_law_here", "_law_there"] (defScope s_LcostsW) := ⟨rfl, rfl, rfl, by decide +kernel, rfl, by decide +kernel, by decide +kernel⟩
theorem sc_Lshares : FnScope ["_law_pairs_here", "_law_top", "_law_bottom"] ["_law_pairs_here"] (defScope s_Lshares) := ⟨rfl, rfl, rfl, by decide +kernel, rfl, by decide +kernel, by decide +kernel⟩
theorem sc_LrowsS : FnScope ["_law_rows_here", "_law_row"] ["_law_rows_here"] (defScope s_LrowsS) := ⟨rfl, rfl, rfl, by decide +kernel, rfl, by decide +kernel, by decide +kernel⟩
theorem sc_Ladded : FnScope ["_law_one_here", "_law_other"] ["_law_one_here", "_law_other"] (defScope s_Ladded) := ⟨rfl, rfl, rfl, by decide +kernel, rfl, by decide +kernel, by decide +kernel⟩
theorem sc_Ltotal : FnScope ["_law_pairs_here", "_law_found", "_law_pair_here"] ["_law_pairs_here"] (defScope s_Ltotal) := ⟨rfl, rfl, rfl, by decide +kernel, rfl, by decide +kernel, by decide +kernel⟩
theorem sc_Lby : FnScope ["_law_one_here", "_law_other"] ["_law_one_here", "_law_other"] (defScope s_Lby) := ⟨rfl, rfl, rfl, by decide +kernel, rfl, by decide +kernel, by decide +kernel⟩
theorem sc_Lbelow : FnScope ["_law_one_here", "_law_other"] ["_law_one_here", "_law_other"] (defScope s_Lbelow) := ⟨rfl, rfl, rfl, by decide +kernel, rfl, by decide +kernel, by decide +kernel⟩
theorem sc_LcostG : FnScope ["_law_costs_here", "_law_plan", "_law_found", "_law_row", "_law_amounts", "_law_cost_here", "_law_amount"] ["_law_costs_here", "_law_plan"] (defScope s_LcostG) := ⟨rfl, rfl, rfl, by decide +kernel, rfl, by decide +kernel, by decide +kernel⟩
theorem sc_Lless : FnScope ["_law_one_here", "_law_other"] ["_law_one_here", "_law_other"] (defScope s_Lless) := ⟨rfl, rfl, rfl, by decide +kernel, rfl, by decide +kernel, by decide +kernel⟩
theorem sc_Lpairs13 : FnScope ["_law_rows_here", "_law_row", "_law_share"] ["_law_rows_here"] (defScope s_Lpairs13) := ⟨rfl, rfl, rfl, by decide +kernel, rfl, by decide +kernel, by decide +kernel⟩
theorem sc_LpairsT13 : FnScope ["_law_rows_here", "_law_row", "_law_share"] ["_law_rows_here"] (defScope s_LpairsT13) := ⟨rfl, rfl, rfl, by decide +kernel, rfl, by decide +kernel, by decide +kernel⟩
theorem sc_Lplan13 : FnScope ["_law_plan", "_law_first", "_law_second", "_law_row", "_law_at", "_law_one_here"] ["_law_plan", "_law_first", "_law_second"] (defScope s_Lplan13) := ⟨rfl, rfl, rfl, by decide +kernel, rfl, by decide +kernel, by decide +kernel⟩
theorem sc_Lprices13 : FnScope ["_law_prices", "_law_costs_here", "_law_here", "_law_there", "_law_row", "_law_price", "_law_cost_here", "_law_other"] ["_law_prices", "_law_costs_here"] (defScope s_Lprices13) := ⟨rfl, rfl, rfl, by decide +kernel, rfl, by decide +kernel, by decide +kernel⟩
theorem sc_Lright13 : FnScope ["_law_costs_here", "_law_first", "_law_second", "_law_handed", "_law_found", "_law_gained", "_law_spent", "_law_cost_here", "_law_plan", "_law_prices", "_law_rows_here", "_law_some", "_law_price", "_law_share"] ["_law_costs_here", "_law_first", "_law_second"] (defScope s_Lright13) := ⟨rfl, rfl, rfl, by decide +kernel, rfl, by decide +kernel, by decide +kernel⟩
theorem sc_law : FnScope ["_law_script", "_law_cell", "_law_well_here", "_law_most", "_law_first", "_law_second", "_law_costs_here", "_law_found"] ["_law_script"] (defScope s_law) := ⟨rfl, rfl, rfl, by decide +kernel, rfl, by decide +kernel, by decide +kernel⟩
abbrev FnP (K : PySem.W.Frag) (x q : Str) (st : Stmt) (dvs : List V) (f : Addr) : Prop := FunD K x q (defArgs st) (defBody st) (defScope st) dvs [] f (fdOf K f)
def d_is_whole : He.DefD := ⟨("is_whole", none), "is_whole", "is_whole", defArgs s_is_whole, defBody s_is_whole, defScope s_is_whole, [], []⟩
def d_common : He.DefD := ⟨("common", none), "common", "common", defArgs s_common, defBody s_common, defScope s_common, [], []⟩
def d_Share___init__ : He.DefD := ⟨("Share", some "__init__"), "__init__", "Share.__init__", defArgs s_Share___init__, defBody s_Share___init__, defScope s_Share___init__, [.int 1], []⟩
def d_Share___eq__ : He.DefD := ⟨("Share", some "__eq__"), "__eq__", "Share.__eq__", defArgs s_Share___eq__, defBody s_Share___eq__, defScope s_Share___eq__, [], []⟩
def d_Share___str__ : He.DefD := ⟨("Share", some "__str__"), "__str__", "Share.__str__", defArgs s_Share___str__, defBody s_Share___str__, defScope s_Share___str__, [], []⟩
def d_plus : He.DefD := ⟨("plus", none), "plus", "plus", defArgs s_plus, defBody s_plus, defScope s_plus, [], []⟩
def d_minus : He.DefD := ⟨("minus", none), "minus", "minus", defArgs s_minus, defBody s_minus, defScope s_minus, [], []⟩
def d_times : He.DefD := ⟨("times", none), "times", "times", defArgs s_times, defBody s_times, defScope s_times, [], []⟩
def d_less : He.DefD := ⟨("less", none), "less", "less", defArgs s_less, defBody s_less, defScope s_less, [], []⟩
def d_sum_of : He.DefD := ⟨("sum_of", none), "sum_of", "sum_of", defArgs s_sum_of, defBody s_sum_of, defScope s_sum_of, [], []⟩
def d_are_shares : He.DefD := ⟨("are_shares", none), "are_shares", "are_shares", defArgs s_are_shares, defBody s_are_shares, defScope s_are_shares, [], []⟩
def d_none_below : He.DefD := ⟨("none_below", none), "none_below", "none_below", defArgs s_none_below, defBody s_none_below, defScope s_none_below, [], []⟩
def d_is_heap : He.DefD := ⟨("is_heap", none), "is_heap", "is_heap", defArgs s_is_heap, defBody s_is_heap, defScope s_is_heap, [], []⟩
def d_are_rows : He.DefD := ⟨("are_rows", none), "are_rows", "are_rows", defArgs s_are_rows, defBody s_are_rows, defScope s_are_rows, [], []⟩
def d_is_plan : He.DefD := ⟨("is_plan", none), "is_plan", "is_plan", defArgs s_is_plan, defBody s_is_plan, defScope s_is_plan, [], []⟩
def d_are_prices : He.DefD := ⟨("are_prices", none), "are_prices", "are_prices", defArgs s_are_prices, defBody s_are_prices, defScope s_are_prices, [], []⟩
def d_costW : He.DefD := ⟨("cost_of", none), "cost_of", "cost_of", defArgs s_costW, defBody s_costW, defScope s_costW, [], []⟩
def d_brought : He.DefD := ⟨("brought", none), "brought", "brought", defArgs s_brought, defBody s_brought, defScope s_brought, [], []⟩
def d_multiple_of : He.DefD := ⟨("multiple_of", none), "multiple_of", "multiple_of", defArgs s_multiple_of, defBody s_multiple_of, defScope s_multiple_of, [], []⟩
def d_in_whole : He.DefD := ⟨("in_whole", none), "in_whole", "in_whole", defArgs s_in_whole, defBody s_in_whole, defScope s_in_whole, [], []⟩
def d_Carrying___init__ : He.DefD := ⟨("Carrying", some "__init__"), "__init__", "Carrying.__init__", defArgs s_Carrying___init__, defBody s_Carrying___init__, defScope s_Carrying___init__, [], []⟩
def d_Carrying_ways_on : He.DefD := ⟨("Carrying", some "ways_on"), "ways_on", "Carrying.ways_on", defArgs s_Carrying_ways_on, defBody s_Carrying_ways_on, defScope s_Carrying_ways_on, [], []⟩
def d_Carrying_led_from : He.DefD := ⟨("Carrying", some "led_from"), "led_from", "Carrying.led_from", defArgs s_Carrying_led_from, defBody s_Carrying_led_from, defScope s_Carrying_led_from, [], []⟩
def d_Carrying_carry_on : He.DefD := ⟨("Carrying", some "carry_on"), "carry_on", "Carrying.carry_on", defArgs s_Carrying_carry_on, defBody s_Carrying_carry_on, defScope s_Carrying_carry_on, [], []⟩
def d_Carrying_carry_all : He.DefD := ⟨("Carrying", some "carry_all"), "carry_all", "Carrying.carry_all", defArgs s_Carrying_carry_all, defBody s_Carrying_carry_all, defScope s_Carrying_carry_all, [], []⟩
def d_Carrying_prices : He.DefD := ⟨("Carrying", some "prices"), "prices", "Carrying.prices", defArgs s_Carrying_prices, defBody s_Carrying_prices, defScope s_Carrying_prices, [], []⟩
def d_all_prices : He.DefD := ⟨("all_prices", none), "all_prices", "all_prices", defArgs s_all_prices, defBody s_all_prices, defScope s_all_prices, [], []⟩
def d_check_carrying : He.DefD := ⟨("check_carrying", none), "check_carrying", "check_carrying", defArgs s_check_carrying, defBody s_check_carrying, defScope s_check_carrying, [], []⟩
def d_cheapestN : He.DefD := ⟨("cheapest", none), "cheapest", "cheapest", defArgs s_cheapestN, defBody s_cheapestN, defScope s_cheapestN, [], []⟩
def d_Lwell : He.DefD := ⟨("_law_well", none), "_law_well", "_law_well", defArgs s_Lwell, defBody s_Lwell, defScope s_Lwell, [], []⟩
def d_Ldraw : He.DefD := ⟨("_law_draw", none), "_law_draw", "_law_draw", defArgs s_Ldraw, defBody s_Ldraw, defScope s_Ldraw, [], []⟩
def d_Lone : He.DefD := ⟨("_law_one", none), "_law_one", "_law_one", defArgs s_Lone, defBody s_Lone, defScope s_Lone, [], []⟩
def d_Llow : He.DefD := ⟨("_law_low", none), "_law_low", "_law_low", defArgs s_Llow, defBody s_Llow, defScope s_Llow, [], []⟩
def d_Lpair : He.DefD := ⟨("_law_pair", none), "_law_pair", "_law_pair", defArgs s_Lpair, defBody s_Lpair, defScope s_Lpair, [], []⟩
def d_Lheap : He.DefD := ⟨("_law_heap", none), "_law_heap", "_law_heap", defArgs s_Lheap, defBody s_Lheap, defScope s_Lheap, [], []⟩
def d_LcostsW : He.DefD := ⟨("_law_costs", none), "_law_costs", "_law_costs", defArgs s_LcostsW, defBody s_LcostsW, defScope s_LcostsW, [], []⟩
def d_Lshares : He.DefD := ⟨("_law_shares", none), "_law_shares", "_law_shares", defArgs s_Lshares, defBody s_Lshares, defScope s_Lshares, [], []⟩
def d_LrowsS : He.DefD := ⟨("_law_rows", none), "_law_rows", "_law_rows", defArgs s_LrowsS, defBody s_LrowsS, defScope s_LrowsS, [], []⟩
def d_Ladded : He.DefD := ⟨("_law_added", none), "_law_added", "_law_added", defArgs s_Ladded, defBody s_Ladded, defScope s_Ladded, [], []⟩
def d_Ltotal : He.DefD := ⟨("_law_total", none), "_law_total", "_law_total", defArgs s_Ltotal, defBody s_Ltotal, defScope s_Ltotal, [], []⟩
def d_Lby : He.DefD := ⟨("_law_by", none), "_law_by", "_law_by", defArgs s_Lby, defBody s_Lby, defScope s_Lby, [], []⟩
def d_Lbelow : He.DefD := ⟨("_law_below", none), "_law_below", "_law_below", defArgs s_Lbelow, defBody s_Lbelow, defScope s_Lbelow, [], []⟩
def d_LcostG : He.DefD := ⟨("_law_cost", none), "_law_cost", "_law_cost", defArgs s_LcostG, defBody s_LcostG, defScope s_LcostG, [], []⟩
def d_Lless : He.DefD := ⟨("_law_less", none), "_law_less", "_law_less", defArgs s_Lless, defBody s_Lless, defScope s_Lless, [], []⟩
def d_Lpairs13 : He.DefD := ⟨("_law_pairs", none), "_law_pairs", "_law_pairs", defArgs s_Lpairs13, defBody s_Lpairs13, defScope s_Lpairs13, [], []⟩
def d_LpairsT13 : He.DefD := ⟨("_law_pairs", none), "_law_pairs", "_law_pairs", defArgs s_LpairsT13, defBody s_LpairsT13, defScope s_LpairsT13, [], []⟩
def d_Lplan13 : He.DefD := ⟨("_law_plan_right", none), "_law_plan_right", "_law_plan_right", defArgs s_Lplan13, defBody s_Lplan13, defScope s_Lplan13, [], []⟩
def d_Lprices13 : He.DefD := ⟨("_law_prices_right", none), "_law_prices_right", "_law_prices_right", defArgs s_Lprices13, defBody s_Lprices13, defScope s_Lprices13, [], []⟩
def d_Lright13 : He.DefD := ⟨("_law_right", none), "_law_right", "_law_right", defArgs s_Lright13, defBody s_Lright13, defScope s_Lright13, [], []⟩
def d_law : He.DefD := ⟨("law", none), "law", "law", defArgs s_law, defBody s_law, defScope s_law, [], []⟩
def fn : List He.DefD := ([d_is_whole, d_common, d_Share___init__, d_Share___eq__, d_Share___str__, d_plus, d_minus, d_times, d_less, d_sum_of, d_are_shares, d_none_below, d_is_heap, d_are_rows, d_is_plan, d_are_prices, d_costW, d_brought, d_multiple_of, d_in_whole, d_Carrying___init__, d_Carrying_ways_on, d_Carrying_led_from, d_Carrying_carry_on, d_Carrying_carry_all, d_Carrying_prices, d_all_prices, d_check_carrying, d_cheapestN, d_Lwell] : List He.DefD) ++ ([d_Ldraw, d_Lone, d_Llow, d_Lpair, d_Lheap, d_LcostsW, d_Lshares, d_LrowsS, d_Ladded, d_Ltotal, d_Lby, d_Lbelow, d_LcostG, d_Lless, d_Lpairs13, d_LpairsT13, d_Lplan13, d_Lprices13, d_Lright13, d_law] : List He.DefD)
def fa : List He.Fa := ([.glo "is_whole", .glo "common", .glo "plus", .glo "minus", .glo "times", .glo "less", .glo "sum_of", .glo "are_shares", .glo "none_below", .glo "is_heap", .glo "are_rows", .glo "is_plan", .glo "are_prices", .glo "cost_of", .glo "brought", .glo "multiple_of", .glo "in_whole", .glo "all_prices", .glo "check_carrying", .glo "cheapest", .glo "_law_well", .glo "_law_draw", .glo "_law_one", .glo "_law_low", .glo "_law_pair", .glo "_law_heap", .glo "_law_costs", .glo "_law_shares", .glo "_law_rows", .glo "_law_added"] : List He.Fa) ++ ([.glo "_law_total", .glo "_law_by", .glo "_law_below", .glo "_law_cost", .glo "_law_less", .glo "_law_pairs", .glo "_law_plan_right", .glo "_law_prices_right", .glo "_law_right", .glo "law", .glo "FarError", .glo "NoShare", .glo "NoHeap", .glo "NoCosts", .glo "Share", .cls "Share", .mkr "Share", .noat "Share" "top", .noat "Share" "bottom", .meth "Share" "__eq__", .meth "Share" "__str__", .glo "Carrying", .cls "Carrying", .mkr "Carrying", .noat "Carrying" "costs", .noat "Carrying" "have", .noat "Carrying" "want", .noat "Carrying" "carried", .meth "Carrying" "ways_on", .meth "Carrying" "led_from"] : List He.Fa) ++ ([.meth "Carrying" "carry_on", .meth "Carrying" "carry_all", .meth "Carrying" "prices", .free "abs", .free "all", .free "any", .free "bool", .free "dict", .free "enumerate", .free "int", .free "isinstance", .free "len", .free "list", .free "max", .free "min", .free "range", .free "str", .free "sum", .free "tuple", .free "zip", .int "MOST_PLACES" 12] : List He.Fa)
def exs : List (PySem.W.Frag → Bool) := ([(fun K => decide (PySem.W.mroIn K (He.ga K "Share") (.type "object") = some true)), (fun K => He.eqO (PySem.W.findIn K (.ref (He.ga K "Share")) "__ne__") (some (some (.builtin "object.__ne__")))), (fun K => He.eqO (PySem.W.findIn K (.ref (He.ga K "Share")) "__class__") (some (some (.builtin "object.__class__")))), (fun K => He.eqO (PySem.W.specialIn K (.builtin "object.__class__") "__get__") (some (some (.builtin "getset_descriptor.__get__")))), (fun K => decide (PySem.W.takesIn K (.builtin "object.__class__") = some true)), (fun K => decide (PySem.W.subIn K (.type "NoneType") (.ref (He.ga K "Share")) = some false)), (fun K => decide (PySem.W.kitOne K (.type "NoneType") (.ref (He.ga K "Share")) = some false)), (fun K => decide (PySem.W.kitOne K (.ref (He.ga K "Share")) (.type "NoneType") = some false)), (fun K => decide (PySem.W.subIn K (.type "bool") (.ref (He.ga K "Share")) = some false)), (fun K => decide (PySem.W.kitOne K (.type "bool") (.ref (He.ga K "Share")) = some false)), (fun K => decide (PySem.W.kitOne K (.ref (He.ga K "Share")) (.type "bool") = some false)), (fun K => decide (PySem.W.subIn K (.type "int") (.ref (He.ga K "Share")) = some false)), (fun K => decide (PySem.W.kitOne K (.type "int") (.ref (He.ga K "Share")) = some false)), (fun K => decide (PySem.W.kitOne K (.ref (He.ga K "Share")) (.type "int") = some false)), (fun K => decide (PySem.W.subIn K (.type "str") (.ref (He.ga K "Share")) = some false)), (fun K => decide (PySem.W.kitOne K (.type "str") (.ref (He.ga K "Share")) = some false)), (fun K => decide (PySem.W.kitOne K (.ref (He.ga K "Share")) (.type "str") = some false)), (fun K => decide (PySem.W.subIn K (.type "list") (.ref (He.ga K "Share")) = some false)), (fun K => decide (PySem.W.kitOne K (.type "list") (.ref (He.ga K "Share")) = some false)), (fun K => decide (PySem.W.kitOne K (.ref (He.ga K "Share")) (.type "list") = some false))] : List (PySem.W.Frag → Bool)) ++ ([(fun K => decide (PySem.W.subIn K (.type "tuple") (.ref (He.ga K "Share")) = some false)), (fun K => decide (PySem.W.kitOne K (.type "tuple") (.ref (He.ga K "Share")) = some false)), (fun K => decide (PySem.W.kitOne K (.ref (He.ga K "Share")) (.type "tuple") = some false)), (fun K => decide (PySem.W.subIn K (.type "dict") (.ref (He.ga K "Share")) = some false)), (fun K => decide (PySem.W.kitOne K (.type "dict") (.ref (He.ga K "Share")) = some false)), (fun K => decide (PySem.W.kitOne K (.ref (He.ga K "Share")) (.type "dict") = some false)), (fun K => decide (PySem.W.mroIn K (He.ga K "Carrying") (.type "object") = some true)), (fun K => He.eqO (PySem.W.findIn K (.ref (He.ga K "Carrying")) "__ne__") (some (some (.builtin "object.__ne__")))), (fun K => He.eqO (PySem.W.findIn K (.ref (He.ga K "Carrying")) "__class__") (some (some (.builtin "object.__class__")))), (fun K => He.eqO (PySem.W.specialIn K (.builtin "object.__class__") "__get__") (some (some (.builtin "getset_descriptor.__get__")))), (fun K => decide (PySem.W.takesIn K (.builtin "object.__class__") = some true)), (fun K => decide (PySem.W.subIn K (.type "NoneType") (.ref (He.ga K "Carrying")) = some false)), (fun K => decide (PySem.W.kitOne K (.type "NoneType") (.ref (He.ga K "Carrying")) = some false)), (fun K => decide (PySem.W.kitOne K (.ref (He.ga K "Carrying")) (.type "NoneType") = some false)), (fun K => decide (PySem.W.subIn K (.type "bool") (.ref (He.ga K "Carrying")) = some false)), (fun K => decide (PySem.W.kitOne K (.type "bool") (.ref (He.ga K "Carrying")) = some false)), (fun K => decide (PySem.W.kitOne K (.ref (He.ga K "Carrying")) (.type "bool") = some false)), (fun K => decide (PySem.W.subIn K (.type "int") (.ref (He.ga K "Carrying")) = some false)), (fun K => decide (PySem.W.kitOne K (.type "int") (.ref (He.ga K "Carrying")) = some false)), (fun K => decide (PySem.W.kitOne K (.ref (He.ga K "Carrying")) (.type "int") = some false))] : List (PySem.W.Frag → Bool)) ++ ([(fun K => decide (PySem.W.subIn K (.type "str") (.ref (He.ga K "Carrying")) = some false)), (fun K => decide (PySem.W.kitOne K (.type "str") (.ref (He.ga K "Carrying")) = some false)), (fun K => decide (PySem.W.kitOne K (.ref (He.ga K "Carrying")) (.type "str") = some false)), (fun K => decide (PySem.W.subIn K (.type "list") (.ref (He.ga K "Carrying")) = some false)), (fun K => decide (PySem.W.kitOne K (.type "list") (.ref (He.ga K "Carrying")) = some false)), (fun K => decide (PySem.W.kitOne K (.ref (He.ga K "Carrying")) (.type "list") = some false)), (fun K => decide (PySem.W.subIn K (.type "tuple") (.ref (He.ga K "Carrying")) = some false)), (fun K => decide (PySem.W.kitOne K (.type "tuple") (.ref (He.ga K "Carrying")) = some false)), (fun K => decide (PySem.W.kitOne K (.ref (He.ga K "Carrying")) (.type "tuple") = some false)), (fun K => decide (PySem.W.subIn K (.type "dict") (.ref (He.ga K "Carrying")) = some false)), (fun K => decide (PySem.W.kitOne K (.type "dict") (.ref (He.ga K "Carrying")) = some false)), (fun K => decide (PySem.W.kitOne K (.ref (He.ga K "Carrying")) (.type "dict") = some false)), (fun K => PySem.W.excIn K (He.ga K "NoShare") He.veBase "ValueError.__new__"), (fun K => PySem.W.keepIn K (.ref (He.ga K "NoShare"))), (fun K => decide (PySem.W.subIn K (.ref (He.ga K "NoShare")) (.type "BaseException") = some true)), (fun K => decide (PySem.W.typeIn K (.ref (He.ga K "NoShare")) = some (.type "type")))] : List (PySem.W.Frag → Bool))
structure Txt (K : PySem.W.Frag) (mg : Str → Option Value) : Prop where
  F_is_whole : FnP K "is_whole" "is_whole" s_is_whole [] (He.ga K "is_whole")
  g_is_whole : mg "is_whole" = some (.ref (He.ga K "is_whole"))
  F_common : FnP K "common" "common" s_common [] (He.ga K "common")
  g_common : mg "common" = some (.ref (He.ga K "common"))
  F_Share___init__ : FnP K "__init__" "Share.__init__" s_Share___init__ [.int 1] (He.ma K (He.ga K "Share") "__init__")
  F_Share___eq__ : FnP K "__eq__" "Share.__eq__" s_Share___eq__ [] (He.ma K (He.ga K "Share") "__eq__")
  F_Share___str__ : FnP K "__str__" "Share.__str__" s_Share___str__ [] (He.ma K (He.ga K "Share") "__str__")
  F_plus : FnP K "plus" "plus" s_plus [] (He.ga K "plus")
  g_plus : mg "plus" = some (.ref (He.ga K "plus"))
  F_minus : FnP K "minus" "minus" s_minus [] (He.ga K "minus")
  g_minus : mg "minus" = some (.ref (He.ga K "minus"))
  F_times : FnP K "times" "times" s_times [] (He.ga K "times")
  g_times : mg "times" = some (.ref (He.ga K "times"))
  F_less : FnP K "less" "less" s_less [] (He.ga K "less")
  g_less : mg "less" = some (.ref (He.ga K "less"))
  F_sum_of : FnP K "sum_of" "sum_of" s_sum_of [] (He.ga K "sum_of")
  g_sum_of : mg "sum_of" = some (.ref (He.ga K "sum_of"))
  F_are_shares : FnP K "are_shares" "are_shares" s_are_shares [] (He.ga K "are_shares")
  g_are_shares : mg "are_shares" = some (.ref (He.ga K "are_shares"))
  F_none_below : FnP K "none_below" "none_below" s_none_below [] (He.ga K "none_below")
  g_none_below : mg "none_below" = some (.ref (He.ga K "none_below"))
  F_is_heap : FnP K "is_heap" "is_heap" s_is_heap [] (He.ga K "is_heap")
  g_is_heap : mg "is_heap" = some (.ref (He.ga K "is_heap"))
  F_are_rows : FnP K "are_rows" "are_rows" s_are_rows [] (He.ga K "are_rows")
  g_are_rows : mg "are_rows" = some (.ref (He.ga K "are_rows"))
  F_is_plan : FnP K "is_plan" "is_plan" s_is_plan [] (He.ga K "is_plan")
  g_is_plan : mg "is_plan" = some (.ref (He.ga K "is_plan"))
  F_are_prices : FnP K "are_prices" "are_prices" s_are_prices [] (He.ga K "are_prices")
  g_are_prices : mg "are_prices" = some (.ref (He.ga K "are_prices"))
  F_costW : FnP K "cost_of" "cost_of" s_costW [] (He.ga K "cost_of")
  g_costW : mg "cost_of" = some (.ref (He.ga K "cost_of"))
  F_brought : FnP K "brought" "brought" s_brought [] (He.ga K "brought")
  g_brought : mg "brought" = some (.ref (He.ga K "brought"))
  F_multiple_of : FnP K "multiple_of" "multiple_of" s_multiple_of [] (He.ga K "multiple_of")
  g_multiple_of : mg "multiple_of" = some (.ref (He.ga K "multiple_of"))
  F_in_whole : FnP K "in_whole" "in_whole" s_in_whole [] (He.ga K "in_whole")
  g_in_whole : mg "in_whole" = some (.ref (He.ga K "in_whole"))
  F_Carrying___init__ : FnP K "__init__" "Carrying.__init__" s_Carrying___init__ [] (He.ma K (He.ga K "Carrying") "__init__")
  F_Carrying_ways_on : FnP K "ways_on" "Carrying.ways_on" s_Carrying_ways_on [] (He.ma K (He.ga K "Carrying") "ways_on")
  F_Carrying_led_from : FnP K "led_from" "Carrying.led_from" s_Carrying_led_from [] (He.ma K (He.ga K "Carrying") "led_from")
  F_Carrying_carry_on : FnP K "carry_on" "Carrying.carry_on" s_Carrying_carry_on [] (He.ma K (He.ga K "Carrying") "carry_on")
  F_Carrying_carry_all : FnP K "carry_all" "Carrying.carry_all" s_Carrying_carry_all [] (He.ma K (He.ga K "Carrying") "carry_all")
  F_Carrying_prices : FnP K "prices" "Carrying.prices" s_Carrying_prices [] (He.ma K (He.ga K "Carrying") "prices")
  F_all_prices : FnP K "all_prices" "all_prices" s_all_prices [] (He.ga K "all_prices")
  g_all_prices : mg "all_prices" = some (.ref (He.ga K "all_prices"))
  F_check_carrying : FnP K "check_carrying" "check_carrying" s_check_carrying [] (He.ga K "check_carrying")
  g_check_carrying : mg "check_carrying" = some (.ref (He.ga K "check_carrying"))
  F_cheapestN : FnP K "cheapest" "cheapest" s_cheapestN [] (He.ga K "cheapest")
  g_cheapestN : mg "cheapest" = some (.ref (He.ga K "cheapest"))
  F_Lwell : FnP K "_law_well" "_law_well" s_Lwell [] (He.ga K "_law_well")
  g_Lwell : mg "_law_well" = some (.ref (He.ga K "_law_well"))
  F_Ldraw : FnP K "_law_draw" "_law_draw" s_Ldraw [] (He.ga K "_law_draw")
  g_Ldraw : mg "_law_draw" = some (.ref (He.ga K "_law_draw"))
  F_Lone : FnP K "_law_one" "_law_one" s_Lone [] (He.ga K "_law_one")
  g_Lone : mg "_law_one" = some (.ref (He.ga K "_law_one"))
  F_Llow : FnP K "_law_low" "_law_low" s_Llow [] (He.ga K "_law_low")
  g_Llow : mg "_law_low" = some (.ref (He.ga K "_law_low"))
  F_Lpair : FnP K "_law_pair" "_law_pair" s_Lpair [] (He.ga K "_law_pair")
  g_Lpair : mg "_law_pair" = some (.ref (He.ga K "_law_pair"))
  F_Lheap : FnP K "_law_heap" "_law_heap" s_Lheap [] (He.ga K "_law_heap")
  g_Lheap : mg "_law_heap" = some (.ref (He.ga K "_law_heap"))
  F_LcostsW : FnP K "_law_costs" "_law_costs" s_LcostsW [] (He.ga K "_law_costs")
  g_LcostsW : mg "_law_costs" = some (.ref (He.ga K "_law_costs"))
  F_Lshares : FnP K "_law_shares" "_law_shares" s_Lshares [] (He.ga K "_law_shares")
  g_Lshares : mg "_law_shares" = some (.ref (He.ga K "_law_shares"))
  F_LrowsS : FnP K "_law_rows" "_law_rows" s_LrowsS [] (He.ga K "_law_rows")
  g_LrowsS : mg "_law_rows" = some (.ref (He.ga K "_law_rows"))
  F_Ladded : FnP K "_law_added" "_law_added" s_Ladded [] (He.ga K "_law_added")
  g_Ladded : mg "_law_added" = some (.ref (He.ga K "_law_added"))
  F_Ltotal : FnP K "_law_total" "_law_total" s_Ltotal [] (He.ga K "_law_total")
  g_Ltotal : mg "_law_total" = some (.ref (He.ga K "_law_total"))
  F_Lby : FnP K "_law_by" "_law_by" s_Lby [] (He.ga K "_law_by")
  g_Lby : mg "_law_by" = some (.ref (He.ga K "_law_by"))
  F_Lbelow : FnP K "_law_below" "_law_below" s_Lbelow [] (He.ga K "_law_below")
  g_Lbelow : mg "_law_below" = some (.ref (He.ga K "_law_below"))
  F_LcostG : FnP K "_law_cost" "_law_cost" s_LcostG [] (He.ga K "_law_cost")
  g_LcostG : mg "_law_cost" = some (.ref (He.ga K "_law_cost"))
  F_Lless : FnP K "_law_less" "_law_less" s_Lless [] (He.ga K "_law_less")
  g_Lless : mg "_law_less" = some (.ref (He.ga K "_law_less"))
  F_Lpairs13 : FnP K "_law_pairs" "_law_pairs" s_Lpairs13 [] (He.ga K "_law_pairs")
  g_Lpairs13 : mg "_law_pairs" = some (.ref (He.ga K "_law_pairs"))
  F_LpairsT13 : FnP K "_law_pairs" "_law_pairs" s_LpairsT13 [] (He.ga K "_law_pairs")
  F_Lplan13 : FnP K "_law_plan_right" "_law_plan_right" s_Lplan13 [] (He.ga K "_law_plan_right")
  g_Lplan13 : mg "_law_plan_right" = some (.ref (He.ga K "_law_plan_right"))
  F_Lprices13 : FnP K "_law_prices_right" "_law_prices_right" s_Lprices13 [] (He.ga K "_law_prices_right")
  g_Lprices13 : mg "_law_prices_right" = some (.ref (He.ga K "_law_prices_right"))
  F_Lright13 : FnP K "_law_right" "_law_right" s_Lright13 [] (He.ga K "_law_right")
  g_Lright13 : mg "_law_right" = some (.ref (He.ga K "_law_right"))
  F_law : FnP K "law" "law" s_law [] (He.ga K "law")
  g_law : mg "law" = some (.ref (He.ga K "law"))
  g_FarError : mg "FarError" = some (.ref (He.ga K "FarError"))
  g_NoShare : mg "NoShare" = some (.ref (He.ga K "NoShare"))
  g_NoHeap : mg "NoHeap" = some (.ref (He.ga K "NoHeap"))
  g_NoCosts : mg "NoCosts" = some (.ref (He.ga K "NoCosts"))
  g_Share : mg "Share" = some (.ref (He.ga K "Share"))
  cl_Share : Cls K (He.ga K "Share")
  mk_Share : Mk K (He.ga K "Share") (He.ma K (He.ga K "Share") "__init__")
  na_Share_top : NoAttr K (He.ga K "Share") "top"
  na_Share_bottom : NoAttr K (He.ga K "Share") "bottom"
  m_Share__eq__ : Meth K (He.ga K "Share") "__eq__" (He.ma K (He.ga K "Share") "__eq__")
  m_Share__str__ : Meth K (He.ga K "Share") "__str__" (He.ma K (He.ga K "Share") "__str__")
  g_Carrying : mg "Carrying" = some (.ref (He.ga K "Carrying"))
  cl_Carrying : Cls K (He.ga K "Carrying")
  mk_Carrying : Mk K (He.ga K "Carrying") (He.ma K (He.ga K "Carrying") "__init__")
  na_Carrying_costs : NoAttr K (He.ga K "Carrying") "costs"
  na_Carrying_have : NoAttr K (He.ga K "Carrying") "have"
  na_Carrying_want : NoAttr K (He.ga K "Carrying") "want"
  na_Carrying_carried : NoAttr K (He.ga K "Carrying") "carried"
  m_Carryingways_on : Meth K (He.ga K "Carrying") "ways_on" (He.ma K (He.ga K "Carrying") "ways_on")
  m_Carryingled_from : Meth K (He.ga K "Carrying") "led_from" (He.ma K (He.ga K "Carrying") "led_from")
  m_Carryingcarry_on : Meth K (He.ga K "Carrying") "carry_on" (He.ma K (He.ga K "Carrying") "carry_on")
  m_Carryingcarry_all : Meth K (He.ga K "Carrying") "carry_all" (He.ma K (He.ga K "Carrying") "carry_all")
  m_Carryingprices : Meth K (He.ga K "Carrying") "prices" (He.ma K (He.ga K "Carrying") "prices")
  f_abs : mg "abs" = none
  f_all : mg "all" = none
  f_any : mg "any" = none
  f_bool : mg "bool" = none
  f_dict : mg "dict" = none
  f_enumerate : mg "enumerate" = none
  f_int : mg "int" = none
  f_isinstance : mg "isinstance" = none
  f_len : mg "len" = none
  f_list : mg "list" = none
  f_max : mg "max" = none
  f_min : mg "min" = none
  f_range : mg "range" = none
  f_str : mg "str" = none
  f_sum : mg "sum" = none
  f_tuple : mg "tuple" = none
  f_zip : mg "zip" = none
  k_MOST_PLACES : ∃ t, mg "MOST_PLACES" = some (.int 12 t)
  obj_Share : PySem.W.mroIn K (He.ga K "Share") (.type "object") = some true
  ne_Share : PySem.W.findIn K (.ref (He.ga K "Share")) "__ne__" = some (some (.builtin "object.__ne__"))
  ia_Share : PySem.W.findIn K (.ref (He.ga K "Share")) "__class__" = some (some (.builtin "object.__class__"))
  ig_Share : PySem.W.specialIn K (.builtin "object.__class__") "__get__" = some (some (.builtin "getset_descriptor.__get__"))
  it_Share : PySem.W.takesIn K (.builtin "object.__class__") = some true
  nf_Share_NoneType : PySem.W.subIn K (.type "NoneType") (.ref (He.ga K "Share")) = some false
  kit_Share_NoneType : PySem.W.kitOne K (.type "NoneType") (.ref (He.ga K "Share")) = some false
  tik_Share_NoneType : PySem.W.kitOne K (.ref (He.ga K "Share")) (.type "NoneType") = some false
  nf_Share_bool : PySem.W.subIn K (.type "bool") (.ref (He.ga K "Share")) = some false
  kit_Share_bool : PySem.W.kitOne K (.type "bool") (.ref (He.ga K "Share")) = some false
  tik_Share_bool : PySem.W.kitOne K (.ref (He.ga K "Share")) (.type "bool") = some false
  nf_Share_int : PySem.W.subIn K (.type "int") (.ref (He.ga K "Share")) = some false
  kit_Share_int : PySem.W.kitOne K (.type "int") (.ref (He.ga K "Share")) = some false
  tik_Share_int : PySem.W.kitOne K (.ref (He.ga K "Share")) (.type "int") = some false
  nf_Share_str : PySem.W.subIn K (.type "str") (.ref (He.ga K "Share")) = some false
  kit_Share_str : PySem.W.kitOne K (.type "str") (.ref (He.ga K "Share")) = some false
  tik_Share_str : PySem.W.kitOne K (.ref (He.ga K "Share")) (.type "str") = some false
  nf_Share_list : PySem.W.subIn K (.type "list") (.ref (He.ga K "Share")) = some false
  kit_Share_list : PySem.W.kitOne K (.type "list") (.ref (He.ga K "Share")) = some false
  tik_Share_list : PySem.W.kitOne K (.ref (He.ga K "Share")) (.type "list") = some false
  nf_Share_tuple : PySem.W.subIn K (.type "tuple") (.ref (He.ga K "Share")) = some false
  kit_Share_tuple : PySem.W.kitOne K (.type "tuple") (.ref (He.ga K "Share")) = some false
  tik_Share_tuple : PySem.W.kitOne K (.ref (He.ga K "Share")) (.type "tuple") = some false
  nf_Share_dict : PySem.W.subIn K (.type "dict") (.ref (He.ga K "Share")) = some false
  kit_Share_dict : PySem.W.kitOne K (.type "dict") (.ref (He.ga K "Share")) = some false
  tik_Share_dict : PySem.W.kitOne K (.ref (He.ga K "Share")) (.type "dict") = some false
  obj_Carrying : PySem.W.mroIn K (He.ga K "Carrying") (.type "object") = some true
  ne_Carrying : PySem.W.findIn K (.ref (He.ga K "Carrying")) "__ne__" = some (some (.builtin "object.__ne__"))
  ia_Carrying : PySem.W.findIn K (.ref (He.ga K "Carrying")) "__class__" = some (some (.builtin "object.__class__"))
  ig_Carrying : PySem.W.specialIn K (.builtin "object.__class__") "__get__" = some (some (.builtin "getset_descriptor.__get__"))
  it_Carrying : PySem.W.takesIn K (.builtin "object.__class__") = some true
  nf_Carrying_NoneType : PySem.W.subIn K (.type "NoneType") (.ref (He.ga K "Carrying")) = some false
  kit_Carrying_NoneType : PySem.W.kitOne K (.type "NoneType") (.ref (He.ga K "Carrying")) = some false
  tik_Carrying_NoneType : PySem.W.kitOne K (.ref (He.ga K "Carrying")) (.type "NoneType") = some false
  nf_Carrying_bool : PySem.W.subIn K (.type "bool") (.ref (He.ga K "Carrying")) = some false
  kit_Carrying_bool : PySem.W.kitOne K (.type "bool") (.ref (He.ga K "Carrying")) = some false
  tik_Carrying_bool : PySem.W.kitOne K (.ref (He.ga K "Carrying")) (.type "bool") = some false
  nf_Carrying_int : PySem.W.subIn K (.type "int") (.ref (He.ga K "Carrying")) = some false
  kit_Carrying_int : PySem.W.kitOne K (.type "int") (.ref (He.ga K "Carrying")) = some false
  tik_Carrying_int : PySem.W.kitOne K (.ref (He.ga K "Carrying")) (.type "int") = some false
  nf_Carrying_str : PySem.W.subIn K (.type "str") (.ref (He.ga K "Carrying")) = some false
  kit_Carrying_str : PySem.W.kitOne K (.type "str") (.ref (He.ga K "Carrying")) = some false
  tik_Carrying_str : PySem.W.kitOne K (.ref (He.ga K "Carrying")) (.type "str") = some false
  nf_Carrying_list : PySem.W.subIn K (.type "list") (.ref (He.ga K "Carrying")) = some false
  kit_Carrying_list : PySem.W.kitOne K (.type "list") (.ref (He.ga K "Carrying")) = some false
  tik_Carrying_list : PySem.W.kitOne K (.ref (He.ga K "Carrying")) (.type "list") = some false
  nf_Carrying_tuple : PySem.W.subIn K (.type "tuple") (.ref (He.ga K "Carrying")) = some false
  kit_Carrying_tuple : PySem.W.kitOne K (.type "tuple") (.ref (He.ga K "Carrying")) = some false
  tik_Carrying_tuple : PySem.W.kitOne K (.ref (He.ga K "Carrying")) (.type "tuple") = some false
  nf_Carrying_dict : PySem.W.subIn K (.type "dict") (.ref (He.ga K "Carrying")) = some false
  kit_Carrying_dict : PySem.W.kitOne K (.type "dict") (.ref (He.ga K "Carrying")) = some false
  tik_Carrying_dict : PySem.W.kitOne K (.ref (He.ga K "Carrying")) (.type "dict") = some false
  x0_NoShare : PySem.W.excIn K (He.ga K "NoShare") He.veBase "ValueError.__new__" = true
  x1_NoShare : PySem.W.keepIn K (.ref (He.ga K "NoShare")) = true
  x2_NoShare : PySem.W.subIn K (.ref (He.ga K "NoShare")) (.type "BaseException") = some true
  x3_NoShare : PySem.W.typeIn K (.ref (He.ga K "NoShare")) = some (.type "type")
theorem txt_of {K : PySem.W.Frag} {h : Heap} {mg : Str → Option Value} (KX : K.In h) (G : h.Ns mainGlobals mg) (c : SaysF fa fn exs K) : Txt K mg :=
  { F_is_whole := (fdOf_ok (c.def_ 0 (d := d_is_whole) rfl)),
    g_is_whole := (He.glo_ok KX G (c.fact 0 rfl)),
    F_common := (fdOf_ok (c.def_ 1 (d := d_common) rfl)),
    g_common := (He.glo_ok KX G (c.fact 1 rfl)),
    F_Share___init__ := (fdOf_ok (c.def_ 2 (d := d_Share___init__) rfl)),
    F_Share___eq__ := (fdOf_ok (c.def_ 3 (d := d_Share___eq__) rfl)),
    F_Share___str__ := (fdOf_ok (c.def_ 4 (d := d_Share___str__) rfl)),
    F_plus := (fdOf_ok (c.def_ 5 (d := d_plus) rfl)),
    g_plus := (He.glo_ok KX G (c.fact 2 rfl)),
    F_minus := (fdOf_ok (c.def_ 6 (d := d_minus) rfl)),
    g_minus := (He.glo_ok KX G (c.fact 3 rfl)),
    F_times := (fdOf_ok (c.def_ 7 (d := d_times) rfl)),
    g_times := (He.glo_ok KX G (c.fact 4 rfl)),
    F_less := (fdOf_ok (c.def_ 8 (d := d_less) rfl)),
    g_less := (He.glo_ok KX G (c.fact 5 rfl)),
    F_sum_of := (fdOf_ok (c.def_ 9 (d := d_sum_of) rfl)),
    g_sum_of := (He.glo_ok KX G (c.fact 6 rfl)),
    F_are_shares := (fdOf_ok (c.def_ 10 (d := d_are_shares) rfl)),
    g_are_shares := (He.glo_ok KX G (c.fact 7 rfl)),
    F_none_below := (fdOf_ok (c.def_ 11 (d := d_none_below) rfl)),
    g_none_below := (He.glo_ok KX G (c.fact 8 rfl)),
    F_is_heap := (fdOf_ok (c.def_ 12 (d := d_is_heap) rfl)),
    g_is_heap := (He.glo_ok KX G (c.fact 9 rfl)),
    F_are_rows := (fdOf_ok (c.def_ 13 (d := d_are_rows) rfl)),
    g_are_rows := (He.glo_ok KX G (c.fact 10 rfl)),
    F_is_plan := (fdOf_ok (c.def_ 14 (d := d_is_plan) rfl)),
    g_is_plan := (He.glo_ok KX G (c.fact 11 rfl)),
    F_are_prices := (fdOf_ok (c.def_ 15 (d := d_are_prices) rfl)),
    g_are_prices := (He.glo_ok KX G (c.fact 12 rfl)),
    F_costW := (fdOf_ok (c.def_ 16 (d := d_costW) rfl)),
    g_costW := (He.glo_ok KX G (c.fact 13 rfl)),
    F_brought := (fdOf_ok (c.def_ 17 (d := d_brought) rfl)),
    g_brought := (He.glo_ok KX G (c.fact 14 rfl)),
    F_multiple_of := (fdOf_ok (c.def_ 18 (d := d_multiple_of) rfl)),
    g_multiple_of := (He.glo_ok KX G (c.fact 15 rfl)),
    F_in_whole := (fdOf_ok (c.def_ 19 (d := d_in_whole) rfl)),
    g_in_whole := (He.glo_ok KX G (c.fact 16 rfl)),
    F_Carrying___init__ := (fdOf_ok (c.def_ 20 (d := d_Carrying___init__) rfl)),
    F_Carrying_ways_on := (fdOf_ok (c.def_ 21 (d := d_Carrying_ways_on) rfl)),
    F_Carrying_led_from := (fdOf_ok (c.def_ 22 (d := d_Carrying_led_from) rfl)),
    F_Carrying_carry_on := (fdOf_ok (c.def_ 23 (d := d_Carrying_carry_on) rfl)),
    F_Carrying_carry_all := (fdOf_ok (c.def_ 24 (d := d_Carrying_carry_all) rfl)),
    F_Carrying_prices := (fdOf_ok (c.def_ 25 (d := d_Carrying_prices) rfl)),
    F_all_prices := (fdOf_ok (c.def_ 26 (d := d_all_prices) rfl)),
    g_all_prices := (He.glo_ok KX G (c.fact 17 rfl)),
    F_check_carrying := (fdOf_ok (c.def_ 27 (d := d_check_carrying) rfl)),
    g_check_carrying := (He.glo_ok KX G (c.fact 18 rfl)),
    F_cheapestN := (fdOf_ok (c.def_ 28 (d := d_cheapestN) rfl)),
    g_cheapestN := (He.glo_ok KX G (c.fact 19 rfl)),
    F_Lwell := (fdOf_ok (c.def_ 29 (d := d_Lwell) rfl)),
    g_Lwell := (He.glo_ok KX G (c.fact 20 rfl)),
    F_Ldraw := (fdOf_ok (c.def_ 30 (d := d_Ldraw) rfl)),
    g_Ldraw := (He.glo_ok KX G (c.fact 21 rfl)),
    F_Lone := (fdOf_ok (c.def_ 31 (d := d_Lone) rfl)),
    g_Lone := (He.glo_ok KX G (c.fact 22 rfl)),
    F_Llow := (fdOf_ok (c.def_ 32 (d := d_Llow) rfl)),
    g_Llow := (He.glo_ok KX G (c.fact 23 rfl)),
    F_Lpair := (fdOf_ok (c.def_ 33 (d := d_Lpair) rfl)),
    g_Lpair := (He.glo_ok KX G (c.fact 24 rfl)),
    F_Lheap := (fdOf_ok (c.def_ 34 (d := d_Lheap) rfl)),
    g_Lheap := (He.glo_ok KX G (c.fact 25 rfl)),
    F_LcostsW := (fdOf_ok (c.def_ 35 (d := d_LcostsW) rfl)),
    g_LcostsW := (He.glo_ok KX G (c.fact 26 rfl)),
    F_Lshares := (fdOf_ok (c.def_ 36 (d := d_Lshares) rfl)),
    g_Lshares := (He.glo_ok KX G (c.fact 27 rfl)),
    F_LrowsS := (fdOf_ok (c.def_ 37 (d := d_LrowsS) rfl)),
    g_LrowsS := (He.glo_ok KX G (c.fact 28 rfl)),
    F_Ladded := (fdOf_ok (c.def_ 38 (d := d_Ladded) rfl)),
    g_Ladded := (He.glo_ok KX G (c.fact 29 rfl)),
    F_Ltotal := (fdOf_ok (c.def_ 39 (d := d_Ltotal) rfl)),
    g_Ltotal := (He.glo_ok KX G (c.fact 30 rfl)),
    F_Lby := (fdOf_ok (c.def_ 40 (d := d_Lby) rfl)),
    g_Lby := (He.glo_ok KX G (c.fact 31 rfl)),
    F_Lbelow := (fdOf_ok (c.def_ 41 (d := d_Lbelow) rfl)),
    g_Lbelow := (He.glo_ok KX G (c.fact 32 rfl)),
    F_LcostG := (fdOf_ok (c.def_ 42 (d := d_LcostG) rfl)),
    g_LcostG := (He.glo_ok KX G (c.fact 33 rfl)),
    F_Lless := (fdOf_ok (c.def_ 43 (d := d_Lless) rfl)),
    g_Lless := (He.glo_ok KX G (c.fact 34 rfl)),
    F_Lpairs13 := (fdOf_ok (c.def_ 44 (d := d_Lpairs13) rfl)),
    g_Lpairs13 := (He.glo_ok KX G (c.fact 35 rfl)),
    F_LpairsT13 := (fdOf_ok (c.def_ 45 (d := d_LpairsT13) rfl)),
    F_Lplan13 := (fdOf_ok (c.def_ 46 (d := d_Lplan13) rfl)),
    g_Lplan13 := (He.glo_ok KX G (c.fact 36 rfl)),
    F_Lprices13 := (fdOf_ok (c.def_ 47 (d := d_Lprices13) rfl)),
    g_Lprices13 := (He.glo_ok KX G (c.fact 37 rfl)),
    F_Lright13 := (fdOf_ok (c.def_ 48 (d := d_Lright13) rfl)),
    g_Lright13 := (He.glo_ok KX G (c.fact 38 rfl)),
    F_law := (fdOf_ok (c.def_ 49 (d := d_law) rfl)),
    g_law := (He.glo_ok KX G (c.fact 39 rfl)),
    g_FarError := (He.glo_ok KX G (c.fact 40 rfl)),
    g_NoShare := (He.glo_ok KX G (c.fact 41 rfl)),
    g_NoHeap := (He.glo_ok KX G (c.fact 42 rfl)),
    g_NoCosts := (He.glo_ok KX G (c.fact 43 rfl)),
    g_Share := (He.glo_ok KX G (c.fact 44 rfl)),
    cl_Share := (He.cls_ok (c.fact 45 rfl)),
    mk_Share := (He.mkr_ok (c.fact 46 rfl)),
    na_Share_top := (He.noat_ok (c.fact 47 rfl)),
    na_Share_bottom := (He.noat_ok (c.fact 48 rfl)),
    m_Share__eq__ := (He.meth_ok (c.fact 49 rfl)),
    m_Share__str__ := (He.meth_ok (c.fact 50 rfl)),
    g_Carrying := (He.glo_ok KX G (c.fact 51 rfl)),
    cl_Carrying := (He.cls_ok (c.fact 52 rfl)),
    mk_Carrying := (He.mkr_ok (c.fact 53 rfl)),
    na_Carrying_costs := (He.noat_ok (c.fact 54 rfl)),
    na_Carrying_have := (He.noat_ok (c.fact 55 rfl)),
    na_Carrying_want := (He.noat_ok (c.fact 56 rfl)),
    na_Carrying_carried := (He.noat_ok (c.fact 57 rfl)),
    m_Carryingways_on := (He.meth_ok (c.fact 58 rfl)),
    m_Carryingled_from := (He.meth_ok (c.fact 59 rfl)),
    m_Carryingcarry_on := (He.meth_ok (c.fact 60 rfl)),
    m_Carryingcarry_all := (He.meth_ok (c.fact 61 rfl)),
    m_Carryingprices := (He.meth_ok (c.fact 62 rfl)),
    f_abs := (He.free_ok KX G (c.fact 63 rfl)),
    f_all := (He.free_ok KX G (c.fact 64 rfl)),
    f_any := (He.free_ok KX G (c.fact 65 rfl)),
    f_bool := (He.free_ok KX G (c.fact 66 rfl)),
    f_dict := (He.free_ok KX G (c.fact 67 rfl)),
    f_enumerate := (He.free_ok KX G (c.fact 68 rfl)),
    f_int := (He.free_ok KX G (c.fact 69 rfl)),
    f_isinstance := (He.free_ok KX G (c.fact 70 rfl)),
    f_len := (He.free_ok KX G (c.fact 71 rfl)),
    f_list := (He.free_ok KX G (c.fact 72 rfl)),
    f_max := (He.free_ok KX G (c.fact 73 rfl)),
    f_min := (He.free_ok KX G (c.fact 74 rfl)),
    f_range := (He.free_ok KX G (c.fact 75 rfl)),
    f_str := (He.free_ok KX G (c.fact 76 rfl)),
    f_sum := (He.free_ok KX G (c.fact 77 rfl)),
    f_tuple := (He.free_ok KX G (c.fact 78 rfl)),
    f_zip := (He.free_ok KX G (c.fact 79 rfl)),
    k_MOST_PLACES := (He.int_ok KX G (c.fact 80 rfl)),
    obj_Share := (of_decide_eq_true (c.ex_ 0 rfl)),
    ne_Share := (He.eqO_ok (c.ex_ 1 rfl)),
    ia_Share := (He.eqO_ok (c.ex_ 2 rfl)),
    ig_Share := (He.eqO_ok (c.ex_ 3 rfl)),
    it_Share := (of_decide_eq_true (c.ex_ 4 rfl)),
    nf_Share_NoneType := (of_decide_eq_true (c.ex_ 5 rfl)),
    kit_Share_NoneType := (of_decide_eq_true (c.ex_ 6 rfl)),
    tik_Share_NoneType := (of_decide_eq_true (c.ex_ 7 rfl)),
    nf_Share_bool := (of_decide_eq_true (c.ex_ 8 rfl)),
    kit_Share_bool := (of_decide_eq_true (c.ex_ 9 rfl)),
    tik_Share_bool := (of_decide_eq_true (c.ex_ 10 rfl)),
    nf_Share_int := (of_decide_eq_true (c.ex_ 11 rfl)),
    kit_Share_int := (of_decide_eq_true (c.ex_ 12 rfl)),
    tik_Share_int := (of_decide_eq_true (c.ex_ 13 rfl)),
    nf_Share_str := (of_decide_eq_true (c.ex_ 14 rfl)),
    kit_Share_str := (of_decide_eq_true (c.ex_ 15 rfl)),
    tik_Share_str := (of_decide_eq_true (c.ex_ 16 rfl)),
    nf_Share_list := (of_decide_eq_true (c.ex_ 17 rfl)),
    kit_Share_list := (of_decide_eq_true (c.ex_ 18 rfl)),
    tik_Share_list := (of_decide_eq_true (c.ex_ 19 rfl)),
    nf_Share_tuple := (of_decide_eq_true (c.ex_ 20 rfl)),
    kit_Share_tuple := (of_decide_eq_true (c.ex_ 21 rfl)),
    tik_Share_tuple := (of_decide_eq_true (c.ex_ 22 rfl)),
    nf_Share_dict := (of_decide_eq_true (c.ex_ 23 rfl)),
    kit_Share_dict := (of_decide_eq_true (c.ex_ 24 rfl)),
    tik_Share_dict := (of_decide_eq_true (c.ex_ 25 rfl)),
    obj_Carrying := (of_decide_eq_true (c.ex_ 26 rfl)),
    ne_Carrying := (He.eqO_ok (c.ex_ 27 rfl)),
    ia_Carrying := (He.eqO_ok (c.ex_ 28 rfl)),
    ig_Carrying := (He.eqO_ok (c.ex_ 29 rfl)),
    it_Carrying := (of_decide_eq_true (c.ex_ 30 rfl)),
    nf_Carrying_NoneType := (of_decide_eq_true (c.ex_ 31 rfl)),
    kit_Carrying_NoneType := (of_decide_eq_true (c.ex_ 32 rfl)),
    tik_Carrying_NoneType := (of_decide_eq_true (c.ex_ 33 rfl)),
    nf_Carrying_bool := (of_decide_eq_true (c.ex_ 34 rfl)),
    kit_Carrying_bool := (of_decide_eq_true (c.ex_ 35 rfl)),
    tik_Carrying_bool := (of_decide_eq_true (c.ex_ 36 rfl)),
    nf_Carrying_int := (of_decide_eq_true (c.ex_ 37 rfl)),
    kit_Carrying_int := (of_decide_eq_true (c.ex_ 38 rfl)),
    tik_Carrying_int := (of_decide_eq_true (c.ex_ 39 rfl)),
    nf_Carrying_str := (of_decide_eq_true (c.ex_ 40 rfl)),
    kit_Carrying_str := (of_decide_eq_true (c.ex_ 41 rfl)),
    tik_Carrying_str := (of_decide_eq_true (c.ex_ 42 rfl)),
    nf_Carrying_list := (of_decide_eq_true (c.ex_ 43 rfl)),
    kit_Carrying_list := (of_decide_eq_true (c.ex_ 44 rfl)),
    tik_Carrying_list := (of_decide_eq_true (c.ex_ 45 rfl)),
    nf_Carrying_tuple := (of_decide_eq_true (c.ex_ 46 rfl)),
    kit_Carrying_tuple := (of_decide_eq_true (c.ex_ 47 rfl)),
    tik_Carrying_tuple := (of_decide_eq_true (c.ex_ 48 rfl)),
    nf_Carrying_dict := (of_decide_eq_true (c.ex_ 49 rfl)),
    kit_Carrying_dict := (of_decide_eq_true (c.ex_ 50 rfl)),
    tik_Carrying_dict := (of_decide_eq_true (c.ex_ 51 rfl)),
    x0_NoShare := (id (c.ex_ 52 rfl)),
    x1_NoShare := (id (c.ex_ 53 rfl)),
    x2_NoShare := (of_decide_eq_true (c.ex_ 54 rfl)),
    x3_NoShare := (of_decide_eq_true (c.ex_ 55 rfl)) }
abbrev R : PySem.W.OpenRow := PySem.W.OpenLaw.row PySem.Challenge.rw_farbetween_k13_cheapest_plans
abbrev hk : PySem.W.Hook := hookF 5 fa fn exs
def ob (s : PySem.W.SharedT) : AlF := obsFG 5 fa fn exs (HandSHeadRun.getT s)
theorem ob_eq (s : PySem.W.SharedT) : ob s = hk.obs s.abs := obsFG_eq (HandSHeadRun.getT_eq s)
def loose : List Str := (["FarError", "NoShare", "NoHeap", "NoCosts", "Share", "Carrying", "is_whole", "common", "plus", "minus", "times", "less", "sum_of", "are_shares", "none_below", "is_heap", "are_rows", "is_plan", "are_prices", "cost_of", "brought", "multiple_of", "in_whole", "all_prices", "check_carrying", "cheapest", "_law_well", "_law_draw", "_law_one", "_law_low"] : List Str) ++ (["_law_pair", "_law_heap", "_law_costs", "_law_shares", "_law_rows", "_law_added", "_law_total", "_law_by", "_law_below", "_law_cost", "_law_less", "_law_pairs", "_law_plan_right", "_law_prices_right", "_law_right", "MOST_PLACES"] : List Str)
theorem run (w : World) : HandSHeadRun.RunEq R (PySem.W.view R.prog [51]) hk ob 6000 loose w := by
  intro os
  kernel_rfl
end Lw
--HEAD--
namespace Pw
open PySem PySem.Spec PySem.Calls PyProof.Rows L2
open Evl (Ex ex_l ex_t fresh_back)
section
variable {X : Cx} {CX : CXT} {n : Nat} {f C : Addr} {fd : FuncData} {ps : List Str} {sp : Sp} {E : XK}
end
section
variable {T : Cfg} {W : WX} {ρ : List (Option D)} {m0 : Mu} {XP : XW} {K : Out → Prop} {te : TE} {P : D → Mu → Prop} {μ : Mu}
end
end Pw
namespace Pw
open PySem PySem.Spec PyProof.Rows L2
open Evl (Ex ex_l ex_t fresh_back)
section
variable {T : Cfg} {W : WX} {ρ : List (Option D)} {m0 : Mu} {XP : XW} {K : Out → Prop} {te : TE} {ta : TA} {P : D → Mu → Prop} {μ : Mu} {E : XK}
theorem Sim.fr {r : List (Option D)} {m m' : Mu} {σ : L2.St} {Hb H : Hp} (S : Sim T ⟨r, m⟩ σ Hb H) (h : SimMu T m' Hb H) : Sim T ⟨r, m'⟩ σ Hb H := ⟨S.len, S.vars, S.sub, h⟩
theorem ev_lcOF {i sl : Nat} {a : Addr} {ds : List D} {f : D → D} {te' : TE} (hvar : ρ[sl]? = some (some (.ptr a))) (hmem : m0 a = some (.lst ds)) (hn : ds.length ≤ 100000)
    (turn : ∀ e ∈ ds, EV T te' (fun _ _ _ _ => False) ⟨(wipeD ρ [i]).set i (some e), m0⟩ (fun x μ' => x = f e ∧ μ' = m0) (fun _ _ => False)) (done : P (.lst (ds.map f)) m0) : EV T (tLc (iList T.K (tVar sl)) (gName i) tYes te' [i]) W ⟨ρ, m0⟩ P XP :=
  ev_lcO (is := [i]) (I := fun n acc μ' => μ' = m0 ∧ acc = (ds.take n).map f) hvar hmem (fun _ h => h) hn ⟨rfl, by simp⟩ (fun n acc μ' ⟨e1, _⟩ => by rw [e1]; exact hmem) (fun n acc μ' hn _ ⟨e1, e2⟩ => by
    subst e1 e2
    have hm : nth ds n ∈ ds := List.mem_of_getElem? (nth_get hn)
    refine gv_name (tv_yes ⟨fun _ => ?_, fun e => (nomatch e)⟩)
    refine (turn _ hm).imp fun x μ2 ⟨e1, e2⟩ => ⟨e2, ?_⟩
    rw [e1, List.take_succ, nth_get hn]
    simp) (fun acc μ' ⟨e1, e2⟩ => by
    subst e1 e2
    simpa using done)
end
end Pw
namespace Pw
open PySem PySem.Spec PyProof.Rows L2
open Evl (Ex ex_l ex_t fresh_back)
end Pw
namespace Pw
open PySem PySem.Spec PyProof.Rows L2
open Evl (Ex ex_l ex_t fresh_back)
def rDictT (K : PySem.W.Frag) : List V → Hp → VK → Prop := fun xs H Q => ∃ (a : Addr) (ps : List (Addr × Addr)) (kvs : List (List Key × V)), xs = [.ref a] ∧ SqL K H a (ps.map fun p => V.ref p.1) ∧
  Paired (fun p kv => SqT K H p.1 [.ref p.2, kv.2] ∧ H p.2 = some (.tup (kv.1.map kV))) ps kvs ∧ (kvs.map Prod.fst).Nodup ∧ ∀ p od, H p = none → Q (.ref p) (upd H p (.frz od (.dT kvs)))
section
variable {X : Cx}
theorem rows_of {pins : List (Addr × Obj)} {σ : L2.St} {H : Hp} {s : Shared} (I : Inv X pins σ H s) {ps : List (Addr × Addr)} {kvs : List (List Key × V)}
    (h : Paired (fun p kv => SqT X.K H p.1 [.ref p.2, kv.2] ∧ H p.2 = some (.tup (kv.1.map kV))) ps kvs) :
    ∃ rs : List (List Key × Addr × Value), KT H kvs rs ∧ rs.length = ps.length ∧ ∀ (j : Nat) (r : List Key × Addr × Value), rs[j]? = some r → ∃ p : Addr × Addr, ps[j]? = some p ∧ IsTup s.heap p.1 #[.ref r.2.1, r.2.2] ∧ H r.2.1 = some (.tup (r.1.map kV)) := by
  induction h with
  | nil => exact ⟨[], .nil, rfl, fun j r e => by simp at e⟩
  | @cons p kv ps kvs hd tl ih =>
    obtain ⟨rs, k, l, all⟩ := ih
    obtain ⟨its, rv, tp, _⟩ := I.tuple hd.1
    obtain ⟨u, y, ei, ru, ry⟩ := vals2 rv
    subst ei
    cases ru
    refine ⟨(kv.1, p.2, y) :: rs, .cons ⟨rfl, hd.2, ry⟩ k, by simp [l], fun j r e => ?_⟩
    cases j with
    | zero =>
      cases (Option.some.inj e : (kv.1, p.2, y) = r)
      exact ⟨p, rfl, tp, hd.2⟩
    | succ j => exact all j r (by simpa using e)
theorem call_dictT (hcalm : X.calm = true) (hu : X.A.units + 64 < cLine) : CallR X (.type "dict") (rDictT X.K) := by
  intro pins s σ H xs us Q I r q
  obtain ⟨a, ps, kvs, rfl, hl, hp, nd, q⟩ := q
  obtain ⟨u, rfl, rx⟩ := vals1 r
  cases rx
  obtain ⟨its, rv, pl, hz⟩ := I.list hl
  have ei : its = ps.map fun p => Value.ref p.1 := by
    have e2 : (ps.map fun p => V.ref p.1) = (ps.map Prod.fst).map V.ref := by rw [List.map_map]; rfl
    rw [e2] at rv
    rw [refs_at rv, List.map_map]; rfl
  subst ei
  rw [List.length_map] at hz
  obtain ⟨rs, kt, le, all⟩ := rows_of I hp
  have kf : rs.map (·.1) = kvs.map Prod.fst := by
    clear all le q nd hp
    induction kt with
    | nil => rfl
    | cons h _ ih => rw [List.map_cons, List.map_cons, ih, h.1]
  have hk : ∀ x ∈ rs, H x.2.1 = some (.tup (x.1.map kV)) := fun x hx => by
    obtain ⟨j, hj⟩ := List.getElem?_of_mem hx
    obtain ⟨_, _, _, e⟩ := all j x hj
    exact e
  have key := call_dict_pairsH (prog := X.prog) (w := X.w) (A := X.A) (E := X.xe) (s := s) (knd := tupleKind (mixKind X.prog X.w)) (ps := rs) (Q := EP X pins σ Q)
    (PairArg.list a (ps.map fun p => Value.ref p.1).toArray (fun j => ((ps[j]?).map Prod.fst).getD 0) (rs.map fun x => (Value.ref x.2.1, x.2.2)))
    (I.ok.hd hcalm) (show X.A.in1.in1.units < cLine from by show X.A.units + 1 + 1 < cLine; omega)
    ⟨by
      obtain ⟨o, n, ho, hc, hd, hdat⟩ := pl
      exact ⟨o, n, ho, hc, hd, hdat⟩, by simp [le], fun j k v e => by
        rw [List.getElem?_map] at e
        cases hr : rs[j]? with
        | none => rw [hr] at e; cases e
        | some x =>
          rw [hr] at e
          cases (Option.some.inj e : (Value.ref x.2.1, x.2.2) = (k, v))
          obtain ⟨p, hp1, tp, _⟩ := all j x hr
          refine ⟨by simp [hp1], ?_⟩
          show PairAt s.heap ((ps[j]?.map Prod.fst).getD 0) _ _
          rw [hp1]
          obtain ⟨o, ho, hc, n, hd⟩ := tp
          exact .inl ⟨o, ho, hc, n, hd⟩⟩
    ⟨by simp, fun i k v e => by
      have e : (rs.map fun x => (Value.ref x.2.1, x.2.2))[i]? = some (k, v) := e
      rw [List.getElem?_map] at e
      cases hr : rs[i]? with
      | none => rw [hr] at e; cases e
      | some x =>
        rw [hr] at e
        cases (Option.some.inj e : (Value.ref x.2.1, x.2.2) = (k, v))
        exact ⟨x.1, x.2.1, rfl, rfl⟩⟩
    (fun h' hk' x hx => by
      obtain ⟨o, xs, n, g1, g2⟩ := key_of I.hok (hk x hx)
      exact ⟨o, xs, n, hk' _ _ (Nat.ne_of_lt (Heap.lt_size g1)) (by simp) g1, g2⟩)
    (by simp [le]; exact hz)
    (fun h' tk hd' kp => by
      rw [storedAllH_nil_of_nodup _ (by rw [kf]; exact nd)] at hd'
      obtain ⟨o, es, ep, ho, h2, h3, h4, _, h5⟩ := hd'
      have hm : (s.heap.objs.size == sysModules) = false := beq_eq_false_iff_ne.mpr (Nat.ne_of_gt I.big)
      refine ⟨.ref s.heap.objs.size, upd H s.heap.objs.size (.frz o (.dT kvs)), I.laid (t' := tk) (fun b u e => kp b u (by simp) e) (Nat.le_refl _) ⟨ho, by rw [Paired.length kt, le]; exact hz, hm, rs, kt.keeps fun b ys e => ?_, o, es, ep, ho, h2, h3, h4, h5⟩, rfl, q _ o (I.hok.fresh (Nat.le_refl _))⟩
      rw [upd_ne (ne_of_none e (I.hok.fresh (Nat.le_refl _)))]
      exact e)
  exact key
end
section
variable {T : Cfg} {W : WX} {ρ : List (Option D)} {m0 : Mu} {P : D → Mu → Prop} {XP : XW} {te : TE} {μ : Mu}
theorem Rep.key_inv {H : Hp} {ks : List Key} {v : V} (h : Rep T H (.key ks) v) : ∃ a, v = .ref a ∧ H a = some (.tup (ks.map kV)) := by
  cases h with
  | key h => exact ⟨_, rfl, h⟩
theorem Rep.dit_inv {H : Hp} {gs : List (List Key × D)} {v : V} (h : Rep T H (.dit gs) v) : ∃ a od fs, v = .ref a ∧ H a = some (.frz od (.dT fs)) ∧ RepP T H gs fs := by
  cases h with
  | dit h l r => exact ⟨_, _, _, rfl, h, l, r⟩
theorem key_tup {H : Hp} {ks : List Key} {v : V} (h : Rep T H (.key ks) v) : Rep T H (.tup (ks.map kD)) v := by
  obtain ⟨a, rfl, h1⟩ := h.key_inv
  have kr := keys_rep (T := T) (Hb := H) ks
  exact .tup (.inl (.inl h1)) kr.1 kr.2
theorem ev_tupK {ta : TA} (h : EA T ta W ⟨ρ, m0⟩ (fun ds μ1 => ∃ ks : List Key, ds = ks.map kD ∧ ks.length ≤ 100000 ∧ P (.key ks) μ1) XP) : EV T (tTup ta) W ⟨ρ, m0⟩ P XP := fun σ Hb H Q S q x =>
  h σ Hb H _ S (fun ds μ1 vs Hb1 H1 g1 r1 pp => by
    obtain ⟨ks, ed, hl, p1⟩ := pp
    exact ⟨by rw [← r1.1, ed, List.length_map]; exact Evl.sz_of hl, fun p hp => by
    subst ed
    have ev : vs = ks.map kV := by
      clear hl p1 hp
      induction ks generalizing vs with
      | nil => exact r1.nil_inv
      | cons k ks ih =>
        obtain ⟨v, ys, rfl, rv, ry⟩ := RepL.cons_inv (d := kD k) (ds := ks.map kD) r1
        rw [List.map_cons, ← ih ys ry]
        congr 1
        cases k with
        | inl i => cases (show Rep T Hb1 (.int i) v from rv); rfl
        | inr z => cases (show Rep T Hb1 (.str z) v from rv); rfl
    subst ev
    have g := Go.lay g1.sub g1.mu (o := .tup (ks.map kV)) hp
    exact q _ _ _ _ _ (g1.trans g) (.key upd_same) p1⟩) x
theorem rowsT_rep {Hb : Hp} : ∀ {kds : List (List Key × D)} {xs : List V}, RepL T Hb (kds.map fun kd => .tup [.key kd.1, kd.2]) xs → ∃ (ps : List (Addr × Addr)) (kvs : List (List Key × V)), xs = (ps.map fun p => V.ref p.1) ∧ Paired (fun p kv => SqT T.K Hb p.1 [.ref p.2, kv.2] ∧ Hb p.2 = some (.tup (kv.1.map kV))) ps kvs ∧ RepP T Hb kds kvs := by
  intro kds
  induction kds with
  | nil => intro xs r; exact ⟨[], [], r.nil_inv, .nil, rfl, fun i g f a b => by simp at a⟩
  | cons kd kds ih =>
    intro xs r
    obtain ⟨v, ys, rfl, rv, ry⟩ := RepL.cons_inv (d := .tup [.key kd.1, kd.2]) (ds := kds.map fun kd => .tup [.key kd.1, kd.2]) r
    obtain ⟨ps, kvs, rfl, hp, rp⟩ := ih ry
    obtain ⟨a, zs, rfl, hz, rz⟩ := rv.tup_inv
    obtain ⟨v1, v2, rfl, r1, r2⟩ := two_inv rz
    obtain ⟨b, rfl, hb⟩ := r1.key_inv
    refine ⟨(a, b) :: ps, (kd.1, v2) :: kvs, rfl, .cons ⟨hz, hb⟩ hp, by simp [rp.1], fun i g f e1 e2 => ?_⟩
    cases i with
    | zero =>
      simp at e1 e2
      subst e1 e2
      exact r2
    | succ i =>
      simp at e1 e2
      exact rp.2 i g f e1 e2
theorem cv_dictT {d : D} {kds : List (List Key × D)} (hd : Seqd d (kds.map fun kd => .tup [.key kd.1, kd.2])) (hn : (kds.map Prod.fst).Nodup) (p : P (.dit kds) μ) : CV T (rDictT T.K) [d] μ P := fun xs Hb H Q ex sm r q => by
  obtain ⟨v, rfl, r1⟩ := one_inv r
  obtain ⟨a, ys, rfl, hs, ry⟩ := hd.inv r1
  obtain ⟨ps, kvs, rfl, hp, rp⟩ := rowsT_rep ry
  refine ⟨a, ps, kvs, rfl, ex_l ex hs, ?_, by have e : kds.map Prod.fst = kvs.map Prod.fst := rp.1; rw [← e]; exact hn, fun l od hl => ?_⟩
  · clear rp hs ry r r1
    induction hp with
    | nil => exact .nil
    | cons h _ ih => exact .cons ⟨ex_t ex h.1, ex _ _ h.2⟩ ih
  have g := Go.lay ex sm (o := .frz od (.dT kvs)) hl
  have rp2 := rp.mono g.ex
  exact q _ _ _ _ _ g (.dit upd_same rp2.1 rp2.2) p
end
end Pw
namespace Pw
open PySem PySem.Spec PyProof.Rows L2
open Evl (Ex ex_l ex_t fresh_back)
def NoLst (T : Cfg) (d : D) : Prop := ∀ (Hb Hb' : Hp) (v : V), (∀ a o, Hb a = some o → (∀ xs, o ≠ .lst xs) → Hb' a = some o) → Rep T Hb d v → Rep T Hb' d v
theorem nol_int {T : Cfg} (i : Int) : NoLst T (.int i) := fun _ _ _ _ r => by cases r; exact .int i
theorem nol_ins {T : Cfg} {c : Nat} {gs : List (Str × D)} (h : ∀ g ∈ gs, NoLst T g.2) : NoLst T (.ins c gs) := fun Hb Hb' v e r => by
  obtain ⟨a, dx, fs, rfl, hh, rp⟩ := r.ins_inv
  exact .ins (e _ _ hh (fun xs z => by cases z)) rp.1 fun i g f hg hf => h g (List.mem_of_getElem? hg) Hb Hb' _ e (rp.2 i g f hg hf)
def frzA (μ : Mu) (Hb H : Hp) : Hp := fun b => match μ b with
  | some _ => H b
  | none => Hb b
section
variable {T : Cfg} {W : WX} {ρ : List (Option D)} {m0 : Mu} {XP : XW} {K : Out → Prop} {te te' : TE} {P : D → Mu → Prop} {u : TS} {μ : Mu} {E : XK} {ta : TA} {Hb H : Hp}
theorem frzA_iff (sm : SimMu T μ Hb H) (b : Addr) (u : HO) (hu : ¬ NoTC u) : frzA μ Hb H b = some u ↔ Hb b = some u := by
  unfold frzA
  split
  · rename_i h
    exact sm.frz_iff h hu
  · exact Iff.rfl
theorem frzA_ex (ex : Ex Hb H) : Ex Hb (frzA μ Hb H) := fun b o h => by
  unfold frzA
  split
  · exact ex b o h
  · exact h
theorem frzA_sub (ex : Ex Hb H) : Ex (frzA μ Hb H) H := fun b o h => by
  unfold frzA at h
  split at h
  · exact h
  · exact ex b o h
theorem Stl.repA {d d' : D} (h : Stl μ d d') (ex : Ex Hb H) (sm : SimMu T μ Hb H) : ∀ {v : V}, Rep T Hb d v → Rep T (frzA μ Hb H) d' v := by
  have e1 := frzA_ex (μ := μ) ex
  induction h with
  | refl d => intro v r; exact r.mono e1
  | @ptr p ds es hp l k ih =>
    intro v r
    cases r
    obtain ⟨n, o, ho, ro⟩ := sm p _ hp
    cases o with
    | lst xs =>
      have ro : RepL T Hb ds xs := ro
      have hh : frzA μ Hb H p = some (.lst xs) := by
        unfold frzA
        rw [hp]
        exact ho
      refine .lst hh (l.symm.trans ro.1) fun i y z hy hz => ?_
      have hi : i < ds.length := by rw [l]; exact (List.getElem?_eq_some_iff.mp hy).1
      exact ih i _ y (List.getElem?_eq_getElem hi) hy (ro.2 i _ z (List.getElem?_eq_getElem hi) hz)
    | _ => exact ro.elim
  | @lst ds es l k ih =>
    intro v r
    obtain ⟨b, xs, rfl, hx, rl⟩ := r.lst_inv
    refine .lst (e1 _ _ hx) (l.symm.trans rl.1) fun i y w hy hw => ?_
    have hi : i < ds.length := by rw [l]; exact (List.getElem?_eq_some_iff.mp hy).1
    exact ih i _ y (List.getElem?_eq_getElem hi) hy (rl.2 i _ w (List.getElem?_eq_getElem hi) hw)
  | @tup ds es l k ih =>
    intro v r
    obtain ⟨b, xs, rfl, hx, rl⟩ := r.tup_inv
    refine .tup (ex_t e1 hx) (l.symm.trans rl.1) fun i y w hy hw => ?_
    have hi : i < ds.length := by rw [l]; exact (List.getElem?_eq_some_iff.mp hy).1
    exact ih i _ y (List.getElem?_eq_getElem hi) hy (rl.2 i _ w (List.getElem?_eq_getElem hi) hw)
def StlL (μ : Mu) (ds es : List D) : Prop := ds.length = es.length ∧ ∀ (i : Nat) (x y : D), ds[i]? = some x → es[i]? = some y → Stl μ x y
theorem StlL.nil : StlL μ [] [] := ⟨rfl, fun i x y h _ => by simp at h⟩
theorem StlL.cons {d e : D} {ds es : List D} (h : Stl μ d e) (t : StlL μ ds es) : StlL μ (d :: ds) (e :: es) := by
  refine ⟨by simp [t.1], fun i x y a b => ?_⟩
  cases i with
  | zero => simp at a b; subst a b; exact h
  | succ i => simp at a b; exact t.2 i x y a b
theorem StlL.repA {ds es : List D} {vs : List V} (h : StlL μ ds es) (ex : Ex Hb H) (sm : SimMu T μ Hb H) (r : RepL T Hb ds vs) : RepL T (frzA μ Hb H) es vs := by
  refine ⟨h.1.symm.trans r.1, fun i y v hy hv => ?_⟩
  have hi : i < ds.length := by rw [h.1]; exact (List.getElem?_eq_some_iff.mp hy).1
  exact (h.2 i _ y (List.getElem?_eq_getElem hi) hy).repA ex sm (r.2 i _ v (List.getElem?_eq_getElem hi) hv)
theorem ev_calNw {c : Ct} (h : EA T ta W ⟨ρ, m0⟩ (fun ds μ => c ds mu0 (fun d μ' => (∀ a m, μ' a = some m → μ a = none) → P d (mrg μ mu0 μ')) (fun _ _ => False)) XP) : EV T (tCall (spOf T c) [] E ta) W ⟨ρ, m0⟩ P XP := fun σ Hb H Q S q x =>
  h σ Hb H _ S (fun ds μ vs Hb1 H1 g r p => by
    refine ⟨ds, mu0, Hb1, _, _, g.sub, g.mu.nil, by simpa using r, p, fun d μ' v Hb' H' g' r' k => ?_, fun y μ' cls dd Hb' H' g' r' k => k.elim⟩
    refine q d _ v Hb' H' (g.trans (g'.widen sub_nil g.mu)) r' (k fun a m e => ?_)
    rcases g'.new a m e with z | z
    · exact absurd rfl z
    · exact mu_fresh g.mu z) x
theorem ev_calT {c : Ct} (h : EA T ta W ⟨ρ, m0⟩ (fun ds μ => c ds μ (fun d μ' => μ' = μ ∧ P d μ) (fun _ _ => False)) XP) : EV T (tCall (spOf T c) [] E ta) W ⟨ρ, m0⟩ P XP := fun σ Hb H Q S q x =>
  h σ Hb H _ S (fun ds μ vs Hb1 H1 g r p => by
    refine ⟨ds, μ, Hb1, _, _, g.sub, g.mu, by simpa using r, p, fun d μ' v Hb' H' g' r' k => ?_, fun y μ' cls dd Hb' H' g' r' k => k.elim⟩
    obtain ⟨rfl, k⟩ := k
    exact q d _ v Hb' H' (g.trans g') r' k) x
theorem mrg_new {μ' : Mu} {b : Addr} {m : MO} (h : μ' b = some m) : mrg μ mu0 μ' b = some m := by
  unfold mrg
  rw [h]
theorem mrg_old {μ' : Mu} {b : Addr} (h : μ' b = none) : mrg μ mu0 μ' b = μ b := by
  unfold mrg
  rw [h]
  simp [mu0]
end
structure Nest (μ : Mu) (p : Addr) (qs : List Addr) (rows : List (List D)) : Prop where
  top : μ p = some (.lst (qs.map D.ptr))
  ln : qs.length = rows.length
  row : ∀ (i : Nat) (q : Addr) (r : List D), qs[i]? = some q → rows[i]? = some r → μ q = some (.lst r)
  ne : p ∉ qs
theorem Nest.stl {μ : Mu} {p : Addr} {qs : List Addr} {rows : List (List D)} (h : Nest μ p qs rows) : Stl μ (.ptr p) (.lst (rows.map D.lst)) := by
  refine .ptr h.top (by simp [h.ln]) fun i x y hx hy => ?_
  rw [List.getElem?_map] at hx hy
  obtain ⟨q, hq, rfl⟩ := Option.map_eq_some_iff.1 hx
  obtain ⟨r, hr, rfl⟩ := Option.map_eq_some_iff.1 hy
  exact Stl.own (h.row i q r hq hr)
end Pw
namespace Pw
open PySem PySem.Spec PyProof.Rows L2
open Evl (Ex ex_l ex_t fresh_back)
def tLk (t : TE) : TE := fun σ H Q => t σ H fun v H1 => ∃ a kvs, v = .ref a ∧ H1 a = some (.dK kvs) ∧ ∀ od, Q v (upd H1 a (.frz od (.dK kvs)))
theorem pe_lk {X : Cx} {e : Expr} {t : TE} (h : PE X e t) : PE X e (tLk t) := ⟨fun pins s σ H Q I h' => thn (h.run pins s σ H _ I h') fun u s1 z => by
  obtain ⟨x, H1, I1, rx, a, kvs, ex, ha, q⟩ := z
  obtain ⟨od, I2⟩ := I1.lock ha (by trivial)
  exact ⟨x, _, I2, rx, q od⟩⟩
section
variable {T : Cfg} {W : WX} {ρ : List (Option D)} {m0 : Mu} {XP : XW} {K : Out → Prop} {te te' : TE} {P : D → Mu → Prop} {u : TS} {μ : Mu} {E : XK} {ta : TA} {Hb H : Hp}
theorem Rep.dil_inv {gs : List (Key × D)} {v : V} (h : Rep T H (.dil gs) v) : ∃ a od fs, v = .ref a ∧ H a = some (.frz od (.dK fs)) ∧ RepP T H gs fs := by
  cases h with
  | dil h l r => exact ⟨_, _, _, rfl, h, l, r⟩
theorem Go.lk (s : Ex Hb H) (m : SimMu T μ Hb H) {p : Addr} {o : HO} {y : MO} (hp : μ p = some y) (hno : NoTC o := by exact ⟨fun _ z => (nomatch z), fun _ z => (nomatch z)⟩) : Go T μ Hb H (del μ p) (upd Hb p o) (upd H p o) := by
  obtain ⟨hb, u0, hu0, r0⟩ := m p y hp
  have ex : Ex Hb (upd Hb p o) := Evl.Ex.new hb
  refine ⟨ex, fun a u h n w _ => ?_, fun a x h => ?_, fun a u h => ?_, fun a u h => ?_, m.up (fun a u n q => (upd_ntc (fun u q => by rw [hu0] at q; cases q; exact r0.ntc) hno a u n).2 q) (upd_ntc (fun u q => by rw [hb] at q; cases q) hno) fun a x h => ?_⟩
  · have ne : a ≠ p := fun e => by subst e; rw [hp] at w; cases w
    exact ⟨by rw [upd_ne ne]; exact h, fun _ => by rw [upd_ne ne]; exact n⟩
  · unfold del at h
    split at h
    · cases h
    · exact .inl (by rw [h]; simp)
  · by_cases e : a = p
    · subst e; exact ⟨o, upd_same⟩
    · exact ⟨u, by rw [upd_ne e]; exact h⟩
  · by_cases e : a = p
    · subst e; rw [upd_same] at h ⊢; exact h
    · rw [upd_ne e] at h ⊢; exact s a u h
  · unfold del at h
    split at h
    · cases h
    · rename_i e
      obtain ⟨n, u, hu, q⟩ := m a x h
      exact ⟨by rw [upd_ne e]; exact n, u, by rw [upd_ne e]; exact hu, q.mono ex⟩
theorem ev_lk (h : EV T te W ⟨ρ, m0⟩ (fun d μ => ∃ a kvs, d = .ptr a ∧ μ a = some (.dK kvs) ∧ P (.dil kvs) (del μ a)) XP) : EV T (tLk te) W ⟨ρ, m0⟩ P XP := fun σ Hb H Q S q x =>
  h σ Hb H _ S (fun d μ v Hb1 H1 g r p => by
    obtain ⟨a, kvs, rfl, hm, p⟩ := p
    cases r
    obtain ⟨nb, o, ho, ro⟩ := g.mu a _ hm
    cases o with
    | dK es =>
      have ro : RepP T Hb1 kvs es := ro
      refine ⟨a, es, rfl, ho, fun od => ?_⟩
      have g2 := Go.lk (o := .frz od (.dK es)) g.sub g.mu hm
      have r2 := ro.mono g2.ex
      exact q _ _ _ _ _ (g.trans g2) (.dil upd_same r2.1 r2.2) p
    | _ => exact ro.elim) x
theorem iv_keysL {P : Nat → (Nat → D) → Mu → Prop} (h : EV T te W ⟨ρ, m0⟩ (fun d μ => ∃ kds, d = .dil kds ∧ P kds.length (fun i => kD (((kds[i]?).map Prod.fst).getD (.inl 0))) μ) XP) : IV T (iKeys te) W ⟨ρ, m0⟩ P XP := fun σ Hb H R S q x =>
  h σ Hb H _ S (fun d μ v Hb1 H1 g r p => by
    obtain ⟨kds, rfl, p⟩ := p
    obtain ⟨a, od, fs, rfl, ha, rp⟩ := r.dil_inv
    refine ⟨a, od, rfl, .inl ⟨fs, g.sub _ _ ha, q _ _ _ _ _ _ g ?_ p⟩⟩
    have len : kds.length = fs.length := by have := congrArg List.length rp.1; simpa using this
    intro Hb H e1 e2
    have hH : H a = some (.frz od (.dK fs)) := e2 _ _ (e1 _ _ ha)
    refine ⟨fun i hi => ⟨hH, by rw [← len]; exact hi⟩, fun i hi => ⟨hH, by rw [← len]; exact hi⟩, ?_⟩
    rintro i x H' hi ⟨rfl, k, v, hk, rfl⟩ μ sm
    refine ⟨_, .refl e2 sm, ?_⟩
    have e3 : (kds.map (·.1))[i]? = (fs.map (·.1))[i]? := by rw [rp.1]
    rw [List.getElem?_map, List.getElem?_map, hk] at e3
    have e4 : ((kds[i]?).map Prod.fst).getD (.inl 0) = k := by
      have : (kds[i]?).map Prod.fst = some k := e3
      rw [this]; rfl
    show Rep T _ (kD (((kds[i]?).map Prod.fst).getD (.inl 0))) _
    rw [e4]
    cases k with
    | inl i => exact .int i
    | inr z => exact .str z) x
theorem dgetL_of {Hb H : Hp} {kvs : List (Key × D)} {k : Key} {v y : V} (ex : Ex Hb H) (r : Rep T Hb (.dil kvs) v) (ry : Rep T Hb (kD k) y) : ∃ a o, v = .ref a ∧ DGet H a y o ∧ (∀ d, valD kvs k = some d → ∃ w, o = some w ∧ Rep T Hb d w) ∧ (valD kvs k = none → o = none) := by
  obtain ⟨a, od, fs, rfl, ha, rp⟩ := r.dil_inv
  obtain rfl := rep_kD ry
  obtain ⟨h1, h2⟩ := rp.val (k := k)
  exact ⟨a, valV fs k, rfl, .inl ⟨fs, k, .inr ⟨od, ex _ _ ha⟩, rfl, rfl⟩, fun d hd => by obtain ⟨w, e, r⟩ := h1 d hd; exact ⟨w, e, r⟩, h2⟩
theorem ev_dgetL {td ty : TE} (h : EV T td W ⟨ρ, m0⟩ (fun d μ1 => EV T ty W ⟨ρ, μ1⟩ (fun e μ2 => ∃ kds k z, d = .dil kds ∧ e = kD k ∧ valD kds k = some z ∧ P z μ2) XP) XP) : EV T (tDGet td ty) W ⟨ρ, m0⟩ P XP := fun σ Hb H Q S q x =>
  h σ Hb H _ S (fun d μ1 v Hb1 H1 g1 r1 p1 => p1 σ Hb1 H1 _ (S.go g1) (fun e μ2 w Hb2 H2 g2 r2 p2 => by
    obtain ⟨kds, k, z, rfl, rfl, hz, p⟩ := p2
    obtain ⟨a, o, rfl, g, h1, _⟩ := dgetL_of g2.sub (r1.mono g2.ex) r2
    obtain ⟨w, rfl, rw'⟩ := h1 z hz
    exact ⟨a, w, rfl, g, q _ _ _ _ _ (g1.trans g2) rw' p⟩)
    (fun y μ' cls dd Hb' H' g r p => x y μ' cls dd Hb' H' (g1.trans g) r p)) x
end
end Pw
namespace Pw
open PySem PySem.Spec PyProof.Rows L2
open Evl (Ex ex_l ex_t fresh_back)
section
variable {κ β : Type} [DecidableEq κ]
def putD (kvs : List (κ × β)) (k : κ) (d : β) : List (κ × β) := if k ∈ kvs.map Prod.fst then kvs.map (fun z => (z.1, if z.1 = k then d else z.2)) else kvs ++ [(k, d)]
def lookD (kvs : List (κ × β)) (k : κ) : Option β := (kvs.find? fun kv => decide (kv.1 = k)).map (·.2)
theorem lookD_cons {p : κ × β} {r : List (κ × β)} {k : κ} : lookD (p :: r) k = if p.1 = k then some p.2 else lookD r k := by
  unfold lookD
  rw [List.find?_cons]
  by_cases e : p.1 = k
  · rw [decide_eq_true e, if_pos e]; rfl
  · rw [decide_eq_false e, if_neg e]
theorem lookD_some_mem {k : κ} : ∀ {kvs : List (κ × β)} {d : β}, lookD kvs k = some d → (k, d) ∈ kvs
  | [], d, h => by cases h
  | p :: r, d, h => by
    rw [lookD_cons] at h
    by_cases e : p.1 = k
    · rw [if_pos e] at h
      cases h
      rw [← e]
      exact List.mem_cons_self
    · rw [if_neg e] at h
      exact List.mem_cons_of_mem _ (lookD_some_mem h)
theorem lookD_none {k : κ} : ∀ {kvs : List (κ × β)}, k ∉ kvs.map Prod.fst → lookD kvs k = none
  | [], _ => rfl
  | p :: r, h => by
    rw [List.map_cons, List.mem_cons, not_or] at h
    rw [lookD_cons, if_neg (fun e => h.1 e.symm)]
    exact lookD_none h.2
theorem lookD_isSome {k : κ} : ∀ {kvs : List (κ × β)}, (lookD kvs k).isSome = true ↔ k ∈ kvs.map Prod.fst
  | [] => by simp [lookD]
  | p :: r => by
    rw [lookD_cons, List.map_cons, List.mem_cons]
    by_cases e : p.1 = k
    · rw [if_pos e]; simp [e]
    · rw [if_neg e, lookD_isSome]
      constructor
      · exact fun h => .inr h
      · rintro (h | h)
        · exact absurd h.symm e
        · exact h
theorem lookD_map {k j : κ} {d : β} : ∀ {kvs : List (κ × β)}, lookD (kvs.map fun z => (z.1, if z.1 = k then d else z.2)) j = (lookD kvs j).map fun x => if j = k then d else x
  | [] => rfl
  | p :: r => by
    rw [List.map_cons, lookD_cons, lookD_cons, lookD_map (kvs := r)]
    by_cases e : p.1 = j
    · rw [if_pos e, if_pos e, Option.map_some, e]
    · rw [if_neg e, if_neg e]
theorem lookD_app {k j : κ} {d : β} : ∀ {kvs : List (κ × β)}, k ∉ kvs.map Prod.fst → lookD (kvs ++ [(k, d)]) j = if j = k then some d else lookD kvs j
  | [], _ => by
    rw [List.nil_append, lookD_cons]
    by_cases e : k = j
    · rw [if_pos e, if_pos e.symm]
    · rw [if_neg e, if_neg (fun z => e z.symm)]
  | p :: r, h => by
    rw [List.map_cons, List.mem_cons, not_or] at h
    rw [List.cons_append, lookD_cons, lookD_cons, lookD_app h.2]
    by_cases e : p.1 = j
    · rw [if_pos e, if_pos e, if_neg (fun z => h.1 (by rw [e, z]))]
    · rw [if_neg e, if_neg e]
theorem lookD_put {kvs : List (κ × β)} {k j : κ} {d : β} : lookD (putD kvs k d) j = if j = k then some d else lookD kvs j := by
  unfold putD
  by_cases h : k ∈ kvs.map Prod.fst
  · rw [if_pos h, lookD_map]
    by_cases e : j = k
    · rw [if_pos e, e]
      obtain ⟨x, hx⟩ := Option.isSome_iff_exists.1 (lookD_isSome.2 h)
      rw [hx, Option.map_some, if_pos rfl]
    · rw [if_neg e]
      cases lookD kvs j with
      | none => rfl
      | some x => rw [Option.map_some, if_neg e]
  · rw [if_neg h]
    exact lookD_app h
theorem putD_keys {kvs : List (κ × β)} {k : κ} {d : β} : (putD kvs k d).map Prod.fst = if k ∈ kvs.map Prod.fst then kvs.map Prod.fst else kvs.map Prod.fst ++ [k] := by
  unfold putD
  by_cases h : k ∈ kvs.map Prod.fst
  · rw [if_pos h, if_pos h, List.map_map]; rfl
  · rw [if_neg h, if_neg h, List.map_append]; rfl
theorem RepP.put {T : Cfg} {Hb : Hp} {gs : List (κ × D)} {fs : List (κ × V)} {k : κ} {d : D} {v : V} (h : RepP T Hb gs fs) (r : Rep T Hb d v) : RepP T Hb (putD gs k d) (putK fs k v) := by
  by_cases hk : k ∈ gs.map Prod.fst
  · have hk' : (fs.any fun kv => decide (kv.1 = k)) = true := by
      rw [h.1] at hk
      obtain ⟨z, hz, e⟩ := List.mem_map.1 hk
      exact List.any_eq_true.2 ⟨z, hz, decide_eq_true e⟩
    have e1 : putD gs k d = gs.map (fun z => (z.1, if z.1 = k then d else z.2)) := if_pos hk
    have e2 : putK fs k v = fs.map (fun kv => if kv.1 = k then (kv.1, v) else kv) := if_pos hk'
    rw [e1, e2]
    refine ⟨?_, fun i g f a b => ?_⟩
    · rw [List.map_map, List.map_map]
      have e3 : (Prod.fst ∘ fun kv : κ × V => if kv.1 = k then (kv.1, v) else kv) = Prod.fst := by
        funext z
        show (if z.1 = k then (z.1, v) else z).1 = z.1
        split <;> rfl
      rw [e3]
      exact h.1
    · rw [List.getElem?_map] at a b
      obtain ⟨g0, ga, rfl⟩ := Option.map_eq_some_iff.1 a
      obtain ⟨f0, fa, rfl⟩ := Option.map_eq_some_iff.1 b
      have hkey : g0.1 = f0.1 := by
        have := congrArg (fun l : List κ => l[i]?) h.1
        simp only [List.getElem?_map, ga, fa, Option.map_some] at this
        exact Option.some.inj this
      by_cases e : g0.1 = k
      · have e' : f0.1 = k := by rw [← hkey]; exact e
        simp only [if_pos e, if_pos e']
        exact r
      · have e' : ¬ f0.1 = k := by rw [← hkey]; exact e
        simp only [if_neg e, if_neg e']
        exact h.2 i g0 f0 ga fa
  · have hk' : valV fs k = none := by
      rw [h.1] at hk
      cases q : valV fs k with
      | none => rfl
      | some x =>
        unfold valV at q
        obtain ⟨z, hz, _⟩ := Option.map_eq_some_iff.1 q
        exact absurd (List.mem_map.2 ⟨z, List.mem_of_find?_eq_some hz, of_decide_eq_true (List.find?_some (p := fun kv : κ × V => decide (kv.1 = k)) hz)⟩) hk
    have e1 : putD gs k d = gs ++ [(k, d)] := if_neg hk
    rw [e1, putK_new v hk']
    exact repP_snoc h r
theorem RepP.lookP {T : Cfg} {Hb : Hp} {k : κ} : ∀ {gs : List (κ × D)} {fs : List (κ × V)}, RepP T Hb gs fs → (∀ d, lookD gs k = some d → ∃ v, valV fs k = some v ∧ Rep T Hb d v) ∧ (lookD gs k = none → valV fs k = none)
  | [], fs, h => by
    have : fs = [] := by have := h.1; simp at this; exact this
    subst this
    exact ⟨fun d e => (by cases e), fun _ => rfl⟩
  | g :: gs, [], h => by have := h.1; simp at this
  | g :: gs, f :: fs, h => by
    have hk : g.1 = f.1 := by have := h.1; simp only [List.map_cons, List.cons.injEq] at this; exact this.1
    have ht : RepP T Hb gs fs := ⟨by have := h.1; simp only [List.map_cons, List.cons.injEq] at this; exact this.2, fun i a b c d => h.2 (i + 1) a b (by simpa using c) (by simpa using d)⟩
    rw [lookD_cons]
    by_cases e : g.1 = k
    · rw [if_pos e, valV_pos (hk.symm.trans e)]
      exact ⟨fun d e => (by cases e; exact ⟨f.2, rfl, h.2 0 g f rfl rfl⟩), fun e => (by cases e)⟩
    · rw [if_neg e, valV_neg (fun z => e (hk.trans z))]
      exact ht.lookP
end
theorem look_val (kvs : List (Key × D)) (k : Key) : valD kvs k = lookD kvs k := rfl
section
variable {T : Cfg} {W : WX} {ρ : List (Option D)} {m0 μ : Mu} {P : D → Mu → Prop} {XP : XW} {te : TE} {K : Out → Prop}
theorem sv_dputU {td ty tv : TE} (h : EV T tv W ⟨ρ, m0⟩ (fun e μ1 => EV T td W ⟨ρ, μ1⟩ (fun d μ2 => EV T ty W ⟨ρ, μ2⟩ (fun i μ3 => ∃ a kvs k, d = .ptr a ∧ μ3 a = some (.dK kvs) ∧ i = kD k ∧ kvs.length < 1000 ∧ K (.nx ⟨ρ, put μ3 a (.dK (putD kvs k e))⟩)) (xk ⟨ρ, m0⟩ K)) (xk ⟨ρ, m0⟩ K)) (xk ⟨ρ, m0⟩ K)) : SV T (sDPut td ty tv) W ⟨ρ, m0⟩ K := fun σ Hb H Dn S c =>
  h σ Hb H _ S (fun e μ1 v Hb1 H1 g1 r1 p1 => p1 σ Hb1 H1 _ (S.go g1) (fun d μ2 x Hb2 H2 g2 r2 p2 => p2 σ Hb2 H2 _ ((S.go g1).go g2) (fun i μ3 y Hb3 H3 g3 r3 p3 => by
    obtain ⟨a, kvs, k, rfl, hm, rfl, hl, kk⟩ := p3
    have r2 := r2.mono g3.ex
    cases r2
    obtain rfl := rep_kD r3
    obtain ⟨n, o, ho, ro⟩ := g3.mu a _ hm
    cases o with
    | dK fs =>
      have ro : RepP T Hb3 kvs fs := ro
      have hlen : kvs.length = fs.length := by have := congrArg List.length ro.1; simpa using this
      refine ⟨a, _, rfl, .inl ⟨fs, k, ho, rfl, ?_, rfl⟩, ?_⟩
      · rw [← hlen, sizeLine_eq]; omega
      · have g4 := Go.chg g3.sub g3.mu (o := .dK (putK fs k v)) (z := .dK (putD kvs k e)) hm (ro.put ((r1.mono g2.ex).mono g3.ex))
        have g := ((g1.trans g2).trans g3).trans g4
        exact c.nx _ _ _ _ g (S.go g) kk
    | _ => exact ro.elim)
    (fun y μ' cls dd Hb' H' g r p => c.x S y μ' cls dd Hb' H' ((g1.trans g2).trans g) r p)) (fun y μ' cls dd Hb' H' g r p => c.x S y μ' cls dd Hb' H' (g1.trans g) r p)) (c.x S)
theorem sv_dputT {td ty tv : TE} (h : EV T tv W ⟨ρ, m0⟩ (fun e μ1 => EV T td W ⟨ρ, μ1⟩ (fun d μ2 => EV T ty W ⟨ρ, μ2⟩ (fun i μ3 => ∃ a kvs k, d = .ptr a ∧ μ3 a = some (.dT kvs) ∧ i = .key k ∧ kvs.length < 1000 ∧ K (.nx ⟨ρ, put μ3 a (.dT (putD kvs k e))⟩)) (xk ⟨ρ, m0⟩ K)) (xk ⟨ρ, m0⟩ K)) (xk ⟨ρ, m0⟩ K)) : SV T (sDPut td ty tv) W ⟨ρ, m0⟩ K := fun σ Hb H Dn S c =>
  h σ Hb H _ S (fun e μ1 v Hb1 H1 g1 r1 p1 => p1 σ Hb1 H1 _ (S.go g1) (fun d μ2 x Hb2 H2 g2 r2 p2 => p2 σ Hb2 H2 _ ((S.go g1).go g2) (fun i μ3 y Hb3 H3 g3 r3 p3 => by
    obtain ⟨a, kvs, k, rfl, hm, rfl, hl, kk⟩ := p3
    have r2 := r2.mono g3.ex
    cases r2
    obtain ⟨b, rfl, hb⟩ := r3.key_inv
    obtain ⟨n, o, ho, ro⟩ := g3.mu a _ hm
    cases o with
    | dT fs =>
      have ro : RepP T Hb3 kvs fs := ro
      have hlen : kvs.length = fs.length := by have := congrArg List.length ro.1; simpa using this
      refine ⟨a, _, rfl, .inr ⟨fs, k, b, ho, rfl, g3.sub _ _ hb, ?_, rfl⟩, ?_⟩
      · rw [← hlen, sizeLine_eq]; omega
      · have g4 := Go.chg g3.sub g3.mu (o := .dT (putK fs k v)) (z := .dT (putD kvs k e)) hm (ro.put ((r1.mono g2.ex).mono g3.ex))
        have g := ((g1.trans g2).trans g3).trans g4
        exact c.nx _ _ _ _ g (S.go g) kk
    | _ => exact ro.elim)
    (fun y μ' cls dd Hb' H' g r p => c.x S y μ' cls dd Hb' H' ((g1.trans g2).trans g) r p)) (fun y μ' cls dd Hb' H' g r p => c.x S y μ' cls dd Hb' H' (g1.trans g) r p)) (c.x S)
theorem ev_dnewTM (h : ∀ p, m0 p = none → P (.ptr p) (put m0 p (.dT []))) : EV T tDNewT W ⟨ρ, m0⟩ P XP := fun σ Hb H Q S q x p hp => by
  have g := Go.own S.sub S.mu (o := .dT []) (z := .dT []) hp ⟨rfl, fun i g f a _ => by simp at a⟩
  exact q _ _ _ _ _ g (.ptr p) (h p (mu_fresh S.mu hp))
theorem own_get {a : Addr} {Hb H : Hp} {d : D} {y : V} {kvs : List (Key × D)} {k : Key} (hm : μ a = some (.dK kvs)) (sm : SimMu T μ Hb H) (ex : Ex Hb H) (r : Rep T Hb (kD k) y) : ∃ o, DGet H a y o ∧ (∀ z, lookD kvs k = some z → ∃ w, o = some w ∧ Rep T Hb z w) ∧ (lookD kvs k = none → o = none) := by
  obtain ⟨_, o, ho, ro⟩ := sm a _ hm
  cases o with
  | dK fs =>
    have ro : RepP T Hb kvs fs := ro
    obtain rfl := rep_kD r
    exact ⟨valV fs k, .inl ⟨fs, k, .inl ho, rfl, rfl⟩, ro.lookP⟩
  | _ => exact ro.elim
theorem own_getT {a : Addr} {Hb H : Hp} {y : V} {kvs : List (List Key × D)} {k : List Key} (hm : μ a = some (.dT kvs)) (sm : SimMu T μ Hb H) (ex : Ex Hb H) (r : Rep T Hb (.key k) y) : ∃ o, DGet H a y o ∧ (∀ z, lookD kvs k = some z → ∃ w, o = some w ∧ Rep T Hb z w) ∧ (lookD kvs k = none → o = none) := by
  obtain ⟨_, o, ho, ro⟩ := sm a _ hm
  cases o with
  | dT fs =>
    have ro : RepP T Hb kvs fs := ro
    obtain ⟨b, rfl, hb⟩ := r.key_inv
    exact ⟨valV fs k, .inr ⟨fs, k, b, .inl ho, rfl, ex _ _ hb, rfl⟩, ro.lookP⟩
  | _ => exact ro.elim
theorem ev_dgetO {td ty : TE} (h : EV T td W ⟨ρ, m0⟩ (fun d μ1 => EV T ty W ⟨ρ, μ1⟩ (fun e μ2 => ∃ a kvs k z, d = .ptr a ∧ μ2 a = some (.dK kvs) ∧ e = kD k ∧ lookD kvs k = some z ∧ P z μ2) XP) XP) : EV T (tDGet td ty) W ⟨ρ, m0⟩ P XP := fun σ Hb H Q S q x =>
  h σ Hb H _ S (fun d μ1 v Hb1 H1 g1 r1 p1 => p1 σ Hb1 H1 _ (S.go g1) (fun e μ2 w Hb2 H2 g2 r2 p2 => by
    obtain ⟨a, kvs, k, z, rfl, hm, rfl, hz, p⟩ := p2
    cases r1
    obtain ⟨o, g, h1, _⟩ := own_get (d := .non) hm g2.mu g2.sub r2
    obtain ⟨w, rfl, rw'⟩ := h1 z hz
    exact ⟨a, w, rfl, g, q _ _ _ _ _ (g1.trans g2) rw' p⟩)
    (fun y μ' cls dd Hb' H' g r p => x y μ' cls dd Hb' H' (g1.trans g) r p)) x
theorem ev_dgetOT {td ty : TE} (h : EV T td W ⟨ρ, m0⟩ (fun d μ1 => EV T ty W ⟨ρ, μ1⟩ (fun e μ2 => ∃ a kvs k z, d = .ptr a ∧ μ2 a = some (.dT kvs) ∧ e = .key k ∧ lookD kvs k = some z ∧ P z μ2) XP) XP) : EV T (tDGet td ty) W ⟨ρ, m0⟩ P XP := fun σ Hb H Q S q x =>
  h σ Hb H _ S (fun d μ1 v Hb1 H1 g1 r1 p1 => p1 σ Hb1 H1 _ (S.go g1) (fun e μ2 w Hb2 H2 g2 r2 p2 => by
    obtain ⟨a, kvs, k, z, rfl, hm, rfl, hz, p⟩ := p2
    cases r1
    obtain ⟨o, g, h1, _⟩ := own_getT hm g2.mu g2.sub r2
    obtain ⟨w, rfl, rw'⟩ := h1 z hz
    exact ⟨a, w, rfl, g, q _ _ _ _ _ (g1.trans g2) rw' p⟩)
    (fun y μ' cls dd Hb' H' g r p => x y μ' cls dd Hb' H' (g1.trans g) r p)) x
theorem ev_dinOT {td ty : TE} (h : EV T ty W ⟨ρ, m0⟩ (fun e μ1 => EV T td W ⟨ρ, μ1⟩ (fun d μ2 => ∃ a kvs k, d = .ptr a ∧ μ2 a = some (.dT kvs) ∧ e = .key k ∧ P (.bl (lookD kvs k).isSome) μ2) XP) XP) : EV T (tDIn ty td) W ⟨ρ, m0⟩ P XP := fun σ Hb H Q S q x =>
  h σ Hb H _ S (fun e μ1 v Hb1 H1 g1 r1 p1 => p1 σ Hb1 H1 _ (S.go g1) (fun d μ2 w Hb2 H2 g2 r2 p2 => by
    obtain ⟨a, kvs, k, rfl, hm, rfl, p⟩ := p2
    cases r2
    obtain ⟨o, g, h1, h2⟩ := own_getT hm g2.mu g2.sub (r1.mono g2.ex)
    have eo : o.isSome = (lookD kvs k).isSome := by
      cases hz : lookD kvs k with
      | none => rw [h2 hz]; rfl
      | some z => obtain ⟨w, rfl, _⟩ := h1 z hz; rfl
    refine ⟨a, o, rfl, g, q _ _ _ _ _ (g1.trans g2) (.bl _) ?_⟩
    rw [eo]
    exact p)
    (fun y μ' cls dd Hb' H' g r p => x y μ' cls dd Hb' H' (g1.trans g) r p)) x
theorem ev_dninOT {td ty : TE} (h : EV T ty W ⟨ρ, m0⟩ (fun e μ1 => EV T td W ⟨ρ, μ1⟩ (fun d μ2 => ∃ a kvs k, d = .ptr a ∧ μ2 a = some (.dT kvs) ∧ e = .key k ∧ P (.bl (!(lookD kvs k).isSome)) μ2) XP) XP) : EV T (tDNotIn ty td) W ⟨ρ, m0⟩ P XP := fun σ Hb H Q S q x =>
  h σ Hb H _ S (fun e μ1 v Hb1 H1 g1 r1 p1 => p1 σ Hb1 H1 _ (S.go g1) (fun d μ2 w Hb2 H2 g2 r2 p2 => by
    obtain ⟨a, kvs, k, rfl, hm, rfl, p⟩ := p2
    cases r2
    obtain ⟨o, g, h1, h2⟩ := own_getT hm g2.mu g2.sub (r1.mono g2.ex)
    have eo : o.isSome = (lookD kvs k).isSome := by
      cases hz : lookD kvs k with
      | none => rw [h2 hz]; rfl
      | some z => obtain ⟨w, rfl, _⟩ := h1 z hz; rfl
    refine ⟨a, o, rfl, g, q _ _ _ _ _ (g1.trans g2) (.bl _) ?_⟩
    rw [eo]
    exact p)
    (fun y μ' cls dd Hb' H' g r p => x y μ' cls dd Hb' H' (g1.trans g) r p)) x
theorem ev_dninO {td ty : TE} (h : EV T ty W ⟨ρ, m0⟩ (fun e μ1 => EV T td W ⟨ρ, μ1⟩ (fun d μ2 => ∃ a kvs k, d = .ptr a ∧ μ2 a = some (.dK kvs) ∧ e = kD k ∧ P (.bl (!(lookD kvs k).isSome)) μ2) XP) XP) : EV T (tDNotIn ty td) W ⟨ρ, m0⟩ P XP := fun σ Hb H Q S q x =>
  h σ Hb H _ S (fun e μ1 v Hb1 H1 g1 r1 p1 => p1 σ Hb1 H1 _ (S.go g1) (fun d μ2 w Hb2 H2 g2 r2 p2 => by
    obtain ⟨a, kvs, k, rfl, hm, rfl, p⟩ := p2
    cases r2
    obtain ⟨o, g, h1, h2⟩ := own_get (d := .non) hm g2.mu g2.sub (r1.mono g2.ex)
    have eo : o.isSome = (lookD kvs k).isSome := by
      cases hz : lookD kvs k with
      | none => rw [h2 hz]; rfl
      | some z => obtain ⟨w, rfl, _⟩ := h1 z hz; rfl
    refine ⟨a, o, rfl, g, q _ _ _ _ _ (g1.trans g2) (.bl _) ?_⟩
    rw [eo]
    exact p)
    (fun y μ' cls dd Hb' H' g r p => x y μ' cls dd Hb' H' (g1.trans g) r p)) x
end
end Pw
namespace Pw
open PySem PySem.Spec PyProof.Rows L2
open Evl (Ex ex_l ex_t fresh_back)
def ItD (T : Cfg) (J : It) (n : Nat) (f : Nat → D) (d : Addr) (z : MO) : Prop := ∀ Hb H μ, Ex Hb H → SimMu T μ Hb H → μ d = some z →
  (∀ i, i < n → J.go i H) ∧ (∀ i, n ≤ i → J.stop i H) ∧ ∀ i x H', i < n → J.yld i H x H' → ∃ Hb', Go T μ Hb H μ Hb' H' ∧ Rep T Hb' (f i) x
def IVD (T : Cfg) (wi : TI) (W : WX) (s : S) (P : Nat → (Nat → D) → Addr → MO → Mu → Prop) (XP : XW) : Prop :=
  ∀ σ Hb H R, Sim T s σ Hb H → (∀ J n f d z μ' Hb' H', Go T s.m Hb H μ' Hb' H' → ItD T J n f d z → P n f d z μ' → R J H') →
    (∀ x μ' cls dd Hb' H', Go T s.m Hb H μ' Hb' H' → RepX T Hb' x cls dd → XP x μ' → W cls dd σ H') → wi σ H R
section
variable {T : Cfg} {W : WX} {s : S} {ρ : List (Option D)} {m0 : Mu} {K : Out → Prop} {ta tb te : TE} {m m1 : Mu} {Hb H Hb1 H1 : Hp} {Dn : Ends}
theorem ev_lcJ {wi : TI} {g : TG} {is vs : List Nat} {tt : TT} {P : D → Mu → Prop} {XP : XW} (hv : ∀ i ∈ is, i ∈ vs)
    (h : IVD T wi W ⟨ρ, m0⟩ (fun n f d z μ => n ≤ 100000 ∧ ∃ I : Nat → List D → Mu → Prop, I 0 [] μ ∧ (∀ i acc μ', I i acc μ' → μ' d = some z) ∧ (∀ i acc μ', i < n → acc.length ≤ i → I i acc μ' → GV T g is (f i) ⟨wipeD ρ vs, μ'⟩ (fun s'' => TV T tt (fun _ _ _ _ => False) s'' (fun b μ1 =>
      (b = true → EV T te (fun _ _ _ _ => False) ⟨s''.r, μ1⟩ (fun e μ2 => I (i + 1) (acc ++ [e]) μ2) (fun _ _ => False)) ∧ (b = false → I (i + 1) acc μ1)) (fun _ _ => False))) ∧ ∀ acc μ', I n acc μ' → P (.lst acc) μ') XP) :
    EV T (tLc wi g tt te vs) W ⟨ρ, m0⟩ P XP := fun σ Hb H Q S q x => by
  refine h σ Hb H _ S (fun J n f d z μ Hb1 H1 g1 ok p => ?_) x
  obtain ⟨hn, I, i0, hI, turn, done⟩ := p
  have S1 := S.go g1
  intro Dl hD
  have hDb : Hb1 Dl = none := fresh_back S1.sub hD
  have hDm : μ Dl = none := by
    cases e : μ Dl with
    | none => rfl
    | some m =>
      obtain ⟨_, o, ho, _⟩ := g1.mu Dl m e
      rw [hD] at ho; cases ho
  -- the new list is one's own at Dl
  have gD : Go T μ Hb1 H1 (put μ Dl (.lst [])) Hb1 (upd H1 Dl (.lst [])) := Go.own g1.sub g1.mu hD RepL.nil
  refine ⟨fun i m H' => m = n - i ∧ i ≤ n ∧ ∃ acc μ' Hb', acc.length ≤ i ∧ μ' Dl = none ∧ Go T μ Hb1 H1 (put μ' Dl (.lst acc)) Hb' H' ∧ I i acc μ', ⟨n, by simp, Nat.zero_le _, [], μ, Hb1, Nat.le_refl _, hDm, gD, i0⟩, ?_⟩
  rintro i m H' ⟨rfl, hi, acc, μ', Hb', hl, hm', g', i'⟩
  have S' : Sim T ⟨ρ, put μ' Dl (.lst acc)⟩ σ Hb' H' := S1.go g'
  have hdz : put μ' Dl (.lst acc) d = some z := by
    rw [put_ne (fun q => by have := hI i acc μ' i'; rw [q, hm'] at this; cases this)]
    exact hI i acc μ' i'
  obtain ⟨go, stop, yld⟩ := ok Hb' H' _ g'.sub g'.mu hdz
  by_cases hlt : i < n
  · refine .inr ⟨go i hlt, fun H2 => ∃ acc2 μ2 Hb2, acc2.length ≤ i + 1 ∧ μ2 Dl = none ∧ Go T μ Hb1 H1 (put μ2 Dl (.lst acc2)) Hb2 H2 ∧ I (i + 1) acc2 μ2, ?_, ?_⟩
    · rintro H2 ⟨acc2, μ2, Hb2, hl2, hm2, g2, i2⟩
      exact ⟨n - (i + 1), by omega, rfl, hlt, acc2, μ2, Hb2, hl2, hm2, g2, i2⟩
    · intro y H2 hy
      obtain ⟨Hb2, g2, r2⟩ := yld i y H2 hlt hy
      have g02 := g'.trans g2
      -- the list set aside: the store without it
      have aside : ∀ {μa : Mu} {Hba Ha : Hp} {ac : List D}, μa Dl = none → SimMu T (put μa Dl (.lst ac)) Hba Ha → SimMu T μa Hba Ha := fun {μa Hba Ha ac} hn hs => hs.as fun a m ha => by
        refine hs a m ?_
        rw [put_ne (fun e => by rw [e, hn] at ha; cases ha)]
        exact ha
      have back : ∀ {μa μb : Mu} {Hba Ha Hbb Hc : Hp} {ac : List D}, μa Dl = none → SimMu T (put μa Dl (.lst ac)) Hba Ha → Go T μa Hba Ha μb Hbb Hc → μb Dl = none ∧ Go T (put μa Dl (.lst ac)) Hba Ha (put μb Dl (.lst ac)) Hbb Hc := fun {μa μb Hba Ha Hbb Hc ac} hn hs gg => by
        obtain ⟨hbn, o, ho, ro⟩ := hs Dl _ put_same
        obtain ⟨ho', hbn'⟩ := gg.keepN ho hbn hn ro
        have mb : μb Dl = none := by
          cases e : μb Dl with
          | none => rfl
          | some m =>
            rcases gg.new Dl m e with z | z
            · exact absurd hn z
            · rw [ho] at z; cases z
        refine ⟨mb, gg.ex, fun a u h1 h2 h3 h4 => ?_, fun a m h1 => ?_, gg.alive, gg.sub, gg.mu.as fun a m h1 => ?_⟩
        · have ne : a ≠ Dl := fun e => by rw [e, put_same] at h3; cases h3
          rw [put_ne ne] at h3
          exact gg.keep a u h1 h2 h3 h4
        · by_cases e : a = Dl
          · subst e; exact .inl (by rw [put_same]; simp)
          · rw [put_ne e] at h1 ⊢; exact gg.new a m h1
        · by_cases e : a = Dl
          · subst e
            rw [put_same] at h1
            cases h1
            exact ⟨hbn', o, ho', ro.mono gg.ex⟩
          · rw [put_ne e] at h1; exact gg.mu a m h1
      have Sw0 : Sim T ⟨ρ, put μ' Dl (.lst acc)⟩ σ Hb2 H2 := S'.go g2
      have Sw : Sim T ⟨ρ, μ'⟩ σ Hb2 H2 := ⟨Sw0.len, Sw0.vars, Sw0.sub, aside hm' Sw0.mu⟩
      have Sww : Sim T ⟨wipeD ρ vs, μ'⟩ (L2.wipe σ vs) Hb2 H2 := Sw.wipe vs
      refine turn i acc μ' hlt hl i' y (L2.wipe σ vs) Hb2 H2 _ Sww r2 fun s3 σ3 em S3 wq k => ?_
      have em : s3.m = μ' := em
      refine ⟨?_, ?_⟩
      · have e1 := wq vs hv
        have idem : ∀ (us : List Nat), (∀ u ∈ us, u ∈ vs) → L2.wipe (L2.wipe σ vs) us = L2.wipe σ vs := by
          intro us
          induction us with
          | nil => intro _; rfl
          | cons u us ih =>
            intro hu
            show (L2.wipe (L2.wipe σ vs) us).set u none = L2.wipe σ vs
            rw [ih fun z hz => hu z (List.mem_cons_of_mem _ hz)]
            have : ∀ (ws : List Nat) (u : Nat), u ∈ ws → (L2.wipe σ ws).set u none = L2.wipe σ ws := by
              intro ws
              induction ws with
              | nil => intro u hu; cases hu
              | cons w ws ih2 =>
                intro u hu
                show ((L2.wipe σ ws).set w none).set u none = (L2.wipe σ ws).set w none
                by_cases e : u = w
                · subst e; rw [List.set_set]
                · have hu2 : u ∈ ws := by
                    rcases List.mem_cons.mp hu with z | z
                    · exact absurd z e
                    · exact z
                  rw [List.set_comm _ _ (fun z => e z.symm), ih2 u hu2]
            exact this vs u (hu u (by simp))
        rw [e1]
        exact idem vs fun _ z => z
      · refine k σ3 Hb2 H2 _ S3 (fun b μ3 Hb3 H3 g3 kk => ?_) (fun _ _ _ _ _ _ _ _ z => z.elim)
        rw [em] at g3
        obtain ⟨hm3, g3'⟩ := back hm' Sw0.mu g3
        have S3' : Sim T ⟨s3.r, μ3⟩ σ3 Hb3 H3 := S3.go (by rw [em]; exact g3)
        cases b with
        | false =>
          show ∃ acc2 μ2 Hb2, _
          exact ⟨acc, μ3, Hb3, by omega, hm3, g02.trans g3', kk.2 rfl⟩
        | true =>
          show te σ3 H3 _
          refine kk.1 rfl σ3 Hb3 H3 _ S3' (fun e μ4 w Hb4 H4 g4 r4 i4 => ?_) (fun _ _ _ _ _ _ _ _ z => z.elim)
          obtain ⟨hm4, g4'⟩ := back hm3 g3'.mu g4
          obtain ⟨_, o, ho, ro⟩ := g4'.mu Dl _ put_same
          cases o with
          | lst xs =>
            have ro : RepL T Hb4 acc xs := ro
            have g5 := Go.chg g4'.sub g4'.mu (p := Dl) (o := .lst (xs ++ [w])) (z := .lst (acc ++ [e])) put_same (ro.app (.cons r4 .nil))
            rw [put_put] at g5
            exact ⟨xs, ho, Evl.sz_lt (by rw [← ro.1]; omega), acc ++ [e], μ4, Hb4, by simp; omega, hm4, ((g02.trans g3').trans g4').trans g5, i4⟩
          | _ => exact ro.elim
  · have e : i = n := by omega
    subst e
    obtain ⟨hbn, o, ho, ro⟩ := g'.mu Dl _ put_same
    cases o with
    | lst xs =>
      have gf := Go.freeze g'.sub g'.mu (p := Dl) put_same ho
      rw [del_put hm'] at gf
      have ro : RepL T Hb' acc xs := ro
      exact .inl ⟨stop i (Nat.le_refl _), q _ _ _ _ _ ((g1.trans g').trans gf) (.lst upd_same ro.1 (ro.mono gf.ex).2) (done acc μ' i')⟩
    | _ => exact ro.elim
end
section
variable {T : Cfg} {W : WX} {ρ : List (Option D)} {m0 μ : Mu} {P : D → Mu → Prop} {XP : XW} {te te' : TE} {ta : TA} {K : Out → Prop} {E : XK}
theorem ev_lockE {t : TE} {d : Addr} {kvs : List (Key × D)} (hm : m0 d = some (.dK kvs)) (h : ∀ o, EV T t W ⟨ρ, put m0 d (.lkK kvs o)⟩ (fun e μ => μ d = some (.lkK kvs o) ∧ P e (put μ d (.dK kvs))) (fun _ _ => False)) : EV T (tLockE t) W ⟨ρ, m0⟩ P XP := fun σ Hb H Q S q x => by
  obtain ⟨hb, o, ho, ro⟩ := S.mu d _ hm
  cases o with
  | dK fs =>
    have ro : RepP T Hb kvs fs := ro
    refine ⟨d, .dK fs, ho, trivial, fun od => ?_⟩
    have g1 := Go.chg S.sub S.mu (o := .frz od (.dK fs)) (z := .lkK kvs (.frz od (.dK fs))) hm ⟨rfl, od, fs, rfl, ro⟩
    refine h (.frz od (.dK fs)) σ Hb _ _ (S.go g1) (fun e μ v Hb' H' g r p => ?_) (fun _ _ _ _ _ _ _ _ z => z.elim)
    obtain ⟨hd, p⟩ := p
    obtain ⟨_, o', ho', h1, od', fs', h2, ro'⟩ := g.mu d _ hd
    subst h1
    cases h2
    refine ⟨ho', ?_⟩
    have g2 := Go.chg g.sub g.mu (o := .dK fs) (z := .dK kvs) hd ro'
    exact q _ _ _ _ _ ((g1.trans g).trans g2) r p
  | _ => exact ro.elim
theorem iv_keysD {P : Nat → (Nat → D) → Addr → MO → Mu → Prop} (h : EV T te W ⟨ρ, m0⟩ (fun e μ => ∃ d kvs o, e = .ptr d ∧ μ d = some (.lkK kvs o) ∧ P kvs.length (fun i => kD (((kvs[i]?).map Prod.fst).getD (.inl 0))) d (.lkK kvs o) μ) XP) : IVD T (iKeys te) W ⟨ρ, m0⟩ P XP := fun σ Hb H R S q x =>
  h σ Hb H _ S (fun e μ v Hb1 H1 g r p => by
    obtain ⟨d, kvs, o, rfl, hd, p⟩ := p
    cases r
    obtain ⟨_, o', ho', h1, od, fs, h2, rp⟩ := g.mu d _ hd
    subst h1
    subst h2
    refine ⟨d, od, rfl, .inl ⟨fs, ho', q _ _ _ _ _ _ _ _ g ?_ p⟩⟩
    intro Hb H μ' e2 sm hm
    obtain ⟨_, o', ho', h1, od', fs', h2, rp⟩ := sm d _ hm
    subst h1
    cases h2
    have len : kvs.length = fs.length := by have := congrArg List.length rp.1; simpa using this
    refine ⟨fun i hi => ⟨ho', by rw [← len]; exact hi⟩, fun i hi => ⟨ho', by rw [← len]; exact hi⟩, ?_⟩
    rintro i x H' hi ⟨rfl, k, v, hk, rfl⟩
    refine ⟨_, .refl e2 sm, ?_⟩
    have e3 : (kvs.map (·.1))[i]? = (fs.map (·.1))[i]? := by rw [rp.1]
    rw [List.getElem?_map, List.getElem?_map, hk] at e3
    have e4 : ((kvs[i]?).map Prod.fst).getD (.inl 0) = k := by
      have : (kvs[i]?).map Prod.fst = some k := e3
      rw [this]; rfl
    show Rep T _ (kD (((kvs[i]?).map Prod.fst).getD (.inl 0))) _
    rw [e4]
    cases k with
    | inl i => exact .int i
    | inr z => exact .str z) x
theorem iv_valsD {P : Nat → (Nat → D) → Addr → MO → Mu → Prop} (h : EV T te W ⟨ρ, m0⟩ (fun e μ => ∃ d kvs o, e = .ptr d ∧ μ d = some (.lkK kvs o) ∧ P kvs.length (fun i => ((kvs[i]?).map Prod.snd).getD .non) d (.lkK kvs o) μ) XP) : IVD T (iVals te) W ⟨ρ, m0⟩ P XP := fun σ Hb H R S q x =>
  h σ Hb H _ S (fun e μ v Hb1 H1 g r p => by
    obtain ⟨d, kvs, o, rfl, hd, p⟩ := p
    cases r
    obtain ⟨_, o', ho', h1, od, fs, h2, rp⟩ := g.mu d _ hd
    subst h1
    subst h2
    refine ⟨d, od, fs, rfl, ho', q _ _ _ _ _ _ _ _ g ?_ p⟩
    intro Hb H μ' e2 sm hm
    obtain ⟨_, o', ho', h1, od', fs', h2, rp⟩ := sm d _ hm
    subst h1
    cases h2
    have len : kvs.length = fs.length := by have := congrArg List.length rp.1; simpa using this
    refine ⟨fun i hi => ⟨ho', by rw [← len]; exact hi⟩, fun i hi => ⟨ho', by rw [← len]; exact hi⟩, ?_⟩
    rintro i x H' hi ⟨rfl, k, hk⟩
    refine ⟨_, .refl e2 sm, ?_⟩
    have e4 : kvs[i]? = some kvs[i] := List.getElem?_eq_getElem hi
    show Rep T _ (((kvs[i]?).map Prod.snd).getD .non) _
    rw [e4]
    exact rp.2 i kvs[i] (k, x) e4 hk) x
theorem ev_lcKX {wi : TI} {i : Nat} {tt : TT} (h : IVD T wi W ⟨ρ, m0⟩ (fun n f d z μ => n ≤ 100000 ∧ μ d = some z ∧ ∃ g : Nat → Option D, (∀ k, k < n → TV T tt (fun _ _ _ _ => False) ⟨(wipeD ρ [i]).set i (some (f k)), μ⟩ (fun b μ1 => μ1 = μ ∧ (b = true → EV T te' (fun _ _ _ _ => False) ⟨(wipeD ρ [i]).set i (some (f k)), μ⟩ (fun z μ2 => g k = some z ∧ μ2 = μ) (fun _ _ => False)) ∧ (b = false → g k = none)) (fun _ _ => False)) ∧ P (.lst ((List.range n).filterMap g)) μ) XP) : EV T (tLc wi (gName i) tt te' [i]) W ⟨ρ, m0⟩ P XP :=
  ev_lcJ (is := [i]) (fun _ h => h) (fun σ Hb H Q S q x => h σ Hb H Q S (fun jj n f d z μ Hb' H' g ok p => q jj n f d z μ Hb' H' g ok (by
    obtain ⟨hn, hd, gg, turn, done⟩ := p
    refine ⟨hn, fun k acc μ' => μ' = μ ∧ acc = (List.range k).filterMap gg, ⟨rfl, by simp⟩, fun k acc μ' e => by rw [e.1]; exact hd, fun k acc μ' hk _ ⟨e1, e2⟩ => ?_, fun acc μ' ⟨e1, e2⟩ => by subst e1 e2; exact done⟩
    subst e1 e2
    refine gv_name fun σ Hb H Q S q x => turn k hk σ Hb H Q S (fun b μ1 Hb' H' g p => q b μ1 Hb' H' g ?_) x
    obtain ⟨rfl, h1, h2⟩ := p
    refine ⟨fun e => (h1 e).imp fun z μ2 ⟨e1, e2⟩ => ⟨e2, ?_⟩, fun e => ⟨rfl, ?_⟩⟩
    · rw [range_succ_fm, e1]; rfl
    · rw [range_succ_fm, h2 e]; simp)) x)
theorem ev_dgetK {td ty : TE} (h : EV T td W ⟨ρ, m0⟩ (fun d μ1 => EV T ty W ⟨ρ, μ1⟩ (fun e μ2 => ∃ a kvs o k z, d = .ptr a ∧ μ2 a = some (.lkK kvs o) ∧ e = kD k ∧ lookD kvs k = some z ∧ P z μ2) XP) XP) : EV T (tDGet td ty) W ⟨ρ, m0⟩ P XP := fun σ Hb H Q S q x =>
  h σ Hb H _ S (fun d μ1 v Hb1 H1 g1 r1 p1 => p1 σ Hb1 H1 _ (S.go g1) (fun e μ2 w Hb2 H2 g2 r2 p2 => by
    obtain ⟨a, kvs, o, k, z, rfl, hm, rfl, hz, p⟩ := p2
    cases r1
    obtain ⟨_, o', ho', h1, od, fs, h2, rp⟩ := g2.mu a _ hm
    subst h1
    subst h2
    obtain rfl := rep_kD r2
    obtain ⟨w, hw, rw'⟩ := (rp.lookP (k := k)).1 z hz
    exact ⟨a, w, rfl, .inl ⟨fs, k, .inr ⟨od, ho'⟩, rfl, hw.symm⟩, q _ _ _ _ _ (g1.trans g2) rw' p⟩)
    (fun y μ' cls dd Hb' H' g r p => x y μ' cls dd Hb' H' (g1.trans g) r p)) x
theorem ev_meth {c : Ct} {k : Nat} {mn : Str} (h : EV T te W ⟨ρ, m0⟩ (fun d μ1 => ∃ a gs, d = .ptr a ∧ μ1 a = some (.ins k gs) ∧ gs.lookup mn = none ∧ EA T ta W ⟨ρ, μ1⟩ (fun ds μ => c (.ptr a :: ds) μ P (fun _ _ => False)) XP) XP) : EV T (tMeth (T.cls k) mn (spOf T c) [] E te ta) W ⟨ρ, m0⟩ P XP := fun σ Hb H Q S q x =>
  h σ Hb H _ S (fun d μ1 v Hb1 H1 g1 r1 p1 => by
    obtain ⟨a, gs, rfl, hm, hl, p1⟩ := p1
    cases r1
    obtain ⟨_, o, ho, ro⟩ := g1.mu a _ hm
    cases o with
    | ins C dx fs =>
      obtain ⟨rfl, ro⟩ := ro
      refine ⟨a, dx, fs, rfl, ho, RepP.lookNone ro.1 hl, ?_⟩
      refine p1 σ Hb1 H1 _ (S.go g1) (fun ds μ vs Hb2 H2 g2 r2 p2 => ?_) (fun y μ' cls dd Hb' H' g r p => x y μ' cls dd Hb' H' (g1.trans g) r p)
      refine ⟨.ptr a :: ds, μ, Hb2, _, _, g2.sub, g2.mu, .cons (.ptr a) (by simpa using r2), p2, fun d μ' v Hb' H' g' r' k => q _ _ _ _ _ ((g1.trans g2).trans g') r' k, fun y μ' cls dd Hb' H' g' r' k => k.elim⟩
    | _ => exact ro.elim) x
theorem ev_calA {c : Ct} (h : EA T ta W ⟨ρ, m0⟩ (fun ds μ => c ds μ P (fun _ _ => False)) XP) : EV T (tCall (spOf T c) [] E ta) W ⟨ρ, m0⟩ P XP := fun σ Hb H Q S q x =>
  h σ Hb H _ S (fun ds μ vs Hb1 H1 g r p => ⟨ds, μ, Hb1, _, _, g.sub, g.mu, by simpa using r, p, fun d μ' v Hb' H' g' r' k => q _ _ _ _ _ (g.trans g') r' k, fun y μ' cls dd Hb' H' g' r' k => k.elim⟩) x
theorem ev_makA {c : Ct} {k : Nat} (h : EA T ta W ⟨ρ, m0⟩ (fun ds μ => ∀ p, μ p = none → c (.ptr p :: ds) (put μ p (.ins k [])) (fun d μ' => d = .non ∧ P (.ptr p) μ') (fun _ _ => False)) XP) : EV T (tMake (T.cls k) (spOf T c) [] E ta) W ⟨ρ, m0⟩ P XP := fun σ Hb H Q S q x =>
  h σ Hb H _ S (fun ds μ vs Hb1 H1 g r p => by
    intro a dx ha hdx hne
    have g1 : Go T μ Hb1 H1 μ (upd Hb1 dx (.own a)) (upd H1 dx (.own a)) := Go.lay g.sub g.mu hdx
    have ha' : (upd H1 dx (.own a)) a = none := by rw [upd_ne (fun e => hne e.symm)]; exact ha
    have g2 := Go.own g1.sub g1.mu (o := .ins (T.cls k) dx []) (z := .ins k []) ha' ⟨rfl, rfl, fun i g f e => by simp at e⟩
    have hm1 : μ a = none := mu_fresh g.mu ha
    refine ⟨.ptr a :: ds, put μ a (.ins k []), _, _, _, g2.sub, g2.mu, .cons (.ptr a) (by simpa using r.mono (g1.trans g2).ex), p a hm1, fun d μ' v Hb' H' g' r' z => ?_, fun y μ' cls dd Hb' H' g' r' z => z.elim⟩
    obtain ⟨rfl, z⟩ := z
    cases r'
    exact ⟨rfl, q _ _ _ _ _ (((g.trans g1).trans g2).trans g') (.ptr a) z⟩) x
theorem ev_get2OT {td ty tx : TE} (h : EV T td W ⟨ρ, m0⟩ (fun d μ1 => ∃ a kvs0, d = .ptr a ∧ μ1 a = some (.dT kvs0) ∧ EV T ty W ⟨ρ, μ1⟩ (fun e μ2 => EV T tx W ⟨ρ, μ2⟩ (fun f μ3 => ∃ kvs k, e = .key k ∧ μ3 a = some (.dT kvs) ∧ P ((lookD kvs k).getD f) μ3) XP) XP) XP) : EV T (tDGet2 td ty tx) W ⟨ρ, m0⟩ P XP := fun σ Hb H Q S q x =>
  h σ Hb H _ S (fun d μ1 v Hb1 H1 g1 r1 p1 => by
    obtain ⟨a, kvs0, rfl, hm, p1⟩ := p1
    cases r1
    have hd : ∃ es, H1 a = some (.dT es) := by
      obtain ⟨_, o, ho, ro⟩ := g1.mu a _ hm
      cases o with
      | dT es => exact ⟨es, ho⟩
      | _ => exact ro.elim
    obtain ⟨es, hes⟩ := hd
    refine ⟨a, rfl, .inr ⟨es, .inl hes⟩, ?_⟩
    refine p1 σ Hb1 H1 _ (S.go g1) (fun e μ2 w Hb2 H2 g2 r2 p2 => ?_) (fun y μ' cls dd Hb' H' g r p => x y μ' cls dd Hb' H' (g1.trans g) r p)
    refine p2 σ Hb2 H2 _ ((S.go g1).go g2) (fun f μ3 z Hb3 H3 g3 r3 p3 => ?_) (fun y μ' cls dd Hb' H' g r p => x y μ' cls dd Hb' H' ((g1.trans g2).trans g) r p)
    obtain ⟨kvs, k, rfl, hm3, p⟩ := p3
    obtain ⟨o, g, h1, h2⟩ := own_getT hm3 g3.mu g3.sub (r2.mono g3.ex)
    refine ⟨o, g, ?_⟩
    cases hv : lookD kvs k with
    | none =>
      rw [h2 hv]
      rw [hv] at p
      exact q _ _ _ _ _ ((g1.trans g2).trans g3) r3 p
    | some y =>
      obtain ⟨w', e', r'⟩ := h1 y hv
      rw [e']
      rw [hv] at p
      exact q _ _ _ _ _ ((g1.trans g2).trans g3) r' p) x
theorem sv_daugO {td ty tv : TE} {f : Int → Int → Int} {rd : V → V → Hp → VK → Prop} (hrd : ∀ i j H Q, Q (.int (f i j)) H → rd (.int i) (.int j) H Q) (h : EV T td W ⟨ρ, m0⟩ (fun d μ1 => EV T ty W ⟨ρ, μ1⟩ (fun i μ2 => ∃ a kvs k n, d = .ptr a ∧ μ2 a = some (.dK kvs) ∧ i = kD k ∧ lookD kvs k = some (.int n) ∧ kvs.length < 1000 ∧ EV T tv W ⟨ρ, μ2⟩ (fun e μ3 => ∃ j, e = .int j ∧ μ3 = μ2 ∧ K (.nx ⟨ρ, put μ2 a (.dK (putD kvs k (.int (f n j))))⟩)) (xk ⟨ρ, m0⟩ K)) (xk ⟨ρ, m0⟩ K)) (xk ⟨ρ, m0⟩ K)) : SV T (sDAug td ty tv rd) W ⟨ρ, m0⟩ K := fun σ Hb H Dn S c =>
  h σ Hb H _ S (fun d μ1 v Hb1 H1 g1 r1 p1 => p1 σ Hb1 H1 _ (S.go g1) (fun i μ2 w Hb2 H2 g2 r2 p2 => by
    obtain ⟨a, kvs, k, n, rfl, hm, rfl, hz, hl, p⟩ := p2
    cases r1
    obtain ⟨o, g, h1, _⟩ := own_get (d := .non) hm g2.mu g2.sub r2
    obtain ⟨w', rfl, rw'⟩ := h1 _ hz
    cases rw'
    refine ⟨a, _, rfl, g, p σ Hb2 H2 _ ((S.go g1).go g2) (fun e μ3 y2 Hb3 H3 g3 r3 p3 => ?_) (fun y μ' cls dd Hb' H' g r p => c.x S y μ' cls dd Hb' H' ((g1.trans g2).trans g) r p)⟩
    obtain ⟨j, rfl, rfl, kk⟩ := p3
    cases r3
    refine hrd n j _ _ ?_
    obtain ⟨_, o, ho, ro⟩ := g3.mu a _ hm
    obtain rfl := rep_kD r2
    cases o with
    | dK fs =>
      have ro : RepP T Hb3 kvs fs := ro
      have hlen : kvs.length = fs.length := by have := congrArg List.length ro.1; simpa using this
      refine ⟨_, .inl ⟨fs, k, ho, rfl, by rw [← hlen, sizeLine_eq]; omega, rfl⟩, ?_⟩
      have g4 := Go.chg g3.sub g3.mu (o := .dK (putK fs k (.int (f n j)))) (z := .dK (putD kvs k (.int (f n j)))) hm (ro.put (.int _))
      have gg := ((g1.trans g2).trans g3).trans g4
      exact c.nx _ _ _ _ gg (S.go gg) kk
    | _ => exact ro.elim)
    (fun y μ' cls dd Hb' H' g r p => c.x S y μ' cls dd Hb' H' (g1.trans g) r p)) (c.x S)
theorem sv_daugOT {td ty tv : TE} {f : Int → Int → Int} {rd : V → V → Hp → VK → Prop} (hrd : ∀ i j H Q, Q (.int (f i j)) H → rd (.int i) (.int j) H Q) (h : EV T td W ⟨ρ, m0⟩ (fun d μ1 => EV T ty W ⟨ρ, μ1⟩ (fun i μ2 => ∃ a kvs k n, d = .ptr a ∧ μ2 a = some (.dT kvs) ∧ i = .key k ∧ lookD kvs k = some (.int n) ∧ kvs.length < 1000 ∧ EV T tv W ⟨ρ, μ2⟩ (fun e μ3 => ∃ j, e = .int j ∧ μ3 = μ2 ∧ K (.nx ⟨ρ, put μ2 a (.dT (putD kvs k (.int (f n j))))⟩)) (xk ⟨ρ, m0⟩ K)) (xk ⟨ρ, m0⟩ K)) (xk ⟨ρ, m0⟩ K)) : SV T (sDAug td ty tv rd) W ⟨ρ, m0⟩ K := fun σ Hb H Dn S c =>
  h σ Hb H _ S (fun d μ1 v Hb1 H1 g1 r1 p1 => p1 σ Hb1 H1 _ (S.go g1) (fun i μ2 w Hb2 H2 g2 r2 p2 => by
    obtain ⟨a, kvs, k, n, rfl, hm, rfl, hz, hl, p⟩ := p2
    cases r1
    obtain ⟨o, g, h1, _⟩ := own_getT hm g2.mu g2.sub r2
    obtain ⟨w', rfl, rw'⟩ := h1 _ hz
    cases rw'
    obtain ⟨b, rfl, hb⟩ := r2.key_inv
    refine ⟨a, _, rfl, g, p σ Hb2 H2 _ ((S.go g1).go g2) (fun e μ3 y2 Hb3 H3 g3 r3 p3 => ?_) (fun y μ' cls dd Hb' H' g r p => c.x S y μ' cls dd Hb' H' ((g1.trans g2).trans g) r p)⟩
    obtain ⟨j, rfl, rfl, kk⟩ := p3
    cases r3
    refine hrd n j _ _ ?_
    obtain ⟨_, o, ho, ro⟩ := g3.mu a _ hm
    cases o with
    | dT fs =>
      have ro : RepP T Hb3 kvs fs := ro
      have hlen : kvs.length = fs.length := by have := congrArg List.length ro.1; simpa using this
      refine ⟨_, .inr ⟨fs, k, b, ho, rfl, g3.sub _ _ (g3.ex _ _ hb), by rw [← hlen, sizeLine_eq]; omega, rfl⟩, ?_⟩
      have g4 := Go.chg g3.sub g3.mu (o := .dT (putK fs k (.int (f n j)))) (z := .dT (putD kvs k (.int (f n j)))) hm (ro.put (.int _))
      have gg := ((g1.trans g2).trans g3).trans g4
      exact c.nx _ _ _ _ gg (S.go gg) kk
    | _ => exact ro.elim)
    (fun y μ' cls dd Hb' H' g r p => c.x S y μ' cls dd Hb' H' (g1.trans g) r p)) (c.x S)
theorem cv_dictPM {d : D} {kds : List (Key × D)} (hd : Seqd d (kds.map fun kd => .tup [kD kd.1, kd.2])) (hn : (kds.map Prod.fst).Nodup) (p : ∀ a, μ a = none → P (.ptr a) (put μ a (.dK kds))) : CV T (rDictP T.K) [d] μ P := fun xs Hb H Q ex sm r q => by
  obtain ⟨v, rfl, r1⟩ := one_inv r
  obtain ⟨a, ys, rfl, hx, r2⟩ := hd.inv r1
  obtain ⟨ps, kvs, rfl, hp, rp⟩ := pairs_rep r2
  refine ⟨a, ps, kvs, rfl, ex_l ex hx, Pw.Paired.sq ex hp, fun l hl => ?_⟩
  have hnd : ((([] : List (Key × V)) ++ kvs).map Prod.fst).Nodup := by rw [List.nil_append, ← rp.1]; exact hn
  rw [merge_nd hnd, List.nil_append]
  have g := Go.own ex sm (o := .dK kvs) (z := .dK kds) hl rp
  exact q _ _ _ _ _ g (.ptr l) (p l (mu_fresh sm hl))
def rDictD : List V → Hp → VK → Prop := fun xs H Q => ∃ (a : Addr) (kvs : List (Key × V)), xs = [.ref a] ∧ Rd H a (.dK kvs) ∧ ∀ p, H p = none → Q (.ref p) (upd H p (.dK kvs))
theorem cv_dictDL {kds : List (Key × D)} (p : ∀ a, μ a = none → P (.ptr a) (put μ a (.dK kds))) : CV T rDictD [.dil kds] μ P := fun xs Hb H Q ex sm r q => by
  obtain ⟨v, rfl, r1⟩ := one_inv r
  obtain ⟨a, od, fs, rfl, ha, rp⟩ := r1.dil_inv
  refine ⟨a, fs, rfl, .inr ⟨od, ex _ _ ha⟩, fun l hl => ?_⟩
  have g := Go.own ex sm (o := .dK fs) (z := .dK kds) hl rp
  exact q _ _ _ _ _ g (.ptr l) (p l (mu_fresh sm hl))
end
end Pw
namespace Pw
open PySem PySem.Spec PyProof.Rows L2
open Evl (Ex ex_l ex_t fresh_back)
structure Laid2 (H G : Hp) (S : Addr) (as : List Addr) (xs ys : List V) : Prop where
  len : as.length = xs.length
  newS : H S = none
  lst : G S = some (.lst (as.map V.ref))
  pair : ∀ (j : Nat) (a : Addr), as[j]? = some a → H a = none ∧ a ≠ S ∧ ∃ x y, xs[j]? = some x ∧ ys[j]? = some y ∧ G a = some (.tup [x, y])
  rest : ∀ b, b ≠ S → b ∉ as → G b = H b
def tLZ (K : PySem.W.Frag) (ta : TA) : TE := fun σ H Q => ta σ H fun vs H1 => ∃ a b xs ys, vs = [.ref a, .ref b] ∧ SqL K H1 a xs ∧ SqL K H1 b ys ∧ xs.length ≤ ys.length ∧ ∀ G S as, Laid2 H1 G S as xs ys → Q (.ref S) G
theorem vals_get : ∀ {xs : List V} {us : List Value}, Vals xs us → ∀ (j : Nat) (u : Value), us[j]? = some u → ∃ x, xs[j]? = some x ∧ RelV x u
  | _, _, .nil, j, u, h => by simp at h
  | x :: xs, v :: us, .cons r t, j, u, h => by
    cases j with
    | zero => simp at h; subst h; exact ⟨x, rfl, r⟩
    | succ j => simp at h; exact vals_get t j u h
theorem vals_len : ∀ {xs : List V} {us : List Value}, Vals xs us → xs.length = us.length
  | _, _, .nil => rfl
  | _ :: _, _ :: _, .cons _ t => by rw [List.length_cons, List.length_cons, vals_len t]
theorem vals_refs : ∀ as : List Addr, Vals (as.map V.ref) (as.map Value.ref)
  | [] => .nil
  | a :: as => .cons rfl (vals_refs as)
open Classical in
theorem laid_many {X : Cx} {pins : List (Addr × Obj)} {σ : L2.St} {H : Hp} {s : Shared} (I : Inv X pins σ H s) {h' : Heap} {tk n : Nat} {S : Addr} {as : List Addr} {xs ys : List V} {us vs : Array Value} {acc : Array Value} (kp : ∀ b o, s.heap.get? b = some o → h'.get? b = some o)
    (hS : s.heap.objs.size ≤ S) (gS : h'.get? S = some { cls := .type "list", dict := none, data := .seq acc n, slots := #[] }) (hacc : acc.toList = as.map Value.ref) (hl : as.length = us.size) (rx : Vals xs us.toList) (ry : Vals ys vs.toList) (hz : xs.length ≤ sizeLine)
    (pr : Lz.Pr us vs S h' as) : ∃ G, Laid2 H G S as xs ys ∧ Inv X pins σ G { s with heap := h', toks := tk } := by
  have hln : as.length = xs.length := by rw [hl, vals_len rx]; simp
  have lo : ∀ {b o}, H b = some o → b < s.heap.objs.size := fun {b o} e => by
    rcases Nat.lt_or_ge b s.heap.objs.size with q | q
    · exact q
    · rw [I.hok.fresh q] at e; cases e
  have hi : ∀ a ∈ as, s.heap.objs.size ≤ a := fun a ha => by
    obtain ⟨j, hj⟩ := List.getElem?_of_mem ha
    exact Nat.le_trans hS (Nat.le_of_lt (pr.2 j a hj).1)
  let fx : Addr → HO := fun b => match as.idxOf? b with
    | some j => .tup [(xs[j]?).getD .non, (ys[j]?).getD .non]
    | none => .tup []
  let G : Hp := fun b => if b = S then some (.lst (as.map V.ref)) else if b ∈ as then some (fx b) else H b
  have GS : G S = some (.lst (as.map V.ref)) := if_pos rfl
  have Gr : ∀ b, b ≠ S → b ∉ as → G b = H b := fun b h1 h2 => by show (if _ then _ else if _ then _ else _) = _; rw [if_neg h1, if_neg h2]
  have Go' : ∀ b, b < s.heap.objs.size → G b = H b := fun b hb => Gr b (fun e => by rw [e] at hb; exact Nat.lt_irrefl _ (Nat.lt_of_lt_of_le hb hS)) fun e => Nat.lt_irrefl _ (Nat.lt_of_lt_of_le hb (hi b e))
  have pj : ∀ (j : Nat) (a : Addr), as[j]? = some a → ∃ i x y u v, as[i]? = some a ∧ us[i]? = some u ∧ vs[i]? = some v ∧ xs[i]? = some x ∧ ys[i]? = some y ∧ RelV x u ∧ RelV y v ∧ IsPair h' a u v ∧ G a = some (.tup [x, y]) ∧ a ≠ S := fun j a hj => by
    have hm : a ∈ as := List.mem_of_getElem? hj
    have hne : a ≠ S := Nat.ne_of_gt (pr.2 j a hj).1
    obtain ⟨i, hi'⟩ : ∃ i, as.idxOf? a = some i := by
      cases e : as.idxOf? a with
      | some i => exact ⟨i, rfl⟩
      | none => rw [List.idxOf?_eq_none_iff] at e; exact absurd hm e
    have hai : as[i]? = some a := by
      have := List.idxOf?_eq_some_iff.1 hi'
      obtain ⟨hlt, e, _⟩ := this
      rw [List.getElem?_eq_getElem hlt]
      exact congrArg some (by simpa using e)
    obtain ⟨_, u, v, e1, e2, e3⟩ := pr.2 i a hai
    obtain ⟨x, ex, rx'⟩ := vals_get rx i u (by rw [Array.getElem?_toList]; exact e1)
    obtain ⟨y, ey, ry'⟩ := vals_get ry i v (by rw [Array.getElem?_toList]; exact e2)
    refine ⟨i, x, y, u, v, hai, e1, e2, ex, ey, rx', ry', e3, ?_, hne⟩
    show (if _ then _ else if _ then _ else _) = _
    rw [if_neg hne, if_pos hm]
    show some (match as.idxOf? a with | some j => _ | none => _) = _
    rw [hi']
    show some (HO.tup [(xs[i]?).getD .non, (ys[i]?).getD .non]) = _
    rw [ex, ey]
    rfl
  have same : ∀ (i j : Nat) (a : Addr), as[i]? = some a → as[j]? = some a → i = j := fun i j a h1 h2 => by
    obtain ⟨l1, e1⟩ := List.getElem?_eq_some_iff.1 h1
    obtain ⟨l2, e2⟩ := List.getElem?_eq_some_iff.1 h2
    exact (List.getElem_inj pr.1).1 (e1.trans e2.symm)
  refine ⟨G, ⟨hln, I.hok.fresh hS, GS, fun j a hj => ?_, Gr⟩, ?_⟩
  · obtain ⟨i, x, y, u, v, e0, _, _, e1, e2, _, _, _, e3, e4⟩ := pj j a hj
    have := same i j a e0 hj
    subst this
    exact ⟨I.hok.fresh (hi a (List.mem_of_getElem? hj)), e4, x, y, e1, e2, e3⟩
  · refine I.un ⟨fun b o q _ _ _ => kp b o q, fun b o q _ _ _ => ⟨o.slots, kp b o q⟩, fun b o q n _ => ?_, fun b o q _ => ⟨o, kp b o q⟩, fun b zs e => ?_, fun b o u e => ?_, fun b ps e => ⟨#[], ?_⟩⟩ fun b o e => ?_
    · rw [Go' b (Heap.lt_size q)]; exact n
    · rw [Go' b (lo e)]; exact e
    · rw [Go' b (lo e)]; exact e
    · rw [Go' b (lo e), e]; simp
    · by_cases h1 : b = S
      · rw [h1, GS] at e
        cases e
        rw [h1]
        refine ⟨by rw [List.length_map, hln]; exact hz, acc.toList, n, ?_, by rw [Array.toArray_toList]; exact gS⟩
        rw [hacc]
        exact vals_refs as
      · by_cases h2 : b ∈ as
        · obtain ⟨j, hj⟩ := List.getElem?_of_mem h2
          obtain ⟨i, x, y, u, v, e0, _, _, e1, e2, r1, r2, e3, e4, _⟩ := pj j b hj
          rw [e4] at e
          cases e
          exact ⟨by show 2 ≤ sizeLine; rw [sizeLine_eq]; decide, [u, v], .cons r1 (.cons r2 .nil), ⟨_, e3, rfl, _, rfl⟩⟩
        · rw [Gr b h1 h2] at e
          have up : ∀ c, H c ≠ none → G c = H c := fun c hc => by
            cases q : H c with
            | none => exact absurd q hc
            | some o => rw [Go' c (lo q)]; exact q
          exact (I.hok b o e).stay (fun c v _ q => kp c v q) (fun c q => by rw [up c (by rw [q]; simp)]; exact q) fun c zs q => by rw [up c (by rw [q]; simp)]; exact q
theorem pe_lz {X : Cx} {e e2 : Expr} {ta : TA} {p p2 pos pos2 : Pos} (hc : X.calm = true) (hgl : Gl X "list") (hml : X.mg "list" = none) (hgz : Gl X "zip") (hmz : X.mg "zip" = none) (ha : PA X [e, e2] ta)
    (hs : starEach [e, e2] X.env = (false, eval e X.env) :: starEach [e2] X.env := by rfl) (hpl : (backTo pos2 (starEach [e2] X.env)).any (·.1) = false := by rfl)
    (hs1 : starEach [.Call (.Name "zip" p2) [e, e2] [] pos2] X.env = [(false, eval (.Call (.Name "zip" p2) [e, e2] [] pos2) X.env)] := by rfl) :
    PE X (.Call (.Name "list" p) [.Call (.Name "zip" p2) [e, e2] [] pos2] [] pos) (tLZ X.K ta) := by
  refine ⟨fun pins s σ H Q I h => ?_⟩
  refine Call_ (ld_blt I hgl hml (by decide +kernel : bootBuiltins "list" = some (.type "list")) (PyProof.Rows.callWith_type1 ?_ hs1 rfl))
  rw [hs1]
  show wpAny _ _ (spliced ((false, eval (.Call (.Name "zip" p2) [e, e2] [] pos2) X.env) :: backTo pos [])) _ _ s
  refine Calls.spliced_cons ?_
  refine Call_ (ld_blt I hgz hmz PyProof.Rows.boot_zip (PyProof.Rows.callWith_type1 (thn (ha.run pos2 pins s σ H _ I h) fun us s1 z => ?_) hs hpl))
  obtain ⟨vs, H1, I1, r1, a, b, xs, ys, ex, hx, hy, hle, q⟩ := z
  subst ex
  cases r1 with
  | cons r rr =>
    cases rr with
    | cons r' rr =>
      cases rr
      cases r
      cases r'
      obtain ⟨its, rv, p1, hz1⟩ := I1.list hx
      obtain ⟨its2, rv2, q1, hz2⟩ := I1.list hy
      refine call_zip_2 p1.isList q1.isList fun h2 g1 g2 g3 g4 g5 g6 g7 => ?_
      refine Calls.spliced_nil ?_
      have D := PySem.W.ktu_apart s1.heap.objs.size a b p1.lt q1.lt
      refine Lz.call_list (s := { s1 with heap := h2 }) (I1.ok.hd hc) D (xs := its.toArray) (ys := its2.toArray) (by simp only [List.size_toArray]; rw [← vals_len rv, ← vals_len rv2]; exact hle) (by simp only [List.size_toArray]; rw [← vals_len rv]; exact hz1) g1 ⟨_, _, g3⟩ g2 g4 g5
        (p1.isList.at fun o e => g7 a o e) (q1.isList.at fun o e => g7 b o e) fun h3 tk acc c as kp gS hl pr hacc => ?_
      have lt : ∀ {x o}, s1.heap.get? x = some o → x < s1.heap.objs.size := fun e => Heap.lt_size e
      have kp2 : ∀ x o, s1.heap.get? x = some o → h3.get? x = some o := fun x o e => kp x o (Nat.ne_of_lt (Nat.lt_of_lt_of_le (lt e) (Nat.le_add_right _ _))) (Nat.ne_of_lt (Nat.lt_of_lt_of_le (lt e) (Nat.le_add_right _ _))) (Nat.ne_of_lt (lt e)) (Nat.ne_of_lt (Nat.lt_of_lt_of_le (lt e) (Nat.le_add_right _ _))) (g7 x o e)
      obtain ⟨G, L, I2⟩ := laid_many (tk := tk) I1 kp2 (show s1.heap.objs.size ≤ h2.objs.size by rw [g6]; exact Nat.le_add_right _ _) gS hacc (by rw [hl]) (us := its.toArray) (vs := its2.toArray) (by simpa using rv) (by simpa using rv2) hz1 pr
      exact ⟨.ref h2.objs.size, G, I2, rfl, q G _ as L⟩
section
variable {T : Cfg} {W : WX} {ρ : List (Option D)} {m0 μ : Mu} {P : D → Mu → Prop} {XP : XW} {te te' : TE} {ta : TA} {K : Out → Prop} {E : XK}
theorem go_laid2 {Hb H G : Hp} {S : Addr} {as : List Addr} {xs ys : List V} {ds es : List D} (ex : Ex Hb H) (sm : SimMu T μ Hb H) (L : Laid2 H G S as xs ys) (rx : RepL T Hb ds xs) (ry : RepL T Hb es ys) (hle : xs.length ≤ ys.length) :
    ∃ Hb', Go T μ Hb H μ Hb' G ∧ Rep T Hb' (.lst ((ds.zip es).map fun z => .tup [z.1, z.2])) (.ref S) := by
  classical
  let Hb' : Hp := fun b => if b = S ∨ b ∈ as then G b else Hb b
  have old : ∀ b o, H b = some o → b ≠ S ∧ b ∉ as := fun b o e => by
    refine ⟨fun q => ?_, fun q => ?_⟩
    · rw [q, L.newS] at e; cases e
    · obtain ⟨j, hj⟩ := List.getElem?_of_mem q
      rw [(L.pair j b hj).1] at e; cases e
  have keepG : ∀ b o, H b = some o → G b = some o := fun b o e => by
    obtain ⟨h1, h2⟩ := old b o e
    rw [L.rest b h1 h2]; exact e
  have hbo : ∀ b o, Hb b = some o → Hb' b = some o := fun b o e => by
    obtain ⟨h1, h2⟩ := old b o (ex b o e)
    show (if _ then _ else _) = _
    rw [if_neg (fun q => q.elim h1 h2)]
    exact e
  have hin : ∀ b, (b = S ∨ b ∈ as) → Hb' b = G b := fun b h => if_pos h
  have hout : ∀ b, ¬ (b = S ∨ b ∈ as) → Hb' b = Hb b := fun b h => if_neg h
  have g : Go T μ Hb H μ Hb' G := by
    refine ⟨hbo, fun a o h1 h2 h3 _ => ⟨keepG a o h1, fun _ => ?_⟩, fun a m h => .inl (by rw [h]; simp), fun a o h => ⟨o, keepG a o h⟩, fun a o h => ?_, sm.up (fun a u _ h => keepG a u h) (fun b u hu => ?_) fun a m h => ?_⟩
    rotate_left 2
    · by_cases q : b = S ∨ b ∈ as
      · rw [hin b q]
        refine ⟨fun h => absurd ?_ hu, fun h => ?_⟩
        · rcases q with q | q
          · rw [q, L.lst] at h
            cases h
            exact ⟨fun _ z => (nomatch z), fun _ z => (nomatch z)⟩
          · obtain ⟨j, hj⟩ := List.getElem?_of_mem q
            obtain ⟨_, _, x, y, _, _, e3⟩ := L.pair j b hj
            rw [e3] at h
            cases h
            exact ⟨fun _ z => (nomatch z), fun _ z => (nomatch z)⟩
        · obtain ⟨h1, h2⟩ := old b u (ex b u h)
          exact (q.elim h1 h2).elim
      · rw [hout b q]
    rotate_left 1
    · obtain ⟨q1, q2⟩ := old a o h1
      rw [hout a (fun q => q.elim q1 q2)]
      exact h2
    · by_cases q : a = S ∨ a ∈ as
      · rw [hin a q] at h; exact h
      · rw [hout a q] at h; exact keepG a o (ex a o h)
    · obtain ⟨n, o, ho, r⟩ := sm a m h
      obtain ⟨q1, q2⟩ := old a o ho
      exact ⟨by rw [hout a (fun q => q.elim q1 q2)]; exact n, o, keepG a o ho, r.mono hbo⟩
  refine ⟨Hb', g, .lst (xs := as.map V.ref) (by rw [hin S (.inl rfl)]; exact L.lst) ?_ fun i d v hd hv => ?_⟩
  · have l1 := rx.1
    have l2 := ry.1
    have l3 := L.len
    rw [List.length_map, List.length_map, List.length_zip]
    omega
  · rw [List.getElem?_map] at hd hv
    obtain ⟨z, hz, rfl⟩ := Option.map_eq_some_iff.1 hd
    obtain ⟨a, ha, rfl⟩ := Option.map_eq_some_iff.1 hv
    obtain ⟨_, _, x, y, e1, e2, e3⟩ := L.pair i a ha
    have hz1 := List.getElem?_zip_eq_some.1 hz
    have m : a ∈ as := List.mem_of_getElem? ha
    have rl : RepL T Hb' [z.1, z.2] [x, y] := .cons ((rx.2 i _ x hz1.1 e1).mono hbo) (.cons ((ry.2 i _ y hz1.2 e2).mono hbo) .nil)
    exact .tup (Evl.st_of (by rw [hin a (.inr m)]; exact e3)) rl.1 rl.2
theorem ev_lz (h : EA T ta W ⟨ρ, m0⟩ (fun fs μ => ∃ d ds b es, fs = [d, .ptr b] ∧ Seqd d ds ∧ μ b = some (.lst es) ∧ ds.length ≤ es.length ∧ P (.lst ((ds.zip es).map fun z => .tup [z.1, z.2])) μ) XP) : EV T (tLZ T.K ta) W ⟨ρ, m0⟩ P XP := fun σ Hb H Q S q x =>
  h σ Hb H _ S (fun fs μ vs Hb1 H1 g r p => by
    obtain ⟨d, ds, b, es, rfl, hd, hb, hle, p⟩ := p
    obtain ⟨v, ys, rfl, r1, r⟩ := r.cons_inv
    obtain ⟨w, zs, rfl, r2, r⟩ := r.cons_inv
    obtain rfl := r.nil_inv
    cases r2
    obtain ⟨a, xs, rfl, hx, rx⟩ := hd.inv r1
    obtain ⟨_, o, ho, ro⟩ := g.mu b _ hb
    cases o with
    | lst us =>
      have ro : RepL T Hb1 es us := ro
      have l1 := rx.1
      have l2 := ro.1
      refine ⟨a, b, xs, us, rfl, ex_l g.sub hx, Evl.sq_of ho, by omega, fun G S' as L => ?_⟩
      obtain ⟨Hb', g', r'⟩ := go_laid2 g.sub g.mu L rx ro (by omega)
      exact q _ _ _ _ _ (g.trans g') r' p
    | _ => exact ro.elim) x
end
def rInD (K : PySem.W.Frag) (neg : Bool) : R2 := fun x y H Q => ∃ p xs d ds, y = .ref p ∧ SqL K H p xs ∧ Dp K H x d ∧ DpAll K H xs ds ∧ d.plain = true ∧ PyData.plainAll ds = true ∧ d.depth ≤ 60 ∧ Q (.bl (if neg then !(ds.any fun y => PyData.eqv y d) else ds.any fun y => PyData.eqv y d)) H
theorem dp_list {K : PySem.W.Frag} {H : Hp} {p : Addr} {xs : List V} {ds : List PyData} (h : SqL K H p xs) (k : DpAll K H xs ds) : Dp K H (.ref p) (.list ds) := by
  exact .lst h k
theorem op_inD {X : Cx} (hu : X.A.units + 64 < cLine) : OpR X (compareOp .In) (rInD X.K false) := by
  intro pins s σ H x y v u Q I rx ry h
  obtain ⟨p, xs, d, ds, rfl, hp, hd, hds, pd, pds, dep, q⟩ := h
  obtain ⟨as, r1⟩ := Dp.reads I d x v hd rx
  obtain ⟨bs, r2⟩ := Dp.reads I (.list ds) (.ref p) u (dp_list hp hds) ry
  exact PySem.SeqAt.in_list_data r2 r1 pds pd (by omega) ⟨.bl _, H, I, rfl, q⟩
theorem op_notInD {X : Cx} (hu : X.A.units + 64 < cLine) : OpR X (compareOp .NotIn) (rInD X.K true) := by
  intro pins s σ H x y v u Q I rx ry h
  obtain ⟨p, xs, d, ds, rfl, hp, hd, hds, pd, pds, dep, q⟩ := h
  obtain ⟨as, r1⟩ := Dp.reads I d x v hd rx
  obtain ⟨bs, r2⟩ := Dp.reads I (.list ds) (.ref p) u (dp_list hp hds) ry
  exact PySem.SeqAt.notIn_list_data r2 r1 pds pd (by omega) ⟨.bl _, H, I, rfl, q⟩
def rMinD (K : PySem.W.Frag) : List V → Hp → VK → Prop := fun xs H Q => ∃ a vs d ds, xs = [.ref a] ∧ SqL K H a vs ∧ DpAll K H vs (d :: ds) ∧ PySem.W.AlikeAll (d :: ds) ∧ PyData.depthAll (d :: ds) ≤ 60 ∧ ∀ (i : Nat) (x : V), vs[i]? = some x → Q x H
theorem cr_minD {X : Cx} (hc : X.calm = true) (hu : X.A.units + 64 < cLine) : CallR X (.builtin "min") (rMinD X.K) := by
  intro pins s σ H xs us Q I r h
  obtain ⟨a, vs, d, ds, rfl, hs, hd, al, dep, q⟩ := h
  rw [Vals.ref1 r]
  obtain ⟨its, rv, pl, _⟩ := I.list hs
  obtain ⟨as, rd⟩ := Dp.readsAll I (d :: ds) _ its hd rv
  refine PySem.W.min_list_data (I.ok.hd hc) pl.isList (x := d) (xs := ds) (as := as) (by simpa using rd) al (by omega) fun i v h' tk bs hv hr hk => ?_
  obtain ⟨x, hx, rx⟩ := vals_get rv i v (by simpa using hv)
  exact ⟨x, H, I.kept hk, rx, q i x hx⟩
def rUpdT : V → List V → Hp → VK → Prop := fun x xs H Q => ∃ d o kvs more, x = .ref d ∧ xs = [.ref o] ∧ H d = some (.dT kvs) ∧ Rd H o (.dT more) ∧ d ≠ o ∧ kvs.length + more.length ≤ 1000 ∧ (kvs ≠ [] ∨ ∀ (P : Program) (w : World), (more.map fun p => (tupleKind (mixKind P w)).hash p.1).Nodup) ∧ Q .non (upd H d (.dT (more.foldl (fun acc p => putK acc p.1 p.2) kvs)))
theorem kt_all {H : Hp} : ∀ {more : List (List Key × V)} {ys : List (List Key × Addr × Value)} {kvs : List (List Key × V)} {xs : List (List Key × Addr × Value)}, KT H more ys → KT H kvs xs → KT H (more.foldl (fun acc p => putK acc p.1 p.2) kvs) (PySem.storedAllH xs ys) := by
  intro more ys kvs xs h
  induction h generalizing kvs xs with
  | nil => intro k; exact k
  | @cons p q ps qs hq t ih =>
    intro k
    have := k.put p.1 hq.2.1 hq.2.2
    rw [List.foldl_cons]
    refine ih ?_
    dsimp only
    rw [← hq.1]
    exact this
theorem foldl_put_len : ∀ (more kvs : List (List Key × V)), (more.foldl (fun acc p => putK acc p.1 p.2) kvs).length ≤ kvs.length + more.length
  | [], kvs => by simp
  | p :: more, kvs => by
    have h1 := foldl_put_len more (putK kvs p.1 p.2)
    have h2 := length_putK kvs p.1 p.2
    rw [List.foldl_cons, List.length_cons]
    omega
theorem paired_get {α β : Type} {R : α → β → Prop} : ∀ {l : List α} {m : List β}, Paired R l m → ∀ {j : Nat} {a : α} {b : β}, l[j]? = some a → m[j]? = some b → R a b := by
  intro l m h
  induction h with
  | nil => intro j a b e _; simp at e
  | cons hq t ih =>
    intro j a b e1 e2
    cases j with
    | zero => simp at e1 e2; subst e1 e2; exact hq
    | succ j => exact ih (by simpa using e1) (by simpa using e2)
theorem mt_updT {X : Cx} (hu : X.A.units + 1 < cLine) : MtR X "dict.update" rUpdT := by
  intro pins s σ H x xs v us Q I rx rv h
  obtain ⟨d, o, kvs, more, rfl, rfl, hd, ho, hne, hsz, hap, q⟩ := h
  cases rx
  obtain ⟨u, rfl, ru⟩ := rv.one
  cases ru
  obtain ⟨z1, hs1, xs1, r1, dd⟩ := dt_of I.hok hd
  obtain ⟨z2, hs2, xs2, r2, oo⟩ := dt_rd I.hok ho
  have l1 := Paired.length r1
  have l2 := Paired.length r2
  refine PySem.call_update_dictH (knd := tupleKind (mixKind X.prog X.w)) (tupleKind_room_in1 hu) hne hs2 dd oo ?_ (by rw [← l1, ← l2, sizeLine_eq]; omega) fun h' dd' oo' sb => ?_
  · rcases hap with q | q
    · left
      intro e
      rw [e] at l1
      exact q (List.eq_nil_of_length_eq_zero (by simpa using l1))
    · right
      refine ⟨fun y hy => ?_, ?_⟩
      · obtain ⟨j, hj⟩ := List.getElem?_of_mem hy
        have : ∃ p, more[j]? = some p := ⟨_, List.getElem?_eq_getElem (by rw [l2]; exact (List.getElem?_eq_some_iff.1 hj).1)⟩
        obtain ⟨p, hp⟩ := this
        have hq := paired_get r2 hp hj
        obtain ⟨_, its, _, ot, e1, e2, _⟩ := (show ObjOk X.prog X.w H s.heap y.2.1 (.tup (p.1.map kV)) from I.hok _ _ hq.2.1)
        exact ⟨ot, e1, e2⟩
      · have e : xs2.map (fun x => (tupleKind (mixKind X.prog X.w)).hash x.1) = more.map fun p => (tupleKind (mixKind X.prog X.w)).hash p.1 := by
          have key : ∀ {l : List (List Key × V)} {m : List (List Key × Addr × Value)}, KT H l m → m.map (fun x => (tupleKind (mixKind X.prog X.w)).hash x.1) = l.map fun p => (tupleKind (mixKind X.prog X.w)).hash p.1 := by
            intro l m h
            induction h with
            | nil => rfl
            | cons hq t ih => rw [List.map_cons, List.map_cons, ih, hq.1]
          exact key r2
        rw [e]
        exact q X.prog X.w
  · obtain ⟨oq, es, ep, hq, h2, h3, h4, _, h5⟩ := dd'
    refine ⟨.non, _, d_write (t' := s.toks) I (by rw [hd]; exact True.intro) sb ⟨oq, hq⟩ (ob := .dT (more.foldl (fun acc p => putK acc p.1 p.2) kvs)) ⟨?_, hs1, _, (kt_all r2 r1).keeps fun c ys ec => ?_, oq, es, ep, hq, h2, h3, h4, h5⟩, rfl, q⟩
    · have := foldl_put_len more kvs
      rw [sizeLine_eq]
      omega
    · rw [upd_ne (ne_of ec hd (fun z => nomatch z))]
      exact ec
section
end
end Pw
namespace Pw
open PySem PySem.Spec PyProof.Rows L2
open Evl (Ex ex_l ex_t fresh_back)
def k2 (n : Nat × Nat) : List Key := [.inl (n.1 : Int), .inl (n.2 : Int)]
theorem k2_inj {a b : Nat × Nat} (h : k2 a = k2 b) : a = b := by
  unfold k2 at h
  simp only [List.cons.injEq, Sum.inl.injEq, and_true] at h
  exact Prod.ext (by omega) (by omega)
def p2 (n : Nat × Nat) : PyData := .tuple [.int (n.1 : Int), .int (n.2 : Int)]
theorem eqv_p2 (a b : Nat × Nat) : PyData.eqv (p2 a) (p2 b) = decide (a = b) := by
  unfold p2
  rw [eqv2]
  refine decide_eq_decide.2 ⟨fun h => Prod.ext (by omega) (by omega), fun h => by rw [h]; exact ⟨rfl, rfl⟩⟩
section
variable {T : Cfg} {W : WX} {ρ : List (Option D)} {m0 μ : Mu} {P : D → Mu → Prop} {XP : XW} {te te' : TE} {ta : TA} {K : Out → Prop} {E : XK}
theorem key_dp {Hb H : Hp} {n : Nat × Nat} {v : V} (ex : Ex Hb H) (r : Rep T Hb (.key (k2 n)) v) : Dp T.K H v (p2 n) :=
  DPy.dp ex _ _ _ (.tup (.cons (.int _) (.cons (.int _) .nil))) (key_tup r)
theorem keys_dp {Hb H : Hp} (ex : Ex Hb H) : ∀ {ns : List (Nat × Nat)} {xs : List V}, RepL T Hb (ns.map fun n => .key (k2 n)) xs → DpAll T.K H xs (ns.map p2)
  | [], xs, r => by
    obtain rfl := r.nil_inv
    exact .nil
  | n :: ns, xs, r => by
    obtain ⟨v, ys, rfl, r1, r2⟩ := RepL.cons_inv (d := .key (k2 n)) (ds := ns.map fun n => .key (k2 n)) r
    exact .cons (key_dp ex r1) (keys_dp ex r2)
theorem plain_p2 : ∀ ns : List (Nat × Nat), PyData.plainAll (ns.map p2) = true
  | [] => rfl
  | n :: ns => by
    rw [List.map_cons, PyData.plainAll, plain_p2 ns]
    rfl
theorem any_p2 (n : Nat × Nat) : ∀ ns : List (Nat × Nat), ((ns.map p2).any fun y => PyData.eqv y (p2 n)) = decide (n ∈ ns)
  | [] => by simp
  | m :: ns => by
    rw [List.map_cons, List.any_cons, any_p2 n ns, eqv_p2]
    by_cases h : m = n
    · simp [h]
    · have h' : ¬ n = m := fun e => h e.symm
      simp [h, h']
theorem ov_ninO {a : Addr} {n : Nat × Nat} {ns : List (Nat × Nat)} (hm : μ a = some (.lst (ns.map fun n => .key (k2 n)))) (p : P (.bl (!decide (n ∈ ns))) μ) : OV T (rInD T.K true) (.key (k2 n)) (.ptr a) μ P := fun x y Hb H Q ex sm rx ry q => by
  cases ry
  obtain ⟨_, o, ho, ro⟩ := sm a _ hm
  cases o with
  | lst xs =>
    have ro : RepL T Hb (ns.map fun n => .key (k2 n)) xs := ro
    refine ⟨a, xs, p2 n, ns.map p2, rfl, Evl.sq_of ho, key_dp ex rx, keys_dp ex ro, rfl, plain_p2 ns, by simp [p2, PyData.depth, PyData.depthAll], ?_⟩
    rw [if_pos rfl, any_p2]
    exact q _ _ _ _ _ (.refl ex sm) (.bl _) p
  | _ => exact ro.elim
theorem cv_min2T {d : D} {ns : List (Int × Int)} (hd : Seqd d (ns.map fun n => .tup [.int n.1, .int n.2])) (hne : ns ≠ []) (p : ∀ n ∈ ns, P (.tup [.int n.1, .int n.2]) μ) : CV T (rMinD T.K) [d] μ P := fun xs Hb H Q ex sm r q => by
  obtain ⟨v, rfl, r1⟩ := one_inv r
  obtain ⟨a, ys, rfl, hx, r2⟩ := hd.inv r1
  have hdp : ∀ {ns : List (Int × Int)} {ys : List V}, RepL T Hb (ns.map fun n => .tup [.int n.1, .int n.2]) ys → DpAll T.K H ys (ns.map fun n => .tuple [.int n.1, .int n.2]) := by
    intro ns
    induction ns with
    | nil =>
      intro ys r
      obtain rfl := RepL.nil_inv r
      exact .nil
    | cons n ns ih =>
      intro ys r
      obtain ⟨v, zs, rfl, r1, r2⟩ := RepL.cons_inv (d := .tup [.int n.1, .int n.2]) (ds := ns.map fun n => .tup [.int n.1, .int n.2]) r
      exact .cons (DPy.dp ex _ _ _ dpy2 r1) (ih r2)
  have dep : ∀ ns : List (Int × Int), PyData.depthAll (ns.map fun n => .tuple [.int n.1, .int n.2]) ≤ 2 := by
    intro ns
    induction ns with
    | nil => simp [PyData.depthAll]
    | cons n ns ih =>
      rw [List.map_cons, PyData.depthAll]
      have : (PyData.tuple [.int n.1, .int n.2]).depth ≤ 2 := by simp [PyData.depth, PyData.depthAll]
      omega
  have h1 := hdp r2
  have h2 := dep ns
  cases ns with
  | nil => exact absurd rfl hne
  | cons n ns =>
    refine ⟨a, ys, _, _, rfl, ex_l ex hx, h1, ?_, Nat.le_trans h2 (by decide), fun i x hi => ?_⟩
    · refine ⟨fun x hx y hy => ?_, fun x hx e => ?_⟩
      · rw [← List.map_cons (f := fun n : Int × Int => PyData.tuple [.int n.1, .int n.2])] at hx hy
        obtain ⟨i, _, rfl⟩ := List.mem_map.1 hx
        obtain ⟨j, _, rfl⟩ := List.mem_map.1 hy
        simp [PySem.W.alike, PySem.W.alikeAll]
      · rw [← List.map_cons (f := fun n : Int × Int => PyData.tuple [.int n.1, .int n.2])] at hx
        obtain ⟨i, _, rfl⟩ := List.mem_map.1 hx
        cases e
    · obtain ⟨d, hd', rd⟩ := r2.getV hi
      rw [List.getElem?_map] at hd'
      obtain ⟨m, hm, rfl⟩ := Option.map_eq_some_iff.1 hd'
      exact q _ _ _ _ _ (.refl ex sm) rd (p m (List.mem_of_getElem? hm))
theorem ev_updT {td : TE} (h : EV T td W ⟨ρ, m0⟩ (fun d μ1 => ∃ a kvs0, d = .ptr a ∧ μ1 a = some (.dT kvs0) ∧ EA T ta W ⟨ρ, μ1⟩ (fun es μ => ∃ kds kvs, es = [.dit kds] ∧ μ a = some (.dT kvs) ∧ kvs.length + kds.length ≤ 1000 ∧ (kvs ≠ [] ∨ ∀ (P : Program) (w : World), (kds.map fun p => (tupleKind (mixKind P w)).hash p.1).Nodup) ∧ P .non (put μ a (.dT (kds.foldl (fun acc p => putD acc p.1 p.2) kvs)))) XP) XP) : EV T (tBM T.K "dict" rUpdT td ta) W ⟨ρ, m0⟩ P XP := fun σ Hb H Q S q x =>
  h σ Hb H _ S (fun d μ1 v Hb1 H1 g1 r1 p1 => by
    obtain ⟨a, kvs0, rfl, hm, p1⟩ := p1
    cases r1
    have hd : ∃ es, H1 a = some (.dT es) := by
      obtain ⟨_, o, ho, ro⟩ := g1.mu a _ hm
      cases o with
      | dT es => exact ⟨es, ho⟩
      | _ => exact ro.elim
    obtain ⟨es, hes⟩ := hd
    refine ⟨.inr (.inr (.inl ⟨rfl, .inr ⟨es, hes⟩⟩)), ?_⟩
    refine p1 σ Hb1 H1 _ (S.go g1) (fun fs μ2 vs Hb2 H2 g2 r2 p2 => ?_) (fun y μ' cls dd Hb' H' g r p => x y μ' cls dd Hb' H' (g1.trans g) r p)
    obtain ⟨kds, kvs, rfl, hm2, hl, hap, p⟩ := p2
    obtain ⟨w, zs, rfl, r3, r4⟩ := r2.cons_inv
    obtain rfl := r4.nil_inv
    obtain ⟨b, od, gs, rfl, hb, rp⟩ := r3.dit_inv
    obtain ⟨hn, o, ho, ro⟩ := g2.mu a _ hm2
    cases o with
    | dT fs =>
      have ro : RepP T Hb2 kvs fs := ro
      have lk : ∀ {α : Type} {gs : List (α × D)} {fs : List (α × V)}, RepP T Hb2 gs fs → gs.length = fs.length := fun h => by have := congrArg List.length h.1; simpa using this
      have hne : a ≠ b := fun e => by rw [e, hb] at hn; cases hn
      refine ⟨a, b, fs, gs, rfl, rfl, ho, .inr ⟨od, g2.sub _ _ hb⟩, hne, by rw [← lk ro, ← lk rp]; exact hl, ?_, ?_⟩
      · rcases hap with e | e
        · exact .inl fun z => e (List.eq_nil_of_length_eq_zero (by rw [lk ro, z]; rfl))
        · refine .inr fun P w => ?_
          have := e P w
          have e2 : (gs.map fun p => (tupleKind (mixKind P w)).hash p.1) = kds.map fun p => (tupleKind (mixKind P w)).hash p.1 := by
            have h1 := congrArg (List.map (tupleKind (mixKind P w)).hash) rp.1
            rw [List.map_map, List.map_map] at h1
            exact h1.symm
          rw [e2]
          exact this
      · have key : ∀ {kds : List (List Key × D)} {gs : List (List Key × V)}, RepP T Hb2 kds gs → ∀ {kvs : List (List Key × D)} {fs : List (List Key × V)}, RepP T Hb2 kvs fs → RepP T Hb2 (kds.foldl (fun acc p => putD acc p.1 p.2) kvs) (gs.foldl (fun acc p => putK acc p.1 p.2) fs) := by
          intro kds
          induction kds with
          | nil =>
            intro gs h kvs fs k
            have : gs = [] := by have := h.1; simp at this; exact this
            subst this
            exact k
          | cons kd kds ih =>
            intro gs h kvs fs k
            cases gs with
            | nil => have := h.1; simp at this
            | cons gd gs =>
              have hk : kd.1 = gd.1 := by have := h.1; simp only [List.map_cons, List.cons.injEq] at this; exact this.1
              have ht : RepP T Hb2 kds gs := ⟨by have := h.1; simp only [List.map_cons, List.cons.injEq] at this; exact this.2, fun i a b c d => h.2 (i + 1) a b (by simpa using c) (by simpa using d)⟩
              rw [List.foldl_cons, List.foldl_cons]
              refine ih ht ?_
              rw [hk]
              exact k.put (h.2 0 kd gd rfl rfl)
        have g3 := Go.chg (T := T) g2.sub g2.mu (o := HO.dT (gs.foldl (fun (acc : List (List Key × V)) (p : List Key × V) => putK acc p.1 p.2) fs)) (z := MO.dT (kds.foldl (fun (acc : List (List Key × D)) (p : List Key × D) => putD acc p.1 p.2) kvs)) hm2 (key rp ro)
        exact q _ _ _ _ _ ((g1.trans g2).trans g3) .non p
    | _ => exact ro.elim) x
end
def h2 (x y : Nat) : Int := reduceHash (Builtin.Tuple.tupleHashOf [hashInt (x : Int), hashInt (y : Int)])
theorem hs_eq (P : Program) (w : World) (x y : Nat) : (tupleKind (mixKind P w)).hash (k2 (x, y)) = h2 x y := rfl
def hTab : List (List Int) := [[-8458139203682520985, -1950498447580522560, 7204814214171964562, -4734289103435588629, 1773351652666409796, -3119722376306286570, -1010439003188656273, -5903513032161352639, 604127723940645786, -4288946305032050580, -2179662931914420283, 4327977824187578142],
  [-5164621852614943976, 8389048192121911274, -3550055125485641917, -1440771752368011620, -6333845781340707986, 173794974761290439, -4719279054211405927, -2609995681093775630, 3897645075008222795, -995428953964473571, 5512211802137524854, -3779219609819539640],
  [4685526799349444076, 6794810172467074373, 1901736143494378007, 8409376899596376432, 3516302870623680066, -8422800446983873125, -6313517073866242828, 7240152970870612422, -4698950346736940769, 8854719697999914481, -7482741002592006838, 6070929042144848412],
  [2248468952609198383, 8756109708711196808, 3863035679738500442, 5972319052856130739, 1079245023883434373, 7586885779985432798, -4352217537622120393, 4803095124130366729, -7136008193477186462, 6417661851259668788, -5521441466347884403, 3633871195404602719],
  [-6348126469135965181, 159514286966033244, -9131917124991031250, -2624276368889032825, 3883364387212965600, -1009709641759730766, 1099573731357899531, -3793500297614796835, 2714140458487201590, -2178933570485494776, -69650197367864479, 6437990558734133946],
  [-3054609118068388172, 3453031638033610253, -5838399773923454241, 669240982178544184, -4223833046794152182, 2283807709307846243, -7007623702649218251, -499982946547219826, 6007657809554778599, 1114583780582082233, 7622224536684080658, -1669206875272983836],
  [-5491666964808633865, 8062003079928221385, -3877100237679331806, 2630540518422666619, -6660890893534397875, -153250137432399450, -5046324166405095816, 1461316589696902609, 3570599962814532906, -1322474066158163460, 5185166689943834965, 292092660971138599],
  [4358481687155754187, -7580621630451799004, 5973048414285056246, 8082331787402686543, 3189257758429990177, -8749845559177563014, -2242204803075564589, 6913107858676922533, -5025995458930630658, 8527674585806224592, -3411428731801328599, 5743883929951158523],
  [1921423840415508494, 8429064596517506919, 3535990567544810553, -8403112750062742638, 752199911689744484, 7259840667791742909, -4679262649815810282, 8874407394921044968, -7463053305670876351, 6090616739065978899, -5848486578541574292, 7705183466195280958],
  [-6675171581329655070, -167530825227656645, -5060604854200353011, -2951321481082722714, 3556319275019275711, -1336754753953420655, 5170886002148577770, -4120545409808486724, 2387095346293511701, -2505978682679184665, 4001662073422813760, 6110945446540444057],
  [-3381654230262078061, 3125986525839920364, -1767087503132776002, 342195869984854295, -4550878158987842071, 1956762597114156354, -2936311431858540012, 3571329324243458413, 5680612697361088710, 787538668388392344, 7295179424490390769, 2402105395517694403],
  [6468494421702309991, -5470608895905243200, 3684703765847243922, -8254399551760309269, 5299270492976545981, -6639832824631007210, -132192068529008785, 9023120593223478337, -2915982724384074854, -7809056753356771220, -1301415997254772795, 807867375862857502]]
theorem hs_tab : (List.range 12).map (fun x => (List.range 12).map (h2 x)) = hTab := by decide +kernel
theorem hs_nd : ∀ r ∈ hTab, r.Nodup := by decide +kernel
theorem hs_all : ∀ x, x < 12 → ((List.range 12).map (h2 x)).Nodup := fun x hx => hs_nd _ (by
  rw [← hs_tab]
  exact List.mem_map.2 ⟨x, List.mem_range.2 hx, rfl⟩)
theorem map_nd {f : Nat → Int} (hf : ((List.range 12).map f).Nodup) {Y : List Nat} (hY : ∀ y ∈ Y, y < 12) (hn : Y.Nodup) : (Y.map f).Nodup := by
  unfold List.Nodup at hn ⊢
  rw [List.pairwise_map]
  refine List.Pairwise.imp_of_mem (fun {a b} ha hb hab e => hab ?_) hn
  have key : ∀ a, a < 12 → ((List.range 12).map f)[a]? = some (f a) := fun a h => by
    rw [List.getElem?_map, List.getElem?_range h, Option.map_some]
  obtain ⟨l1, e1⟩ := List.getElem?_eq_some_iff.1 (key a (hY a ha))
  obtain ⟨l2, e2⟩ := List.getElem?_eq_some_iff.1 (key b (hY b hb))
  exact (List.getElem_inj hf).1 (e1.trans (e.trans e2.symm))
theorem h2_nd {x : Nat} (hx : x < 12) {Y : List Nat} (hY : ∀ y ∈ Y, y < 12) (hn : Y.Nodup) (P : Program) (w : World) : ((Y.map fun y => k2 (x, y)).map fun k => (tupleKind (mixKind P w)).hash k).Nodup := by
  have e : ((Y.map fun y => k2 (x, y)).map fun k => (tupleKind (mixKind P w)).hash k) = Y.map (h2 x) := by
    induction Y with
    | nil => rfl
    | cons y Y ih =>
      simp only [List.map_cons]
      rw [hs_eq P w x y, ih (fun z hz => hY z (List.mem_cons_of_mem _ hz)) (List.nodup_cons.1 hn).2]
  rw [e]
  exact map_nd (hs_all x hx) hY hn
end Pw
namespace Pw
open PySem PySem.Spec PyProof.Rows L2
open Evl (Ex ex_l ex_t fresh_back)
def rDictTM (K : PySem.W.Frag) : List V → Hp → VK → Prop := fun xs H Q => ∃ (a : Addr) (ps : List (Addr × Addr)) (kvs : List (List Key × V)), xs = [.ref a] ∧ SqL K H a (ps.map fun p => V.ref p.1) ∧
  Paired (fun p kv => SqT K H p.1 [.ref p.2, kv.2] ∧ H p.2 = some (.tup (kv.1.map kV))) ps kvs ∧ (kvs.map Prod.fst).Nodup ∧ ∀ p, H p = none → Q (.ref p) (upd H p (.dT kvs))
theorem call_dictTM {X : Cx} (hcalm : X.calm = true) (hu : X.A.units + 64 < cLine) : CallR X (.type "dict") (rDictTM X.K) := by
  intro pins s σ H xs us Q I r h
  obtain ⟨a, ps, kvs, rfl, h1, h2, h3, q⟩ := h
  refine thn (call_dictT hcalm hu pins s σ H _ us (fun v H' => ∃ p od, v = .ref p ∧ H p = none ∧ H' = upd H p (.frz od (.dT kvs))) I r ⟨a, ps, kvs, rfl, h1, h2, h3, fun p od hp => ⟨p, od, rfl, hp, rfl⟩⟩) fun u s1 z => ?_
  obtain ⟨x, H1, I1, rx, p, od, rfl, hp, rfl⟩ := z
  have I2 := I1.unlock (d := p) upd_same (fun o' u' e => by
    have := I.base.frzs p o' u' e
    rw [hp] at this
    cases this)
  have e : upd (upd H p (.frz od (.dT kvs))) p (.dT kvs) = upd H p (.dT kvs) := by
    funext b
    by_cases hb : b = p
    · rw [hb, upd_same, upd_same]
    · rw [upd_ne hb, upd_ne hb, upd_ne hb]
  rw [e] at I2
  exact ⟨.ref p, _, I2, rx, q p hp⟩
section
variable {T : Cfg} {W : WX} {ρ : List (Option D)} {m0 μ : Mu} {P : D → Mu → Prop} {XP : XW} {te te' : TE} {ta : TA} {K : Out → Prop} {E : XK} {u : TS}
theorem cv_dictTM {d : D} {kds : List (List Key × D)} (hd : Seqd d (kds.map fun kd => .tup [.key kd.1, kd.2])) (hn : (kds.map Prod.fst).Nodup) (p : ∀ a, μ a = none → P (.ptr a) (put μ a (.dT kds))) : CV T (rDictTM T.K) [d] μ P := fun xs Hb H Q ex sm r q => by
  obtain ⟨v, rfl, r1⟩ := one_inv r
  obtain ⟨a, ys, rfl, hs, ry⟩ := hd.inv r1
  obtain ⟨ps, kvs, rfl, hp, rp⟩ := rowsT_rep ry
  refine ⟨a, ps, kvs, rfl, ex_l ex hs, ?_, by have e : kds.map Prod.fst = kvs.map Prod.fst := rp.1; rw [← e]; exact hn, fun l hl => ?_⟩
  · clear rp hs ry r r1
    induction hp with
    | nil => exact .nil
    | cons h _ ih => exact .cons ⟨ex_t ex h.1, ex _ _ h.2⟩ ih
  have g := Go.own ex sm (o := .dT kvs) (z := .dT kds) hl rp
  exact q _ _ _ _ _ g (.ptr l) (p l (mu_fresh sm hl))
theorem ov_keyL {r : R2} {ks : List Key} {e : D} (h : OV T r (.tup (ks.map kD)) e μ P) : OV T r (.key ks) e μ P := fun x y Hb H Q ex sm rx ry q => h x y Hb H Q ex sm (key_tup rx) ry q
theorem ev_keyT (h : EV T te W ⟨ρ, m0⟩ (fun d μ => ∃ ks : List Key, d = .key ks ∧ P (.tup (ks.map kD)) μ) XP) : EV T te W ⟨ρ, m0⟩ P XP := fun σ Hb H Q S q x =>
  h σ Hb H Q S (fun d μ v Hb' H' g r p => by
    obtain ⟨ks, rfl, p⟩ := p
    exact q _ μ v Hb' H' g (key_tup r) p) x
def lkK (d : Addr) (kvs : List (Key × D)) (o : HO) (K : Out → Prop) : Out → Prop
  | .nx s => s.m d = some (.lkK kvs o) ∧ K (.nx ⟨s.r, put s.m d (.dK kvs)⟩)
  | _ => False
theorem sv_lock {d : Addr} {kvs : List (Key × D)} (hm : m0 d = some (.dK kvs)) (h : ∀ o, SV T u W ⟨ρ, put m0 d (.lkK kvs o)⟩ (lkK d kvs o K)) : SV T (tLock u) W ⟨ρ, m0⟩ K := fun σ Hb H Dn S c => by
  obtain ⟨hb, o, ho, ro⟩ := S.mu d _ hm
  cases o with
  | dK fs =>
    have ro : RepP T Hb kvs fs := ro
    refine ⟨d, .dK fs, ho, trivial, fun od => ?_⟩
    have g1 := Go.chg S.sub S.mu (o := .frz od (.dK fs)) (z := .lkK kvs (.frz od (.dK fs))) hm ⟨rfl, od, fs, rfl, ro⟩
    refine h (.frz od (.dK fs)) σ Hb _ _ (S.go g1) ⟨fun s' σ' Hb' H' g S' k => ?_, fun _ _ _ _ _ _ _ z => z.elim, fun _ _ _ _ _ _ z => z.elim, fun _ _ _ _ _ _ z => z.elim, fun _ _ _ _ _ _ _ _ _ _ z => z.elim⟩
    obtain ⟨hd, k⟩ := k
    obtain ⟨_, o', ho', h1, od', fs', h2, ro'⟩ := g.mu d _ hd
    subst h1
    cases h2
    refine ⟨ho', ?_⟩
    have g2 := Go.chg g.sub g.mu (o := .dK fs) (z := .dK kvs) hd ro'
    exact c.nx _ _ _ _ ((g1.trans g).trans g2) (S'.go g2) k
  | _ => exact ro.elim
theorem lkK_nx {d : Addr} {kvs : List (Key × D)} {o : HO} {s : S} (h : s.m d = some (.lkK kvs o)) (k : K (.nx ⟨s.r, put s.m d (.dK kvs)⟩)) : lkK d kvs o K (.nx s) := ⟨h, k⟩
end
section
variable {κ α : Type} [DecidableEq κ] [DecidableEq α]
def tab (ks : List α) (e : α → κ) (f : α → D) : List (κ × D) := ks.map fun k => (e k, f k)
theorem tab_look {e : α → κ} (he : ∀ a b, e a = e b → a = b) (f : α → D) (k : α) : ∀ ks : List α, lookD (tab ks e f) (e k) = if k ∈ ks then some (f k) else none := by
  intro ks
  induction ks with
  | nil => rfl
  | cons a ks ih =>
    show lookD ((e a, f a) :: tab ks e f) (e k) = _
    rw [lookD_cons, ih]
    by_cases h : a = k
    · rw [if_pos (by rw [h]), if_pos (by rw [h]; simp), h]
    · rw [if_neg (fun q => h (he _ _ q))]
      have : (k ∈ a :: ks) ↔ k ∈ ks := by
        rw [List.mem_cons]
        exact ⟨fun q => q.resolve_left fun z => h z.symm, .inr⟩
      simp only [this]
theorem tab_keys (ks : List α) (e : α → κ) (f : α → D) : (tab ks e f).map Prod.fst = ks.map e := by
  unfold tab
  rw [List.map_map]
  rfl
theorem tab_put {e : α → κ} (he : ∀ a b, e a = e b → a = b) (f : α → D) {k : α} {ks : List α} (hk : k ∈ ks) (d : D) : putD (tab ks e f) (e k) d = tab ks e (fun a => if a = k then d else f a) := by
  unfold putD
  rw [tab_keys, if_pos (List.mem_map.2 ⟨k, hk, rfl⟩)]
  unfold tab
  rw [List.map_map]
  refine List.map_congr_left fun a _ => ?_
  show (e a, if e a = e k then d else f a) = (e a, if a = k then d else f a)
  by_cases h : a = k
  · rw [if_pos h, if_pos (by rw [h])]
  · rw [if_neg h, if_neg (fun q => h (he _ _ q))]
theorem tab_len (ks : List α) (e : α → κ) (f : α → D) : (tab ks e f).length = ks.length := by simp [tab]
end
def kI (n : Nat) : Key := .inl (n : Int)
theorem kI_inj (a b : Nat) (h : kI a = kI b) : a = b := by
  have := Sum.inl.inj h
  omega
theorem k2_inj' (a b : Nat × Nat) (h : k2 a = k2 b) : a = b := k2_inj h
end Pw
namespace Cg
open Pw (lookD putD lookD_put lookD_isSome)
abbrev N := Nat × Nat
structure G where
  c : Nat → Nat → Int
  X : List Nat
  Y : List Nat
  f : Nat → Nat → Int
def ways (g : G) (u : N) : List (N × Int) :=
  if u.1 = 0 then g.Y.map fun y => ((1, y), g.c u.2 y)
  else (g.X.filter fun x => decide (0 < g.f x u.2)).map fun x => ((0, x), 0 - g.c x u.2)
def V (g : G) (v : N) : Prop := (v.1 = 0 ∧ v.2 ∈ g.X) ∨ (v.1 = 1 ∧ v.2 ∈ g.Y)
def Vl (g : G) : List N := g.X.map (fun x => (0, x)) ++ g.Y.map (fun y => (1, y))
theorem mem_Vl {g : G} {v : N} : v ∈ Vl g ↔ V g v := by
  obtain ⟨i, j⟩ := v
  unfold Vl V
  rw [List.mem_append, List.mem_map, List.mem_map]
  constructor
  · rintro (⟨x, hx, e⟩ | ⟨x, hx, e⟩)
    · cases e; exact .inl ⟨rfl, hx⟩
    · cases e; exact .inr ⟨rfl, hx⟩
  · rintro (⟨e, hx⟩ | ⟨e, hx⟩)
    · have e : i = 0 := e
      subst e
      exact .inl ⟨j, hx, rfl⟩
    · have e : i = 1 := e
      subst e
      exact .inr ⟨j, hx, rfl⟩
theorem way_cases {g : G} {u v : N} {k : Int} (h : (v, k) ∈ ways g u) : (u.1 = 0 ∧ v.1 = 1 ∧ v.2 ∈ g.Y ∧ k = g.c u.2 v.2) ∨ (u.1 ≠ 0 ∧ v.1 = 0 ∧ v.2 ∈ g.X ∧ 0 < g.f v.2 u.2 ∧ k = 0 - g.c v.2 u.2) := by
  unfold ways at h
  by_cases e : u.1 = 0
  · rw [if_pos e] at h
    obtain ⟨y, hy, q⟩ := List.mem_map.1 h
    cases q
    exact .inl ⟨e, rfl, hy, rfl⟩
  · rw [if_neg e] at h
    obtain ⟨x, hx, q⟩ := List.mem_map.1 h
    cases q
    obtain ⟨h1, h2⟩ := List.mem_filter.1 hx
    exact .inr ⟨e, rfl, h1, of_decide_eq_true h2, rfl⟩
theorem way_fwd {g : G} {x y : Nat} (h : y ∈ g.Y) : (((1, y), g.c x y) : N × Int) ∈ ways g (0, x) := by
  unfold ways
  rw [if_pos rfl]
  exact List.mem_map.2 ⟨y, h, rfl⟩
theorem way_back {g : G} {x y : Nat} (h : x ∈ g.X) (hf : 0 < g.f x y) : (((0, x), 0 - g.c x y) : N × Int) ∈ ways g (1, y) := by
  unfold ways
  rw [if_neg (show ¬ (1 : Nat) = 0 by decide)]
  exact List.mem_map.2 ⟨x, List.mem_filter.2 ⟨h, decide_eq_true hf⟩, rfl⟩
theorem way_V {g : G} {u v : N} {k : Int} (h : (v, k) ∈ ways g u) : V g v := by
  rcases way_cases h with ⟨_, h1, h2, _⟩ | ⟨_, h1, h2, _⟩
  · exact .inr ⟨h1, h2⟩
  · exact .inl ⟨h1, h2⟩
theorem way_ne {g : G} {u v : N} {k : Int} (h : (v, k) ∈ ways g u) : v ≠ u := fun e => by
  subst e
  rcases way_cases h with ⟨h0, h1, _⟩ | ⟨h0, h1, _⟩
  · omega
  · exact h0 h1
structure L where
  fo : List (N × Int)
  ah : List (N × N)
  wa : List N
def lab (s : L) (v : N) : Int := (lookD s.fo v).getD 0
abbrev In (s : L) (v : N) : Prop := (lookD s.fo v).isSome = true
def turn (u : N) (s : L) (e : N × Int) : Prop := ¬ In s e.1 ∨ lab s u + e.2 < lab s e.1
instance (u : N) (s : L) (e : N × Int) : Decidable (turn u s e) := by unfold turn; infer_instance
def setL (u : N) (s : L) (e : N × Int) : L := ⟨putD s.fo e.1 (lab s u + e.2), putD s.ah e.1 u, if e.1 ∈ s.wa then s.wa else s.wa ++ [e.1]⟩
def relax (u : N) (s : L) (e : N × Int) : L := if turn u s e then setL u s e else s
def stepL (g : G) (s : L) : L := match s.wa with
  | [] => s
  | u :: ws => (ways g u).foldl (relax u) ⟨s.fo, s.ah, ws⟩
inductive LR (g : G) : Nat → L → L → Prop
  | done {s : L} (h : s.wa = []) : LR g 0 s s
  | step {n : Nat} {s s' : L} {u : N} {ws : List N} (h : s.wa = u :: ws) (r : LR g n (stepL g s) s') : LR g (n + 1) s s'
inductive Ch (ah : List (N × N)) : N → List N → Prop
  | root {v : N} (h : lookD ah v = none) : Ch ah v [v]
  | step {v u : N} {l : List N} (h : lookD ah v = some u) (r : Ch ah u l) : Ch ah v (v :: l)
theorem Ch.uniq {ah : List (N × N)} {v : N} {l l' : List N} (h : Ch ah v l) : Ch ah v l' → l = l' := by
  induction h generalizing l' with
  | root h =>
    intro k
    cases k with
    | root _ => rfl
    | step q _ => rw [h] at q; cases q
  | step h r ih =>
    intro k
    cases k with
    | root q => rw [h] at q; cases q
    | step q r' =>
      rw [h] at q
      cases q
      rw [ih r']
theorem Ch.sub {ah : List (N × N)} {v w : N} {l : List N} (h : Ch ah v l) (hw : w ∈ l) : ∃ l', Ch ah w l' ∧ l'.length ≤ l.length := by
  induction h with
  | root h =>
    rw [List.mem_singleton] at hw
    subst hw
    exact ⟨_, .root h, Nat.le_refl _⟩
  | step h r ih =>
    rcases List.mem_cons.1 hw with e | hw
    · subst e
      exact ⟨_, .step h r, Nat.le_refl _⟩
    · obtain ⟨l', h1, h2⟩ := ih hw
      exact ⟨l', h1, by rw [List.length_cons]; omega⟩
theorem Ch.nodup {ah : List (N × N)} {v : N} {l : List N} (h : Ch ah v l) : l.Nodup := by
  induction h with
  | root h => simp
  | @step v u l h r ih =>
    rw [List.nodup_cons]
    refine ⟨fun hv => ?_, ih⟩
    obtain ⟨l', h1, h2⟩ := r.sub hv
    have := Ch.uniq h1 (.step h r)
    rw [this, List.length_cons] at h2
    omega
theorem Ch.ne {ah : List (N × N)} {v : N} {l : List N} (h : Ch ah v l) : ∃ t, l = v :: t := by
  cases h with
  | root h => exact ⟨[], rfl⟩
  | step h r => exact ⟨_, rfl⟩
def Pot (g : G) (p : N → Int) : Prop := ∀ u v k, V g u → (v, k) ∈ ways g u → p v ≤ p u + k
structure LI (g : G) (p : N → Int) (P : Int) (B : List N) (cu : N) (es : List (N × Int)) (s : L) : Prop where
  dom : ∀ v, In s v → V g v
  beg : ∀ b ∈ B, In s b ∧ lab s b ≤ 0
  src : ∀ v, In s v → (lookD s.ah v).isSome = true ∨ (v ∈ B ∧ lab s v = 0)
  pre : ∀ v u, lookD s.ah v = some u → In s u ∧ In s v ∧ ∃ k, (v, k) ∈ ways g u ∧ lab s u + k ≤ lab s v
  rel : ∀ u e, In s u → u ∉ s.wa → e ∈ ways g u → (u = cu → e ∉ es) → In s e.1 ∧ lab s e.1 ≤ lab s u + e.2
  wad : ∀ u ∈ s.wa, In s u
  low : ∀ v, In s v → p v - P ≤ lab s v
  chn : ∀ v, In s v → ∃ l, Ch s.ah v l
section
variable {g : G} {p : N → Int} {P : Int} {B : List N} {cu : N} {es : List (N × Int)} {s : L} {e : N × Int}
theorem in_set {u z : N} : In (setL u s e) z ↔ z = e.1 ∨ In s z := by
  show (lookD (putD s.fo e.1 _) z).isSome = true ↔ _
  rw [lookD_put]
  by_cases h : z = e.1
  · rw [if_pos h]; simp [h]
  · rw [if_neg h]; simp [h]
theorem lab_set {u z : N} : lab (setL u s e) z = if z = e.1 then lab s u + e.2 else lab s z := by
  show (lookD (putD s.fo e.1 _) z).getD 0 = _
  rw [lookD_put]
  by_cases h : z = e.1
  · rw [if_pos h, if_pos h]; rfl
  · rw [if_neg h, if_neg h]; rfl
theorem ah_set {u z : N} : lookD (setL u s e).ah z = if z = e.1 then some u else lookD s.ah z := lookD_put
theorem LI.dec (h : LI g p P B cu es s) (hp : Pot g p) : ∀ {u : N} {l : List N}, Ch s.ah u l → ∀ w ∈ l, lab s w - p w ≤ lab s u - p u := by
  intro u l hc
  induction hc with
  | root _ =>
    intro w hw
    rw [List.mem_singleton] at hw
    subst hw
    exact Int.le_refl _
  | @step v u l hv r ih =>
    intro w hw
    rcases List.mem_cons.1 hw with e | hw
    · subst e; exact Int.le_refl _
    · have h1 := ih w hw
      obtain ⟨h2, h3, k, h4, h5⟩ := h.pre v u hv
      have h6 := hp u v k (h.dom u h2) h4
      omega
theorem relax_ok (hp : Pot g p) (h : LI g p P B cu (e :: es) s) (hc : In s cu) (he : e ∈ ways g cu) : LI g p P B cu es (relax cu s e) ∧ In (relax cu s e) cu := by
  have hne : e.1 ≠ cu := way_ne he
  unfold relax
  by_cases ht : turn cu s e
  · rw [if_pos ht]
    have hcu : In (setL cu s e) cu := in_set.2 (.inr hc)
    have lcu : lab (setL cu s e) cu = lab s cu := by rw [lab_set, if_neg (fun q => hne q.symm)]
    have hle : ∀ z, In s z → lab (setL cu s e) z ≤ lab s z := fun z hz => by
      rw [lab_set]
      by_cases q : z = e.1
      · rw [if_pos q]
        rcases ht with ht | ht
        · rw [q] at hz; exact absurd hz ht
        · rw [q]; omega
      · rw [if_neg q]; exact Int.le_refl _
    have hnew : lab (setL cu s e) e.1 = lab s cu + e.2 := by rw [lab_set, if_pos rfl]
    have hpe := hp cu e.1 e.2 (h.dom cu hc) he
    have hw' : ∀ z, z ∈ (setL cu s e).wa ↔ z ∈ s.wa ∨ z = e.1 := fun z => by
      show z ∈ (if e.1 ∈ s.wa then s.wa else s.wa ++ [e.1]) ↔ _
      split
      · rename_i q
        constructor
        · exact fun h => .inl h
        · rintro (h | h)
          · exact h
          · rw [h]; exact q
      · rw [List.mem_append, List.mem_singleton]
    have hlow : p e.1 - P ≤ lab s cu + e.2 := by have := h.low cu hc; omega
    obtain ⟨lc, hlc⟩ := h.chn cu hc
    have hnot : e.1 ∉ lc := fun hm => by
      rcases ht with ht | ht
      · -- what is new stands in no chain
        have : ∀ {u : N} {l : List N}, Ch s.ah u l → In s u → ∀ w ∈ l, In s w := by
          intro u l hc
          induction hc with
          | root _ =>
            intro hu w hw
            rw [List.mem_singleton] at hw
            rw [hw]; exact hu
          | @step v u l hv r ih =>
            intro hu w hw
            rcases List.mem_cons.1 hw with q | hw
            · rw [q]; exact hu
            · exact ih (h.pre v u hv).1 w hw
        exact ht (this hlc hc _ hm)
      · have := h.dec hp hlc _ hm
        omega
    have keepc : ∀ {u : N} {l : List N}, Ch s.ah u l → e.1 ∉ l → Ch (setL cu s e).ah u l := by
      intro u l hc
      induction hc with
      | @root v hv =>
        intro hn
        rw [List.mem_singleton] at hn
        exact .root (by rw [ah_set, if_neg (fun q => hn q.symm)]; exact hv)
      | @step v u l hv r ih =>
        intro hn
        rw [List.mem_cons, not_or] at hn
        exact .step (by rw [ah_set, if_neg (fun q => hn.1 q.symm)]; exact hv) (ih hn.2)
    have hce : Ch (setL cu s e).ah e.1 (e.1 :: lc) := .step (by rw [ah_set, if_pos rfl]) (keepc hlc hnot)
    have newc : ∀ {u : N} {l : List N}, Ch s.ah u l → ∃ l', Ch (setL cu s e).ah u l' := by
      intro u l hc
      induction hc with
      | @root v hv =>
        by_cases q : v = e.1
        · rw [q]; exact ⟨_, hce⟩
        · exact ⟨_, .root (by rw [ah_set, if_neg q]; exact hv)⟩
      | @step v u l hv r ih =>
        by_cases q : v = e.1
        · rw [q]; exact ⟨_, hce⟩
        · obtain ⟨l', h'⟩ := ih
          exact ⟨_, .step (by rw [ah_set, if_neg q]; exact hv) h'⟩
    refine ⟨⟨fun v hv => ?_, fun b hb => ?_, fun v hv => ?_, fun v u hv => ?_, fun u e' hu hw he' hx => ?_, fun u hu => ?_, fun v hv => ?_, fun v hv => ?_⟩, hcu⟩
    · rcases in_set.1 hv with q | q
      · rw [q]; exact way_V he
      · exact h.dom v q
    · obtain ⟨h1, h2⟩ := h.beg b hb
      exact ⟨in_set.2 (.inr h1), Int.le_trans (hle b h1) h2⟩
    · by_cases q : v = e.1
      · exact .inl (by rw [ah_set, if_pos q]; rfl)
      · rw [ah_set, if_neg q, lab_set, if_neg q]
        rcases in_set.1 hv with q' | q'
        · exact absurd q' q
        · exact h.src v q'
    · by_cases q : v = e.1
      · rw [ah_set, if_pos q] at hv
        cases hv
        rw [q]
        exact ⟨hcu, in_set.2 (.inl rfl), e.2, he, by rw [hnew, lcu]; exact Int.le_refl _⟩
      · rw [ah_set, if_neg q] at hv
        obtain ⟨h1, h2, k, h3, h4⟩ := h.pre v u hv
        refine ⟨in_set.2 (.inr h1), in_set.2 (.inr h2), k, h3, ?_⟩
        have := hle u h1
        rw [lab_set (z := v), if_neg q]
        omega
    · rw [hw', not_or] at hw
      have hu' : In s u := (in_set.1 hu).resolve_left hw.2
      rw [lab_set (z := u), if_neg hw.2]
      by_cases qe : u = cu ∧ e' = e
      · rw [qe.2]
        exact ⟨in_set.2 (.inl rfl), by rw [hnew, qe.1]; exact Int.le_refl _⟩
      · obtain ⟨h1, h2⟩ := h.rel u e' hu' hw.1 he' fun q => by
          rw [List.mem_cons, not_or]
          exact ⟨fun q' => qe ⟨q, q'⟩, hx q⟩
        exact ⟨in_set.2 (.inr h1), Int.le_trans (hle _ h1) h2⟩
    · rcases (hw' u).1 hu with q | q
      · exact in_set.2 (.inr (h.wad u q))
      · exact in_set.2 (.inl q)
    · rw [lab_set]
      by_cases q : v = e.1
      · rw [if_pos q, q]; exact hlow
      · rw [if_neg q]
        exact h.low v ((in_set.1 hv).resolve_left q)
    · rcases in_set.1 hv with q | q
      · rw [q]; exact ⟨_, hce⟩
      · obtain ⟨l, hl⟩ := h.chn v q
        exact newc hl
  · rw [if_neg ht]
    refine ⟨⟨h.dom, h.beg, h.src, h.pre, fun u e' hu hw he' hx => ?_, h.wad, h.low, h.chn⟩, hc⟩
    by_cases qe : u = cu ∧ e' = e
    · unfold turn at ht
      rw [not_or] at ht
      rw [qe.1, qe.2]
      exact ⟨Decidable.not_not.1 ht.1, by omega⟩
    · exact h.rel u e' hu hw he' fun q => by
        rw [List.mem_cons, not_or]
        exact ⟨fun q' => qe ⟨q, q'⟩, hx q⟩
def unf (g : G) (s : L) : Nat := (Vl g).countP fun v => !(lookD s.fo v).isSome
def sm (g : G) (p : N → Int) (P : Int) (s : L) : Nat := ((Vl g).map fun v => if (lookD s.fo v).isSome = true then (lab s v - (p v - P)).toNat else 0).sum
theorem sum_le_of {α : Type} {f k : α → Nat} : ∀ {l : List α}, (∀ a ∈ l, f a ≤ k a) → (l.map f).sum ≤ (l.map k).sum := by
  intro l
  induction l with
  | nil => intro _; exact Nat.le_refl _
  | cons a l ih =>
    intro h
    rw [List.map_cons, List.map_cons, List.sum_cons, List.sum_cons]
    have := h a (by simp)
    have := ih fun b hb => h b (by simp [hb])
    omega
theorem sum_lt_of {α : Type} {f k : α → Nat} : ∀ {l : List α} {b : α}, (∀ a ∈ l, f a ≤ k a) → b ∈ l → f b < k b → (l.map f).sum < (l.map k).sum := by
  intro l
  induction l with
  | nil => intro b _ hb; cases hb
  | cons a l ih =>
    intro b h hb hlt
    rw [List.map_cons, List.map_cons, List.sum_cons, List.sum_cons]
    have h1 := h a (by simp)
    have h2 := sum_le_of fun b hb => h b (List.mem_cons_of_mem a hb)
    rcases List.mem_cons.1 hb with q | q
    · rw [q] at hlt; omega
    · have := ih (fun b hb => h b (List.mem_cons_of_mem a hb)) q hlt
      omega
theorem count_sum {α : Type} {q : α → Bool} : ∀ l : List α, l.countP q = (l.map fun a => if q a = true then 1 else 0).sum := by
  intro l
  induction l with
  | nil => rfl
  | cons a l ih =>
    rw [List.countP_cons, List.map_cons, List.sum_cons, ih]
    omega
def Less (g : G) (p : N → Int) (P : Int) (s s' : L) : Prop := unf g s' < unf g s ∨ (unf g s' = unf g s ∧ sm g p P s' < sm g p P s)
theorem Less.trans {s s' s'' : L} (h : Less g p P s s') (k : Less g p P s' s'') : Less g p P s s'' := by
  unfold Less at *
  omega
theorem relax_less (hp : Pot g p) (h : LI g p P B cu (e :: es) s) (hc : In s cu) (he : e ∈ ways g cu) : Less g p P s (relax cu s e) ∨ relax cu s e = s := by
  unfold relax
  by_cases ht : turn cu s e
  · rw [if_pos ht]
    refine .inl ?_
    have hv : e.1 ∈ Vl g := mem_Vl.2 (way_V he)
    by_cases hi : In s e.1
    · have hlt : lab s cu + e.2 < lab s e.1 := by
        rcases ht with ht | ht
        · exact absurd hi ht
        · exact ht
      have hsame : ∀ z, (lookD (setL cu s e).fo z).isSome = (lookD s.fo z).isSome := fun z => by
        rw [Bool.eq_iff_iff]
        have := in_set (u := cu) (s := s) (e := e) (z := z)
        unfold In at this hi
        rw [this]
        constructor
        · rintro (q | q)
          · rw [q]; exact hi
          · exact q
        · exact fun q => .inr q
      refine .inr ⟨?_, ?_⟩
      · unfold unf
        congr 1
        funext z
        rw [hsame]
      · unfold sm
        have hpe := hp cu e.1 e.2 (h.dom cu hc) he
        have hlow := h.low cu hc
        refine sum_lt_of (b := e.1) (fun a _ => ?_) hv ?_
        · rw [hsame]
          split
          · rename_i ha
            rw [lab_set]
            split
            · rename_i q
              rw [q]
              omega
            · exact Nat.le_refl _
          · exact Nat.le_refl _
        · rw [hsame, if_pos hi, if_pos hi, lab_set, if_pos rfl]
          omega
    · refine .inl ?_
      unfold unf
      rw [count_sum, count_sum]
      refine sum_lt_of (b := e.1) (fun a _ => ?_) hv ?_
      · have := in_set (u := cu) (s := s) (e := e) (z := a)
        unfold In at this
        cases h1 : (lookD (setL cu s e).fo a).isSome with
        | true => simp
        | false =>
          cases h2 : (lookD s.fo a).isSome with
          | true => rw [h1, h2] at this; simp at this
          | false => exact Nat.le_refl _
      · have h1 : (lookD (setL cu s e).fo e.1).isSome = true := in_set.2 (.inl rfl)
        have h2 : (lookD s.fo e.1).isSome = false := by simpa [In] using hi
        rw [h1, h2]
        decide
  · rw [if_neg ht]
    exact .inr rfl
theorem fold_ok (hp : Pot g p) : ∀ (es : List (N × Int)) (s : L), (∀ e ∈ es, e ∈ ways g cu) → LI g p P B cu es s → In s cu → LI g p P B cu [] (es.foldl (relax cu) s) ∧ (Less g p P s (es.foldl (relax cu) s) ∨ es.foldl (relax cu) s = s) := by
  intro es
  induction es with
  | nil => intro s _ h _; exact ⟨h, .inr rfl⟩
  | cons e es ih =>
    intro s hw h hc
    have he := hw e (by simp)
    obtain ⟨h1, h2⟩ := relax_ok hp h hc he
    obtain ⟨h3, h4⟩ := ih (relax cu s e) (fun e' h' => hw e' (by simp [h'])) h1 h2
    refine ⟨h3, ?_⟩
    show Less g p P s (es.foldl (relax cu) (relax cu s e)) ∨ es.foldl (relax cu) (relax cu s e) = s
    rcases relax_less hp h hc he with q | q
    · rcases h4 with r | r
      · exact .inl (q.trans r)
      · rw [r]; exact .inl q
    · rcases h4 with r | r
      · rw [q] at r ⊢; exact .inl r
      · rw [r, q]; exact .inr rfl
theorem LI.any {cu' : N} (h : LI g p P B cu [] s) : LI g p P B cu' [] s := ⟨h.dom, h.beg, h.src, h.pre, fun u e hu hw he _ => h.rel u e hu hw he fun _ => by simp, h.wad, h.low, h.chn⟩
theorem step_ok (hp : Pot g p) {u : N} {ws : List N} (h : LI g p P B cu [] s) (hs : s.wa = u :: ws) : LI g p P B u [] (stepL g s) ∧ (Less g p P s (stepL g s) ∨ (unf g (stepL g s) = unf g s ∧ sm g p P (stepL g s) = sm g p P s ∧ (stepL g s).wa.length < s.wa.length)) := by
  have e : stepL g s = (ways g u).foldl (relax u) ⟨s.fo, s.ah, ws⟩ := by
    unfold stepL
    rw [hs]
  have hu : In s u := h.wad u (by rw [hs]; simp)
  have h0 : LI g p P B u (ways g u) ⟨s.fo, s.ah, ws⟩ := ⟨h.dom, h.beg, h.src, h.pre, fun z e' hz hw he' hx => by
    by_cases q : z = u
    · rw [q] at he'; exact absurd he' (hx q)
    · exact h.rel z e' hz (by rw [hs, List.mem_cons, not_or]; exact ⟨q, hw⟩) he' fun _ => by simp, fun z hz => h.wad z (by rw [hs]; exact List.mem_cons_of_mem _ hz), h.low, h.chn⟩
  obtain ⟨h1, h2⟩ := fold_ok hp (ways g u) _ (fun _ q => q) h0 hu
  rw [e]
  refine ⟨h1, ?_⟩
  rcases h2 with q | q
  · exact .inl q
  · refine .inr ?_
    rw [q]
    exact ⟨rfl, rfl, by rw [hs, List.length_cons]; exact Nat.lt_succ_self _⟩
theorem run_ex (hp : Pot g p) (s : L) {cu : N} (h : LI g p P B cu [] s) : ∃ n s', LR g n s s' ∧ LI g p P B (0, 0) [] s' ∧ s'.wa = [] := by
  cases hs : s.wa with
  | nil => exact ⟨0, s, .done hs, h.any, hs⟩
  | cons u ws =>
    obtain ⟨h1, h2⟩ := step_ok hp h hs
    have hdec : Prod.Lex (· < ·) (Prod.Lex (· < ·) (· < ·)) (unf g (stepL g s), sm g p P (stepL g s), (stepL g s).wa.length) (unf g s, sm g p P s, s.wa.length) := by
      rcases h2 with (q | ⟨q1, q2⟩) | ⟨q1, q2, q3⟩
      · exact .left _ _ q
      · rw [q1]; exact .right _ (.left _ _ q2)
      · rw [q1, q2]; exact .right _ (.right _ q3)
    obtain ⟨n, s', r, i, w⟩ := run_ex hp (stepL g s) h1
    exact ⟨n + 1, s', .step hs r, i, w⟩
termination_by (unf g s, sm g p P s, s.wa.length)
decreasing_by exact hdec
end
end Cg
namespace Cg
open Pw (lookD putD lookD_put lookD_isSome lookD_cons lookD_none lookD_some_mem)
def L0 (B : List N) : L := ⟨B.map (fun b => (b, 0)), [], B⟩
theorem look_L0 {B : List N} {v : N} : lookD (L0 B).fo v = if v ∈ B then some 0 else none := by
  unfold L0
  induction B with
  | nil => simp [lookD]
  | cons b B ih =>
    show lookD ((b, 0) :: B.map fun b => (b, 0)) v = _
    rw [lookD_cons]
    by_cases e : b = v
    · rw [if_pos e, if_pos (by rw [e]; simp)]
    · rw [if_neg e]
      have : (v ∈ b :: B) ↔ v ∈ B := by
        rw [List.mem_cons]
        exact ⟨fun h => h.resolve_left fun q => e q.symm, .inr⟩
      simp only [this]
      exact ih
structure Fin (g : G) (B : List N) (s : L) : Prop where
  dom : ∀ v, In s v → V g v
  beg : ∀ b ∈ B, In s b ∧ lab s b ≤ 0
  src : ∀ v, In s v → (lookD s.ah v).isSome = true ∨ (v ∈ B ∧ lab s v = 0)
  pre : ∀ v u, lookD s.ah v = some u → In s u ∧ In s v ∧ ∃ k, (v, k) ∈ ways g u ∧ lab s v = lab s u + k
  rel : ∀ u e, In s u → e ∈ ways g u → In s e.1 ∧ lab s e.1 ≤ lab s u + e.2
  chn : ∀ v, In s v → ∃ l, Ch s.ah v l
theorem bound_ex (p : N → Int) : ∀ B : List N, ∃ P, ∀ b ∈ B, p b ≤ P := by
  intro B
  induction B with
  | nil => exact ⟨0, fun b h => by cases h⟩
  | cons a B ih =>
    obtain ⟨P, h⟩ := ih
    refine ⟨max (p a) P, fun b hb => ?_⟩
    rcases List.mem_cons.1 hb with q | q
    · rw [q]; omega
    · have := h b q; omega
theorem L0_ok {g : G} {p : N → Int} {P : Int} {B : List N} (hB : ∀ b ∈ B, V g b) (hP : ∀ b ∈ B, p b ≤ P) : LI g p P B (0, 0) [] (L0 B) := by
  have hin : ∀ v, In (L0 B) v ↔ v ∈ B := fun v => by
    unfold In
    rw [look_L0]
    split
    · rename_i h; simp [h]
    · rename_i h; simp [h]
  have hlab : ∀ v, lab (L0 B) v = 0 := fun v => by
    unfold lab
    rw [look_L0]
    split <;> rfl
  refine ⟨fun v hv => hB v ((hin v).1 hv), fun b hb => ⟨(hin b).2 hb, by rw [hlab]; exact Int.le_refl _⟩, fun v hv => .inr ⟨(hin v).1 hv, hlab v⟩, fun v u h => (by cases h), fun u e hu hw _ _ => absurd ((hin u).1 hu) hw, fun u hu => (hin u).2 hu, fun v hv => ?_, fun v _ => ⟨_, .root rfl⟩⟩
  rw [hlab]
  have := hP v ((hin v).1 hv)
  omega
theorem Ch.all_in {g : G} {B : List N} {s : L} (h : Fin g B s) {v : N} {l : List N} (hc : Ch s.ah v l) (hv : In s v) : ∀ w ∈ l, In s w := by
  induction hc with
  | root _ =>
    intro w hw
    rw [List.mem_singleton] at hw
    rw [hw]; exact hv
  | @step v u l hu r ih =>
    intro w hw
    rcases List.mem_cons.1 hw with q | q
    · rw [q]; exact hv
    · exact ih (h.pre v u hu).1 w q
theorem lab_le {g : G} {B : List N} {s : L} {C : Int} (h : Fin g B s) (hC : ∀ x y, x ∈ g.X → y ∈ g.Y → 0 ≤ g.c x y ∧ g.c x y ≤ C) {v : N} {l : List N} (hc : Ch s.ah v l) (hv : In s v) : lab s v ≤ (l.length - 1 : Nat) * C ∧ -((l.length - 1 : Nat) * C) ≤ lab s v := by
  induction hc with
  | @root v hr =>
    rcases h.src v hv with q | q
    · rw [hr] at q; cases q
    · rw [q.2]; simp
  | @step v u l hu r ih =>
    obtain ⟨h1, h2, k, h3, h4⟩ := h.pre v u hu
    obtain ⟨i1, i2⟩ := ih h1
    obtain ⟨t, rfl⟩ := r.ne
    have hk : -C ≤ k ∧ k ≤ C := by
      rcases h.dom u h1 with ⟨e0, e1⟩ | ⟨e0, e1⟩
      · rcases way_cases h3 with ⟨q0, q1, q2, q3⟩ | ⟨q0, _⟩
        · have := hC u.2 v.2 e1 q2; omega
        · exact absurd e0 q0
      · rcases way_cases h3 with ⟨q0, _⟩ | ⟨q0, q1, q2, _, q3⟩
        · omega
        · have := hC v.2 u.2 q2 e1; omega
    simp only [List.length_cons, Nat.add_sub_cancel] at i1 i2 ⊢
    have e : ((t.length + 1 : Nat) : Int) * C = (t.length : Int) * C + C := by rw [Int.natCast_add, Int.add_mul]; simp
    rw [e, h4]
    omega
theorem nodup_len {α : Type} [DecidableEq α] : ∀ {l ks : List α}, l.Nodup → (∀ k ∈ l, k ∈ ks) → l.length ≤ ks.length := by
  intro l
  induction l with
  | nil => intro ks _ _; exact Nat.zero_le _
  | cons a l ih =>
    intro ks hn hs
    have ha : a ∈ ks := hs a (by simp)
    rw [List.nodup_cons] at hn
    have h1 : l.length ≤ (ks.erase a).length := ih hn.2 fun k hk => (List.mem_erase_of_ne (fun e => hn.1 (by rw [← e]; exact hk))).2 (hs k (by simp [hk]))
    rw [List.length_erase_of_mem ha] at h1
    have := List.length_pos_of_mem ha
    rw [List.length_cons]
    omega
theorem lab_bd {g : G} {B : List N} {s : L} {C : Int} (h : Fin g B s) (hC0 : 0 ≤ C) (hC : ∀ x y, x ∈ g.X → y ∈ g.Y → 0 ≤ g.c x y ∧ g.c x y ≤ C) {v : N} (hv : In s v) : lab s v ≤ ((g.X.length + g.Y.length : Nat) : Int) * C ∧ -(((g.X.length + g.Y.length : Nat) : Int) * C) ≤ lab s v := by
  obtain ⟨l, hl⟩ := h.chn v hv
  have h1 := lab_le h hC hl hv
  have h2 := nodup_len (ks := Vl g) hl.nodup fun w hw => mem_Vl.2 (h.dom w (hl.all_in h hv w hw))
  have h3 : (Vl g).length = g.X.length + g.Y.length := by unfold Vl; simp
  have h4 : ((l.length - 1 : Nat) : Int) * C ≤ ((g.X.length + g.Y.length : Nat) : Int) * C := Int.mul_le_mul_of_nonneg_right (by omega) hC0
  omega
def addAt (f : Nat → Nat → Int) (x y : Nat) (a : Int) : Nat → Nat → Int := fun i j => if i = x ∧ j = y then f i j + a else f i j
def aug1 (a : Int) (f : Nat → Nat → Int) (e : N × N) : Nat → Nat → Int := if e.1.1 = 0 then addAt f e.1.2 e.2.2 a else addAt f e.2.2 e.1.2 (-a)
def eds (l : List N) : List (N × N) := l.tail.zip l
theorem eds_cons (v u : N) (t : List N) : eds (v :: u :: t) = (u, v) :: eds (u :: t) := rfl
theorem eds_ah {ah : List (N × N)} {v : N} {l : List N} (h : Ch ah v l) : ∀ e ∈ eds l, lookD ah e.2 = some e.1 := by
  induction h with
  | root _ => intro e he; cases he
  | @step v u l hu r ih =>
    obtain ⟨t, rfl⟩ := r.ne
    intro e he
    rw [eds_cons] at he
    rcases List.mem_cons.1 he with q | q
    · rw [q]; exact hu
    · exact ih e q
def aug (a : Int) (f : Nat → Nat → Int) (l : List N) : Nat → Nat → Int := (eds l).foldl (aug1 a) f
def rowS (Y : List Nat) (f : Nat → Nat → Int) (x : Nat) : Int := (Y.map fun y => f x y).sum
def colS (X : List Nat) (f : Nat → Nat → Int) (y : Nat) : Int := (X.map fun x => f x y).sum
theorem sum_at {f : Nat → Int} {y0 : Nat} {a : Int} : ∀ {Y : List Nat}, Y.Nodup → (Y.map fun y => if y = y0 then f y + a else f y).sum = (Y.map f).sum + if y0 ∈ Y then a else 0 := by
  intro Y
  induction Y with
  | nil => intro _; simp
  | cons y Y ih =>
    intro hn
    rw [List.nodup_cons] at hn
    rw [List.map_cons, List.sum_cons, List.map_cons, List.sum_cons, ih hn.2]
    by_cases e : y = y0
    · subst e
      rw [if_pos rfl, if_pos (List.mem_cons_self), if_neg hn.1]
      omega
    · have : (y0 ∈ y :: Y) ↔ y0 ∈ Y := by
        rw [List.mem_cons]
        exact ⟨fun h => h.resolve_left fun q => e q.symm, .inr⟩
      simp only [this]
      rw [if_neg e]
      omega
theorem rowS_add {Y : List Nat} {f : Nat → Nat → Int} {x y x0 : Nat} {a : Int} (hn : Y.Nodup) (hy : y ∈ Y) : rowS Y (addAt f x0 y a) x = rowS Y f x + if x = x0 then a else 0 := by
  unfold rowS addAt
  by_cases e : x = x0
  · have h := sum_at (f := f x) (y0 := y) (a := a) hn
    rw [if_pos hy] at h
    rw [if_pos e, ← h]
    congr 1
    exact List.map_congr_left fun z _ => by simp [e]
  · rw [if_neg e, Int.add_zero]
    congr 1
    exact List.map_congr_left fun z _ => by simp [e]
theorem colS_add {X : List Nat} {f : Nat → Nat → Int} {x y y0 : Nat} {a : Int} (hn : X.Nodup) (hx : x ∈ X) : colS X (addAt f x y0 a) y = colS X f y + if y = y0 then a else 0 := by
  unfold colS addAt
  by_cases e : y = y0
  · have h := sum_at (f := fun z => f z y) (y0 := x) (a := a) hn
    rw [if_pos hx] at h
    rw [if_pos e, ← h]
    congr 1
    exact List.map_congr_left fun z _ => by simp [e]
  · rw [if_neg e, Int.add_zero]
    congr 1
    exact List.map_congr_left fun z _ => by simp [e]
def Ed (g : G) (e : N × N) : Prop := (e.1.1 = 0 ∧ e.2.1 = 1 ∧ e.1.2 ∈ g.X ∧ e.2.2 ∈ g.Y) ∨ (e.1.1 = 1 ∧ e.2.1 = 0 ∧ e.2.2 ∈ g.X ∧ e.1.2 ∈ g.Y)
theorem aug_sums {g : G} {a : Int} (hx : g.X.Nodup) (hy : g.Y.Nodup) : ∀ (t : List N) (v : N) (f : Nat → Nat → Int), (∀ e ∈ eds (v :: t), Ed g e) →
    (∀ x, rowS g.Y (aug a f (v :: t)) x = rowS g.Y f x + (if (v :: t).getLastD (0, 0) = (0, x) then a else 0) - (if v = (0, x) then a else 0)) ∧
    (∀ y, colS g.X (aug a f (v :: t)) y = colS g.X f y + (if v = (1, y) then a else 0) - (if (v :: t).getLastD (0, 0) = (1, y) then a else 0)) := by
  intro t
  induction t with
  | nil =>
    intro v f _
    refine ⟨fun x => ?_, fun y => ?_⟩
    · show rowS g.Y f x = rowS g.Y f x + (if v = (0, x) then a else 0) - (if v = (0, x) then a else 0)
      omega
    · show colS g.X f y = colS g.X f y + (if v = (1, y) then a else 0) - (if v = (1, y) then a else 0)
      omega
  | cons u t ih =>
    intro v f h
    rw [eds_cons] at h
    have he := h (u, v) (by simp)
    obtain ⟨i1, i2⟩ := ih u (aug1 a f (u, v)) fun e q => h e (by simp [q])
    have e0 : aug a f (v :: u :: t) = aug a (aug1 a f (u, v)) (u :: t) := rfl
    have e1 : (v :: u :: t).getLastD (0, 0) = (u :: t).getLastD (0, 0) := rfl
    rw [e0, e1]
    obtain ⟨u0, u1⟩ := u
    obtain ⟨v0, v1⟩ := v
    rcases he with ⟨q1, q2, q3, q4⟩ | ⟨q1, q2, q3, q4⟩
    · have q1 : u0 = 0 := q1
      have q2 : v0 = 1 := q2
      subst q1 q2
      have ea : aug1 a f ((0, u1), (1, v1)) = addAt f u1 v1 a := if_pos rfl
      rw [ea] at i1 i2 ⊢
      refine ⟨fun x => ?_, fun y => ?_⟩
      · rw [i1 x, rowS_add hy q4]
        have c1 : ((0, u1) : N) = (0, x) ↔ x = u1 := by simp [eq_comm]
        have c2 : ¬ ((1, v1) : N) = (0, x) := by simp
        simp only [c1, if_neg c2]
        omega
      · rw [i2 y, colS_add hx q3]
        have c1 : ((1, v1) : N) = (1, y) ↔ y = v1 := by simp [eq_comm]
        have c2 : ¬ ((0, u1) : N) = (1, y) := by simp
        simp only [c1, if_neg c2]
        omega
    · have q1 : u0 = 1 := q1
      have q2 : v0 = 0 := q2
      subst q1 q2
      have ea : aug1 a f ((1, u1), (0, v1)) = addAt f v1 u1 (-a) := if_neg (show ¬ (1 : Nat) = 0 by decide)
      rw [ea] at i1 i2 ⊢
      refine ⟨fun x => ?_, fun y => ?_⟩
      · rw [i1 x, rowS_add hy q4]
        have c1 : ((0, v1) : N) = (0, x) ↔ x = v1 := by simp [eq_comm]
        have c2 : ¬ ((1, u1) : N) = (0, x) := by simp
        simp only [c1, if_neg c2]
        split <;> omega
      · rw [i2 y, colS_add hx q3]
        have c1 : ((1, u1) : N) = (1, y) ↔ y = u1 := by simp [eq_comm]
        have c2 : ¬ ((0, v1) : N) = (1, y) := by simp
        simp only [c1, if_neg c2]
        split <;> omega
theorem aug_at {g : G} {a : Int} {x y : Nat} : ∀ (es : List (N × N)) (f : Nat → Nat → Int), (∀ e ∈ es, Ed g e) → es.foldl (aug1 a) f x y = f x y + a * ((es.countP fun e => decide (e = ((0, x), (1, y))) : Nat) : Int) - a * ((es.countP fun e => decide (e = ((1, y), (0, x))) : Nat) : Int) := by
  intro es
  induction es with
  | nil => intro f _; simp
  | cons e es ih =>
    intro f h
    have he := h e (by simp)
    rw [List.foldl_cons, ih _ fun e q => h e (by simp [q]), List.countP_cons, List.countP_cons]
    obtain ⟨⟨u0, u1⟩, ⟨v0, v1⟩⟩ := e
    rcases he with ⟨q1, q2, _, _⟩ | ⟨q1, q2, _, _⟩
    · have q1 : u0 = 0 := q1
      have q2 : v0 = 1 := q2
      subst q1 q2
      have ea : aug1 a f ((0, u1), (1, v1)) x y = addAt f u1 v1 a x y := by rw [show aug1 a f ((0, u1), (1, v1)) = addAt f u1 v1 a from if_pos rfl]
      rw [ea]
      unfold addAt
      have c1 : decide ((((0, u1), (1, v1)) : N × N) = ((1, y), (0, x))) = false := by simp
      rw [c1]
      by_cases e : x = u1 ∧ y = v1
      · have c2 : decide ((((0, u1), (1, v1)) : N × N) = ((0, x), (1, y))) = true := by simp [e.1, e.2]
        rw [c2, if_pos e]
        simp only [if_true, Int.natCast_add, Int.mul_add]
        simp
        omega
      · have c2 : decide ((((0, u1), (1, v1)) : N × N) = ((0, x), (1, y))) = false := by
          rw [decide_eq_false_iff_not]
          intro q
          simp only [Prod.mk.injEq] at q
          exact e ⟨q.1.2.symm, q.2.2.symm⟩
        rw [c2, if_neg e]
        simp
    · have q1 : u0 = 1 := q1
      have q2 : v0 = 0 := q2
      subst q1 q2
      have ea : aug1 a f ((1, u1), (0, v1)) x y = addAt f v1 u1 (-a) x y := by rw [show aug1 a f ((1, u1), (0, v1)) = addAt f v1 u1 (-a) from if_neg (show ¬ (1 : Nat) = 0 by decide)]
      rw [ea]
      unfold addAt
      have c1 : decide ((((1, u1), (0, v1)) : N × N) = ((0, x), (1, y))) = false := by simp
      rw [c1]
      by_cases e : x = v1 ∧ y = u1
      · have c2 : decide ((((1, u1), (0, v1)) : N × N) = ((1, y), (0, x))) = true := by simp [e.1, e.2]
        rw [c2, if_pos e]
        simp only [if_true, Int.natCast_add, Int.mul_add]
        simp
        omega
      · have c2 : decide ((((1, u1), (0, v1)) : N × N) = ((1, y), (0, x))) = false := by
          rw [decide_eq_false_iff_not]
          intro q
          simp only [Prod.mk.injEq] at q
          exact e ⟨q.2.2.symm, q.1.2.symm⟩
        rw [c2, if_neg e]
        simp
theorem count_fst {l : List N} (hn : l.Nodup) (e0 : N × N) : (eds l).countP (fun e => decide (e = e0)) ≤ 1 := by
  have h1 : (eds l).countP (fun e => decide (e = e0)) ≤ ((eds l).map Prod.fst).countP (fun u => decide (u = e0.1)) := by
    rw [List.countP_map]
    refine List.countP_mono_left fun e _ he => ?_
    have := of_decide_eq_true he
    exact decide_eq_true (by rw [this])
  have h2 : ((eds l).map Prod.fst).Sublist l.tail := by
    unfold eds
    rw [List.map_fst_zip (by simp)]
    exact List.Sublist.refl _
  have h3 : ((eds l).map Prod.fst).Nodup := (hn.sublist (List.tail_sublist l)).sublist h2
  have key : ∀ {m : List N}, m.Nodup → m.countP (fun u => decide (u = e0.1)) ≤ 1 := by
    intro m
    induction m with
    | nil => intro _; exact Nat.zero_le _
    | cons b m ih =>
      intro hm
      rw [List.nodup_cons] at hm
      rw [List.countP_cons]
      by_cases q : b = e0.1
      · have : m.countP (fun u => decide (u = e0.1)) = 0 := by
          rw [List.countP_eq_zero]
          intro u hu
          simp only [decide_eq_true_eq]
          intro qu
          exact hm.1 (by rw [q, ← qu]; exact hu)
        rw [this]
        split <;> omega
      · have := ih hm.2
        rw [if_neg (by simpa using q)]
        omega
  have h4 := key h3
  omega
structure CI (g : G) (h w H W : Nat → Int) : Prop where
  xn : g.X.Nodup
  yn : g.Y.Nodup
  f0 : ∀ x y, x ∈ g.X → y ∈ g.Y → 0 ≤ g.f x y
  h0 : ∀ x ∈ g.X, 0 ≤ h x
  w0 : ∀ y ∈ g.Y, 0 ≤ w y
  row : ∀ x ∈ g.X, h x + rowS g.Y g.f x = H x
  pos : ∀ x ∈ g.X, 0 < H x
  col : ∀ y ∈ g.Y, w y + colS g.X g.f y = W y
  tot : (g.X.map h).sum = (g.Y.map w).sum
  pot : ∃ p, Pot g p
def begs (g : G) (h : Nat → Int) : List N := (g.X.filter fun x => decide (0 < h x)).map fun x => (0, x)
theorem begs_V {g : G} {h : Nat → Int} : ∀ b ∈ begs g h, V g b := fun b hb => by
  obtain ⟨x, hx, rfl⟩ := List.mem_map.1 hb
  exact .inl ⟨rfl, (List.mem_filter.1 hx).1⟩
theorem sum_pos_ex {f : Nat → Int} : ∀ {l : List Nat}, 0 < (l.map f).sum → ∃ x ∈ l, 0 < f x := by
  intro l
  induction l with
  | nil => intro h; simp at h
  | cons a l ih =>
    intro h
    rw [List.map_cons, List.sum_cons] at h
    by_cases ha : 0 < f a
    · exact ⟨a, by simp, ha⟩
    · obtain ⟨x, hx, h1⟩ := ih (by omega)
      exact ⟨x, by simp [hx], h1⟩
theorem sum_nn {f : Nat → Int} : ∀ {l : List Nat}, (∀ x ∈ l, 0 ≤ f x) → 0 ≤ (l.map f).sum := by
  intro l
  induction l with
  | nil => intro _; simp
  | cons a l ih =>
    intro h
    rw [List.map_cons, List.sum_cons]
    have := h a (by simp)
    have := ih fun x hx => h x (by simp [hx])
    omega
theorem sum_gt {f : Nat → Int} : ∀ {l : List Nat} {x : Nat}, (∀ x ∈ l, 0 ≤ f x) → x ∈ l → f x ≤ (l.map f).sum := by
  intro l
  induction l with
  | nil => intro x _ h; cases h
  | cons a l ih =>
    intro x h hx
    rw [List.map_cons, List.sum_cons]
    have h1 := h a (by simp)
    have h2 := sum_nn fun x hx => h x (List.mem_cons_of_mem a hx)
    rcases List.mem_cons.1 hx with q | q
    · rw [q]; omega
    · have := ih (fun x hx => h x (List.mem_cons_of_mem a hx)) q
      omega
section
variable {g : G} {h w H W : Nat → Int} {s : L}
theorem all_in (hi : CI g h w H W) (hf : Fin g (begs g h) s) (hx : ∃ x ∈ g.X, 0 < h x) : ∀ v, V g v → In s v := by
  obtain ⟨x0, hx0, hp0⟩ := hx
  have b0 : In s (0, x0) := (hf.beg (0, x0) (List.mem_map.2 ⟨x0, List.mem_filter.2 ⟨hx0, decide_eq_true hp0⟩, rfl⟩)).1
  have iny : ∀ y ∈ g.Y, In s (1, y) := fun y hy => (hf.rel (0, x0) _ b0 (way_fwd hy)).1
  rintro ⟨i, j⟩ (⟨e, hj⟩ | ⟨e, hj⟩)
  · have e : i = 0 := e
    subst e
    by_cases hh : 0 < h j
    · exact (hf.beg (0, j) (List.mem_map.2 ⟨j, List.mem_filter.2 ⟨hj, decide_eq_true hh⟩, rfl⟩)).1
    · have h1 := hi.row j hj
      have h2 := hi.pos j hj
      obtain ⟨y, hy, hfy⟩ := sum_pos_ex (f := fun y => g.f j y) (l := g.Y) (by unfold rowS at h1; omega)
      exact (hf.rel (1, y) _ (iny y hy) (way_back hj hfy)).1
  · have e : i = 1 := e
    subst e
    exact iny j hj
def upN (h : Nat → Int) (k : Nat) (v : Int) : Nat → Int := fun z => if z = k then v else h z
theorem sum_upN {l : List Nat} (hn : l.Nodup) {k : Nat} (hk : k ∈ l) {a : Int} : (l.map (upN h k (h k - a))).sum = (l.map h).sum - a := by
  have := sum_at (f := h) (y0 := k) (a := -a) hn
  rw [if_pos hk] at this
  rw [show (l.map h).sum - a = (l.map h).sum + -a by omega, ← this]
  congr 1
  refine List.map_congr_left fun z _ => ?_
  unfold upN
  split
  · rename_i e; rw [e]; omega
  · rfl
def augG (g : G) (a : Int) (l : List N) : G := ⟨g.c, g.X, g.Y, aug a g.f l⟩
def backs (f : Nat → Nat → Int) (l : List N) : List Int := (eds l).filterMap fun e => if e.1.1 = 1 then some (f e.2.2 e.1.2) else none
theorem eds_Ed {B : List N} (hf : Fin g B s) {v : N} {l : List N} (hc : Ch s.ah v l) : ∀ e ∈ eds l, Ed g e := fun e he => by
  obtain ⟨h1, h2, k, h3, h4⟩ := hf.pre _ _ (eds_ah hc e he)
  rcases hf.dom _ h1 with ⟨q0, q1⟩ | ⟨q0, q1⟩
  · rcases way_cases h3 with ⟨r0, r1, r2, r3⟩ | ⟨r0, _⟩
    · exact .inl ⟨q0, r1, q1, r2⟩
    · exact absurd q0 r0
  · rcases way_cases h3 with ⟨r0, _⟩ | ⟨r0, r1, r2, _, r3⟩
    · omega
    · exact .inr ⟨q0, r1, r2, q1⟩
theorem backs_pos {B : List N} (hf : Fin g B s) {v : N} {l : List N} (hc : Ch s.ah v l) : ∀ b ∈ backs g.f l, 0 < b := fun b hb => by
  unfold backs at hb
  obtain ⟨e, he, q⟩ := List.mem_filterMap.1 hb
  split at q
  · rename_i e1
    cases q
    obtain ⟨h1, h2, k, h3, h4⟩ := hf.pre _ _ (eds_ah hc e he)
    rcases way_cases h3 with ⟨r0, _⟩ | ⟨r0, r1, r2, r3, _⟩
    · omega
    · exact r3
  · cases q
theorem root_last {ah : List (N × N)} {v : N} {l : List N} (hc : Ch ah v l) : lookD ah (l.getLastD (0, 0)) = none := by
  induction hc with
  | root hr => exact hr
  | step hu r ih =>
    obtain ⟨t, rfl⟩ := r.ne
    exact ih
theorem last_mem {v : N} {t : List N} : (v :: t).getLastD (0, 0) ∈ v :: t := by
  rw [List.getLastD_eq_getLast?, List.getLast?_eq_some_getLast (by simp)]
  exact List.getLast_mem _
theorem root_beg (hf : Fin g (begs g h) s) {v : N} {l : List N} (hc : Ch s.ah v l) (hv : In s v) : ∃ x, l.getLastD (0, 0) = (0, x) ∧ x ∈ g.X ∧ 0 < h x := by
  obtain ⟨t, rfl⟩ := hc.ne
  rcases hf.src _ (hc.all_in hf hv _ last_mem) with q | q
  · rw [root_last hc] at q; cases q
  · obtain ⟨x, hx, e⟩ := List.mem_map.1 q.1
    obtain ⟨h1, h2⟩ := List.mem_filter.1 hx
    exact ⟨x, e.symm, h1, of_decide_eq_true h2⟩
theorem carry_ok (hi : CI g h w H W) (hf : Fin g (begs g h) s) {x0 y0 : Nat} {l : List N} (hy0 : y0 ∈ g.Y) (hc : Ch s.ah (1, y0) l) (hx0 : x0 ∈ g.X) (hl : l.getLastD (0, 0) = (0, x0)) {a : Int} (a1 : 1 ≤ a) (ah : a ≤ h x0) (aw : a ≤ w y0) (ab : ∀ b ∈ backs g.f l, a ≤ b) :
    CI (augG g a l) (upN h x0 (h x0 - a)) (upN w y0 (w y0 - a)) H W := by
  have hin := all_in hi hf ⟨x0, hx0, by omega⟩
  have hed := eds_Ed hf hc
  obtain ⟨t, rfl⟩ := hc.ne
  obtain ⟨s1, s2⟩ := aug_sums (a := a) hi.xn hi.yn t (1, y0) g.f hed
  have hat : ∀ x y, aug a g.f ((1, y0) :: t) x y = g.f x y + a * (((eds ((1, y0) :: t)).countP fun e => decide (e = ((0, x), (1, y))) : Nat) : Int) - a * (((eds ((1, y0) :: t)).countP fun e => decide (e = ((1, y), (0, x))) : Nat) : Int) := fun x y => aug_at _ g.f hed
  have hn := hc.nodup
  refine ⟨hi.xn, hi.yn, fun x y hx hy => ?_, fun x hx => ?_, fun y hy => ?_, fun x hx => ?_, hi.pos, fun y hy => ?_, ?_, lab s, fun u v k hu hk => ?_⟩
  · show 0 ≤ aug a g.f ((1, y0) :: t) x y
    rw [hat]
    have h0 := hi.f0 x y hx hy
    have c1 : (eds ((1, y0) :: t)).countP (fun e => decide (e = ((1, y), (0, x)))) ≤ 1 := count_fst hn ((1, y), (0, x))
    have p1 : 0 ≤ a * (((eds ((1, y0) :: t)).countP fun e => decide (e = ((0, x), (1, y))) : Nat) : Int) := Int.mul_nonneg (by omega) (by omega)
    by_cases c0 : (eds ((1, y0) :: t)).countP (fun e => decide (e = ((1, y), (0, x)))) = 0
    · rw [c0]
      simp only [Int.natCast_zero, Int.mul_zero]
      omega
    · have c2 : (eds ((1, y0) :: t)).countP (fun e => decide (e = ((1, y), (0, x)))) = 1 := by omega
      obtain ⟨e, he, q⟩ := List.countP_pos_iff.1 (show 0 < (eds ((1, y0) :: t)).countP (fun e => decide (e = ((1, y), (0, x)))) by omega)
      have q := of_decide_eq_true q
      subst q
      have := ab (g.f x y) (List.mem_filterMap.2 ⟨_, he, by simp⟩)
      rw [c2]
      simp only [Int.natCast_one, Int.mul_one]
      omega
  · unfold upN
    split
    · omega
    · exact hi.h0 x hx
  · unfold upN
    split
    · omega
    · exact hi.w0 y hy
  · show upN h x0 (h x0 - a) x + rowS g.Y (aug a g.f ((1, y0) :: t)) x = H x
    rw [s1 x, hl, ← hi.row x hx]
    unfold upN
    have c2 : ¬ ((1, y0) : N) = (0, x) := by simp
    rw [if_neg c2]
    by_cases e : x = x0
    · rw [if_pos e, if_pos (by rw [e]), e]; omega
    · rw [if_neg e, if_neg (by simp; exact fun q => e q.symm)]; omega
  · show upN w y0 (w y0 - a) y + colS g.X (aug a g.f ((1, y0) :: t)) y = W y
    rw [s2 y, hl, ← hi.col y hy]
    unfold upN
    have c2 : ¬ ((0, x0) : N) = (1, y) := by simp
    rw [if_neg c2]
    by_cases e : y = y0
    · rw [if_pos e, if_pos (by rw [e]), e]; omega
    · rw [if_neg e, if_neg (by simp; exact fun q => e q.symm)]; omega
  · show (g.X.map (upN h x0 (h x0 - a))).sum = (g.Y.map (upN w y0 (w y0 - a))).sum
    rw [sum_upN hi.xn hx0, sum_upN hi.yn hy0, hi.tot]
  · obtain ⟨u0, u1⟩ := u
    obtain ⟨v0, v1⟩ := v
    have hu : V g (u0, u1) := hu
    have hui := hin (u0, u1) hu
    rcases hu with ⟨e0, e1⟩ | ⟨e0, e1⟩
    · have e0 : u0 = 0 := e0
      subst e0
      rcases way_cases hk with ⟨r0, r1, r2, r3⟩ | ⟨r0, _⟩
      · have r1 : v0 = 1 := r1
        subst r1
        have r2 : v1 ∈ g.Y := r2
        have r3 : k = g.c u1 v1 := r3
        have := (hf.rel (0, u1) ((1, v1), g.c u1 v1) hui (way_fwd r2)).2
        rw [r3]
        exact this
      · exact absurd rfl r0
    · have e0 : u0 = 1 := e0
      subst e0
      rcases way_cases hk with ⟨r0, _⟩ | ⟨r0, r1, r2, r3, r4⟩
      · exact absurd r0 (show ¬ (1 : Nat) = 0 by decide)
      · have r1 : v0 = 0 := r1
        subst r1
        have r2 : v1 ∈ g.X := r2
        have r4 : k = 0 - g.c v1 u1 := r4
        have r3 : 0 < aug a g.f ((1, y0) :: t) v1 u1 := r3
        rw [r4]
        by_cases hfp : 0 < g.f v1 u1
        · exact (hf.rel (1, u1) ((0, v1), 0 - g.c v1 u1) hui (way_back r2 hfp)).2
        · rw [hat] at r3
          have p1 : 0 ≤ a * (((eds ((1, y0) :: t)).countP fun e => decide (e = ((1, u1), (0, v1))) : Nat) : Int) := Int.mul_nonneg (by omega) (by omega)
          have c0 : 0 < (eds ((1, y0) :: t)).countP (fun e => decide (e = ((0, v1), (1, u1)))) := by
            refine Nat.pos_of_ne_zero fun q => ?_
            rw [q] at r3
            simp only [Int.natCast_zero, Int.mul_zero] at r3
            omega
          obtain ⟨e, he, q⟩ := List.countP_pos_iff.1 c0
          have q := of_decide_eq_true q
          subst q
          obtain ⟨h1, h2, k', h3, h4⟩ := hf.pre _ _ (eds_ah hc _ he)
          rcases way_cases h3 with ⟨_, _, _, r5⟩ | ⟨r5, _⟩
          · have r5 : k' = g.c v1 u1 := r5
            have h4 : lab s (1, u1) = lab s (0, v1) + k' := h4
            show lab s (0, v1) ≤ lab s (1, u1) + (0 - g.c v1 u1)
            omega
          · exact absurd rfl r5
theorem price_ok (hf : Fin g (Vl g) s) {x y : Nat} (hx : x ∈ g.X) (hy : y ∈ g.Y) : (0 - lab s (0, x)) - (0 - lab s (1, y)) ≤ g.c x y ∧ (0 < g.f x y → (0 - lab s (0, x)) - (0 - lab s (1, y)) = g.c x y) := by
  have i1 := (hf.beg (0, x) (mem_Vl.2 (.inl ⟨rfl, hx⟩))).1
  have i2 := (hf.beg (1, y) (mem_Vl.2 (.inr ⟨rfl, hy⟩))).1
  have h1 := (hf.rel (0, x) _ i1 (way_fwd hy)).2
  have h1 : lab s (1, y) ≤ lab s (0, x) + g.c x y := h1
  refine ⟨by omega, fun hp => ?_⟩
  have h2 := (hf.rel (1, y) _ i2 (way_back hx hp)).2
  have h2 : lab s (0, x) ≤ lab s (1, y) + (0 - g.c x y) := h2
  omega
end
end Cg
namespace Far
open PySem PySem.Spec PyProof.Rows L2 Pw
open FM (Bq)
open FM
theorem bN {p : Prop} {i : Decidable p} {A B : Prop} (e : p) (h : B) : ((!decide p) = true → A) ∧ ((!decide p) = false → B) := bF (by rw [decide_eq_true e]; rfl) h
theorem bN' {p : Prop} {i : Decidable p} {A B : Prop} (e : p) (h : A) : ((!decide p) = false → A) ∧ ((!decide p) = true → B) := bF' (by rw [decide_eq_true e]; rfl) h
theorem bq_mul {n m : Nat} {p q : Rat} (h : Bq n p) (k : Bq m q) : Bq (n + m + 1) (p * q) := (Bq.mul (h.mono (Nat.le_add_right n 1)) k (by omega)).mono (by omega)
theorem bq_div {n m : Nat} {p q : Rat} (h : Bq n p) (k : Bq m q) : Bq (n + m + 1) (p / q) := (Bq.div (h.mono (Nat.le_add_right n 1)) k (by omega)).mono (by omega)
theorem cast1 : ((1 : Int) : Rat) = 1 := rfl
theorem plus_i {T : Cfg} {p q : Rat} {n m : Nat} {P : D → Prop} {X : XD → Prop} (h1 : Bq n p) (h2 : Bq m q) (h : n + m ≤ 9000) (k : P (shD (p + q))) : c_plus T [shD p, shD q] P X := ⟨p, q, n, m, rfl, h1, h2, h, k⟩
theorem minus_i {T : Cfg} {p q : Rat} {n m : Nat} {P : D → Prop} {X : XD → Prop} (h1 : Bq n p) (h2 : Bq m q) (h : n + m ≤ 9000) (k : P (shD (p - q))) : c_minus T [shD p, shD q] P X := ⟨p, q, n, m, rfl, h1, h2, h, k⟩
theorem times_i {T : Cfg} {p q : Rat} {n m : Nat} {P : D → Prop} {X : XD → Prop} (h1 : Bq n p) (h2 : Bq m q) (h : n + m ≤ 9000) (k : P (shD (p * q))) : c_times T [shD p, shD q] P X := ⟨p, q, n, m, rfl, h1, h2, h, k⟩
theorem less_i {T : Cfg} {p q : Rat} {n m : Nat} {P : D → Prop} {X : XD → Prop} (h1 : Bq n p) (h2 : Bq m q) (h : n + m ≤ 9000) (k : P (.bl (decide (p < q)))) : c_less T [shD p, shD q] P X := ⟨p, q, n, m, rfl, h1, h2, h, k⟩
theorem sum_i {T : Cfg} {qs : List Rat} {n : Nat} {P : D → Prop} {X : XD → Prop} (h1 : ∀ q ∈ qs, Bq n q) (h : (qs.length + 1) * (n + 2) ≤ 8000) (k : P (shD qs.sum)) : c_sum_of T [.lst (qs.map shD)] P X := let ⟨m, hm, hs⟩ := takes_bq h1 h; ⟨_, qs, n, m, rfl, .inl rfl, h1, hm, hs, k⟩
class Sz (q : Rat) (n : outParam Nat) : Prop where
  ok : Bq n q
instance sz_add {p q : Rat} {n m : Nat} [h : Sz p n] [k : Sz q m] : Sz (p + q) (n + m + 1) := ⟨h.ok.add k.ok⟩
instance sz_sub {p q : Rat} {n m : Nat} [h : Sz p n] [k : Sz q m] : Sz (p - q) (n + m + 1) := ⟨h.ok.sub k.ok⟩
instance sz_mul {p q : Rat} {n m : Nat} [h : Sz p n] [k : Sz q m] : Sz (p * q) (n + m + 1) := ⟨bq_mul h.ok k.ok⟩
instance sz_div {p q : Rat} {n m : Nat} [h : Sz p n] [k : Sz q m] : Sz (p / q) (n + m + 1) := ⟨bq_div h.ok k.ok⟩
instance sz_0 : Sz ((0 : Int) : Rat) 1 := ⟨⟨by decide, by decide⟩⟩
instance sz_1 : Sz ((1 : Int) : Rat) 2 := ⟨⟨by decide, by decide⟩⟩
theorem plus_s {T : Cfg} {p q : Rat} {n m : Nat} {P : D → Prop} {X : XD → Prop} [h1 : Sz p n] [h2 : Sz q m] (h : n + m ≤ 9000) (k : P (shD (p + q))) : c_plus T [shD p, shD q] P X := plus_i h1.ok h2.ok h k
theorem minus_s {T : Cfg} {p q : Rat} {n m : Nat} {P : D → Prop} {X : XD → Prop} [h1 : Sz p n] [h2 : Sz q m] (h : n + m ≤ 9000) (k : P (shD (p - q))) : c_minus T [shD p, shD q] P X := minus_i h1.ok h2.ok h k
theorem times_s {T : Cfg} {p q : Rat} {n m : Nat} {P : D → Prop} {X : XD → Prop} [h1 : Sz p n] [h2 : Sz q m] (h : n + m ≤ 9000) (k : P (shD (p * q))) : c_times T [shD p, shD q] P X := times_i h1.ok h2.ok h k
theorem less_s {T : Cfg} {p q : Rat} {n m : Nat} {P : D → Prop} {X : XD → Prop} [h1 : Sz p n] [h2 : Sz q m] (h : n + m ≤ 9000) (k : P (.bl (decide (p < q)))) : c_less T [shD p, shD q] P X := less_i h1.ok h2.ok h k
theorem bq_sum {n : Nat} : ∀ qs : List Rat, (∀ q ∈ qs, Bq n q) → Bq (qs.length * (n + 1) + 1) qs.sum
  | [], _ => by
    have e : ([] : List Rat).length * (n + 1) + 1 = 1 := by simp
    rw [e]
    exact ⟨by decide, by decide⟩
  | q :: qs, h => by
    have h1 := h q (by simp)
    have h2 := bq_sum qs fun p hp => h p (List.mem_cons_of_mem _ hp)
    rw [List.sum_cons]
    refine (h1.add h2).mono ?_
    rw [List.length_cons, Nat.succ_mul]
    omega
theorem d_add {a b c d : Int} (hb : b ≠ 0) (hd : d ≠ 0) : Rat.divInt (a * d + c * b) (b * d) = Rat.divInt a b + Rat.divInt c d := (Rat.divInt_add_divInt a c hb hd).symm
theorem d_less {a b c d : Int} (hb : b ≠ 0) (hd : d ≠ 0) : decide (Rat.divInt a b < Rat.divInt c d) = decide ((a * d - c * b) * b * d < 0) := by
  rw [decide_eq_decide, Rat.divInt_eq_div, Rat.divInt_eq_div]
  have hb' : (b : Rat) ≠ 0 := by simpa using hb
  have hd' : (d : Rat) ≠ 0 := by simpa using hd
  have e : (((a * d - c * b) * b * d : Int) : Rat) = ((a : Rat) / b - (c : Rat) / d) * (((b : Rat) * d) * ((b : Rat) * d)) := by
    simp only [Rat.intCast_mul, Rat.intCast_sub]
    grind
  have hp : 0 < ((b : Rat) * d) * ((b : Rat) * d) := by
    have h0 : (b : Rat) * d ≠ 0 := by grind
    generalize (b : Rat) * d = z at h0
    by_cases h : 0 < z
    · exact Rat.mul_pos h h
    · have := Rat.mul_pos (a := -z) (b := -z) (by grind) (by grind)
      grind
  have hi : ((a * d - c * b) * b * d < 0) ↔ (((a * d - c * b) * b * d : Int) : Rat) < 0 := by
    rw [show (0 : Rat) = ((0 : Int) : Rat) from rfl, Rat.intCast_lt_intCast]
  rw [hi, e]
  generalize (a : Rat) / b = x
  generalize (c : Rat) / d = y
  generalize ((b : Rat) * d) * ((b : Rat) * d) = z at hp ⊢
  constructor
  · intro h
    have := Rat.mul_pos (a := y - x) (b := z) (by grind) hp
    grind
  · intro h
    by_cases w : x < y
    · exact w
    · by_cases w2 : x = y
      · subst w2; grind
      · have := Rat.mul_pos (a := x - y) (b := z) (by grind) hp
        grind
end Far
local macro_rules | `(tactic| walk_at "pw") => `(tactic| first
  | (with_reducible refine Pw.ev_op ?_)
  | ((with_reducible refine Pw.ev_var (d := ?d) ?h ?_); (case h => rfl))
  | (with_reducible refine Pw.ev_int ?_)
  | (with_reducible refine Pw.ev_bl ?_)
  | (with_reducible refine Pw.ev_str ?_)
  | (with_reducible refine Pw.ev_non ?_)
  | (with_reducible refine Pw.ev_ty ?_)
  | (with_reducible refine Pw.ev_ref ?_)
  | (with_reducible refine Pw.ev_cb ?_)
  | (with_reducible refine Pw.ev_un ?_)
  | (with_reducible refine Pw.ea_cons ?_)
  | (with_reducible refine Pw.ea_nil ?_)
  | (with_reducible refine Pw.ev_cal0 ?_)
  | (with_reducible refine Pw.ev_calN ?_)
  | (with_reducible refine Pw.ev_mak0 ?_)
  | (with_reducible refine Pw.ev_mak1 ?_)
  | (with_reducible refine Pw.ev_if ?_)
  | (with_reducible refine Pw.ev_and ?_)
  | (with_reducible refine Pw.ev_or ?_)
  | (with_reducible refine Pw.ev_not ?_)
  | (with_reducible refine Pw.tv_test ?_)
  | (with_reducible refine Pw.tv_B ?_)
  | (with_reducible refine Pw.tv_and ?_)
  | (with_reducible refine Pw.tv_or ?_)
  | (with_reducible refine Pw.tv_not ?_)
  | (with_reducible refine Pw.tv_yes ?_)
  | (with_reducible refine Pw.po_no ?_)
  | (with_reducible refine Pw.po_so ?_)
  | (with_reducible refine Pw.sv_seq ?_)
  | (with_reducible refine Pw.sv_asg ?_)
  | (with_reducible refine Pw.sv_ret ?_)
  | (with_reducible refine Pw.sv_if ?_)
  | (with_reducible refine Pw.sv_par ?_)
  | (with_reducible refine Pw.sv_next ?_)
  | (with_reducible refine Pw.sv_app ?_)
  | (with_reducible refine Pw.sv_drop ?_)
  | (with_reducible refine Pw.sv_fld ?_)
  | (with_reducible refine Pw.ov_add ?_)
  | (with_reducible refine Pw.ov_sub ?_)
  | (with_reducible refine Pw.ov_lt ?_)
  | (with_reducible refine Pw.ov_le ?_)
  | (with_reducible refine Pw.ov_gt ?_)
  | (with_reducible refine Pw.ov_ge ?_)
  | (with_reducible refine Pw.ov_eqI ?_)
  | (with_reducible refine Pw.ov_neI ?_)
  | (with_reducible refine Pw.ov_eqS ?_)
  | (with_reducible refine Pw.ov_neS ?_)
  | (with_reducible refine Pw.ov_eqB ?_)
  | (with_reducible refine Pw.ov_neB ?_)
  | (with_reducible refine Pw.cv_abs ?_)
  | ((with_reducible refine Pw.ov_ixT (e := ?e) ?h ?_); (case h => rfl))
  | ((with_reducible refine Pw.ov_ixM (ds := ?ds) (e := ?e) ?hm ?h ?_); (case hm => exact Pw.put_same); (case h => rfl))
  | ((with_reducible refine Pw.ov_pow ?h ?_); (case h => exact ⟨by decide, by decide, by decide⟩))
  | ((with_reducible refine Pw.ov_mod ?h ?_); (case h => decide))
  | (with_reducible refine Pw.ev_tup ?_)
  | ((with_reducible refine And.intro (show _ ≤ 100000 from ?hl) ?_); (case hl => (simp; done)))
  | (with_reducible refine Pw.cv_intB ?_)
  | (with_reducible refine Pw.uv_neg ?_)
  | (with_reducible refine Pw.seqK_nx ?_)
  | (with_reducible refine Pw.seqK_rt ?_)
  | (with_reducible refine Pw.seqK_xr ?_)
  | (with_reducible refine Pw.seqK_ct ?_)
  | (with_reducible refine Pw.seqK_bk ?_)
  | (with_reducible refine Pw.whK_rt ?_)
  | (with_reducible refine Pw.whK_xr ?_)
  | (with_reducible refine Pw.whK_bk ?_)
  | (with_reducible refine Pw.forK_nx ?_)
  | (with_reducible refine Pw.forK_ct ?_)
  | (with_reducible refine Pw.forK_rt ?_)
  | (with_reducible refine Pw.forK_xr ?_)
  | (with_reducible refine Pw.forK_bk ?_)
  | (with_reducible refine Pw.fnK_rt ?_)
  | (with_reducible refine Pw.fnK_nx ?_)
  | (with_reducible refine Pw.fnK_xr ?_))
local macro_rules | `(tactic| walk_at "pl") => `(tactic| first
  | walk_at "pw"
  | (with_reducible refine Pw.ev_lst ?_))
local macro_rules | `(tactic| walk_at "pls") => `(tactic| repeat (walk_at "pl"))
local macro_rules | `(tactic| walk_at "pws") => `(tactic| repeat (walk_at "pw"))
local macro_rules | `(tactic| walk_at "pk") => `(tactic| first
  | ((with_reducible refine Far.ev_mkS0 ?hT ?_); (case hT => assumption))
  | ((with_reducible refine Far.ev_mkS1 ?hT ?_); (case hT => assumption))
  | walk_at "pl"
  | (with_reducible refine Pw.ex_bl ?_)
  | (with_reducible refine Pw.b_tt ?_)
  | (with_reducible refine Pw.b_ff ?_)
  | (with_reducible refine Pw.b_tt' ?_)
  | (with_reducible refine Pw.b_ff' ?_)
  | (with_reducible refine Pw.b_nt ?_)
  | (with_reducible refine Pw.b_nf ?_)
  | (with_reducible refine Pw.b_nt' ?_)
  | (with_reducible refine Pw.b_nf' ?_)
  | (with_reducible refine Pw.b_d ?_)
  | (with_reducible refine Pw.b_d' ?_)
  | (with_reducible refine Pw.b_dn ?_)
  | (with_reducible refine Pw.b_dn' ?_)
  | (with_reducible refine Pw.ex_2 ?_)
  | ((with_reducible refine Far.ev_top ?hT ?_); (case hT => assumption))
  | ((with_reducible refine Far.ev_bot ?hT ?_); (case hT => assumption))
  | (with_reducible refine Far.ex_sh ?_)
  | ((with_reducible refine Far.isi_sh ?hT ?_); (case hT => assumption))
  | (with_reducible refine Far.isi_ib ?_)
  | (with_reducible refine Far.isi_ii ?_)
  | (with_reducible refine Pw.ov_eq2 ?_)
  | (with_reducible refine Pw.ov_ne2 ?_)
  | (with_reducible refine Far.ov_eqP ?_)
  | (with_reducible refine Far.ov_neP ?_)
  | (with_reducible refine Far.ex_ii ?_)
  | (with_reducible refine Far.ex_i ?_)
  | (with_reducible refine Far.ev_wellN ?_)
  | ((with_reducible refine Far.ov_shEq ?hT ?_); (case hT => assumption))
  | ((with_reducible refine Far.ov_shNe ?hT ?_); (case hT => assumption))
  | (with_reducible refine Pw.sv_asg2 ?_)
  | (with_reducible refine Pw.sv_asg3 ?_)
  | (with_reducible refine Pw.tryK_nx ?_)
  | (with_reducible refine Pw.tryK_rt ?_)
  | (with_reducible refine Pw.unK_rt ?_)
  | (with_reducible refine Pw.unK_nx ?_)
  | (with_reducible refine Pw.ex_t2 ?_)
  | (with_reducible refine Pw.ex_t3 ?_))
local macro_rules | `(tactic| walk_at "pks") => `(tactic| repeat (walk_at "pk"))
local macro_rules | `(tactic| walk_at "le") => `(tactic| (repeat (first | exact trivial | refine And.intro rfl ?_)))
local macro_rules | `(tactic| walk_at "po") => `(tactic| first
  | walk_at "pk"
  | ((with_reducible refine Far.plus_s ?h ?_); (case h => decide))
  | ((with_reducible refine Far.minus_s ?h ?_); (case h => decide))
  | ((with_reducible refine Far.times_s ?h ?_); (case h => decide))
  | ((with_reducible refine Far.less_s ?h ?_); (case h => decide)))
local macro_rules | `(tactic| walk_at "pos") => `(tactic| repeat (walk_at "po"))
local macro_rules | `(tactic| walk_at "gn") => `(tactic| first
  | ((refine Far.bN' ?h ?_); (case h => grind))
  | ((refine Far.bN ?h ?_); (case h => grind)))
namespace Far
open PySem PySem.Spec PyProof.Rows L2 Pw
open FM (Bq)
abbrev prL (qs : List Rat) : D := .lst (qs.map prD)
abbrev shL (qs : List Rat) : D := .lst (qs.map shD)
abbrev prR (rows : List (List Rat)) : D := .lst (rows.map fun r => .lst (r.map prD))
abbrev shR (rows : List (List Rat)) : D := .lst (rows.map fun r => .lst (r.map shD))
def dot (ps qs : List Rat) : Rat := ((ps.zip qs).map fun z => z.1 * z.2).sum
def dots (rs ss : List (List Rat)) : Rat := ((rs.zip ss).map fun z => dot z.1 z.2).sum
inductive Od where
  | pr (q : Rat) | zero | none | txt | tru
def odS : Od → D
  | .pr q => shD q
  | .zero => .int 0
  | .none => .non
  | .txt => .str "0"
  | .tru => .bl true
def Od.isP : Od → Bool
  | .pr _ => true
  | _ => false
def Od.bq (n : Nat) : Od → Prop
  | .pr q => Bq n q
  | _ => True
theorem od_th {T : Cfg} (hT : ShOk T) (o : Od) : ∃ t, Thing T (odS o) t := by
  cases o
  · exact ⟨_, th_sh hT _⟩
  · exact ⟨_, th_int hT 0⟩
  · exact ⟨_, th_non hT⟩
  · exact ⟨_, th_str hT _⟩
  · exact ⟨_, th_bl hT true⟩
theorem od_sh (o : Od) : isSh (odS o) = o.isP := by cases o <;> rfl
def Rows (n m : Nat) (k : Nat) (rows : List (List Rat)) : Prop := rows.length = n ∧ ∀ r ∈ rows, r.length = m ∧ ∀ q ∈ r, Bq k q
def OkO (costs : List (List Rat)) (hs ts : List Od) : Prop := hs.length = costs.length ∧ ts.length = (costs.headD []).length ∧ (∀ o ∈ hs, o.isP = true) ∧ (∀ o ∈ ts, o.isP = true) ∧
  ∀ (k : Nat) (row : List Rat) (h : Rat), costs[k]? = some row → hs[k]? = some (.pr h) → ∀ (j : Nat) (c t : Rat), row[j]? = some c → ts[j]? = some (.pr t) → ¬ c < h - t
def c_are_shares (T : Cfg) : PC := fun ds P _ => ∃ d t, ds = [d] ∧ Thing T d t ∧ ((∃ es, d = .lst es ∧ es.length ≤ 1000 ∧ (∀ e ∈ es, ∃ t, Thing T e t) ∧ P (.bl (es.all isSh))) ∨ (kindOf d "list" = false ∧ P (.bl false)))
inductive Pri (T : Cfg) (costs : List (List Rat)) : D → Prop → Prop
  | od (hs ts : List Od) (h1 : ∀ o ∈ hs, o.bq 100) (h2 : ∀ o ∈ ts, o.bq 100) (l1 : hs.length ≤ 100) (l2 : ts.length ≤ 100) : Pri T costs (.tup [.lst (hs.map odS), .lst (ts.map odS)]) (OkO costs hs ts)
  | no1 {d : D} {t : Value} (h : Thing T d t) (k : kindOf d "tuple" = false) : Pri T costs d False
  | no2 {es : List D} (h : es.length ≠ 2) (hl : es.length ≤ 100) : Pri T costs (.tup es) False
  | no3 {d e : D} {t u : Value} (h : Thing T d t) (k : kindOf d "list" = false) (h' : Thing T e u) (k' : kindOf e "list" = false) : Pri T costs (.tup [d, e]) False
  | no4 {e : D} {u : Value} (hs : List Od) (l1 : hs.length ≤ 100) (h' : Thing T e u) (k' : kindOf e "list" = false) : Pri T costs (.tup [.lst (hs.map odS), e]) False
def c_are_prices (T : Cfg) : PC := fun ds P _ => ∃ (d : D) (costs : List (List Rat)) (pp : Prop) (n : Nat), ds = [d, shR costs] ∧ Rows costs.length n 40 costs ∧ costs ≠ [] ∧ costs.length ≤ 100 ∧ n ≤ 100 ∧ Pri T costs d pp ∧ ∀ b : Bool, (b = true ↔ pp) → P (.bl b)
def c_brought (T : Cfg) : PC := fun ds P _ => ∃ (hs ts fs ss : List Rat), ds = [.tup [shL hs, shL ts], shL fs, shL ss] ∧ hs.length ≤ 12 ∧ ts.length ≤ 12 ∧ (∀ q ∈ hs, Bq 60 q) ∧ (∀ q ∈ ts, Bq 60 q) ∧ (∀ q ∈ fs, Bq 20 q) ∧ (∀ q ∈ ss, Bq 20 q) ∧ P (shD (dot hs fs - dot ts ss))
theorem len_are_shares {T : Cfg} : ∀ ds μ P XP, pu (c_are_shares T) ds μ P XP → ds.length = 1 := by
  rintro ds μ P XP ⟨rfl, Pf, Xf, ⟨d, t, rfl, _⟩, _⟩; rfl
theorem len_are_prices {T : Cfg} : ∀ ds μ P XP, pu (c_are_prices T) ds μ P XP → ds.length = 2 := by
  rintro ds μ P XP ⟨rfl, Pf, Xf, ⟨d, c, p, n, rfl, _⟩, _⟩; rfl
theorem len_brought {T : Cfg} : ∀ ds μ P XP, pu (c_brought T) ds μ P XP → ds.length = 3 := by
  rintro ds μ P XP ⟨rfl, Pf, Xf, ⟨h, t, f, s, rfl, _⟩, _⟩; rfl
def t_are_shares (T : Cfg) (E : XK) : TS := (tRet (tAndV (tCB (rIsi T.K) (tCons (tVar 0) (tCons (tC (.ty "list")) tNil))) (tCB (rAll T.K) (tCons (tLc (iList T.K (tVar 0)) (gName 1) tYes (tCB (rIsi T.K) (tCons (tVar 1) (tCons (tC (.ref (T.cls 0))) tNil))) [1]) tNil))))
def t_are_prices (T : Cfg) (E : XK) : TS := (tSeq (tIfS (tOr (tNot (tB (tCB (rIsi T.K) (tCons (tVar 0) (tCons (tC (.ty "tuple")) tNil))))) (tOr (tTest (tOp rNe (tCB (Pw.rLen T.K) (tCons (tVar 0) tNil)) (tC (.int 2)))) (tNot (tB (tCB (rAll T.K) (tCons (tLc (iTup T.K (tVar 0)) (gName 6) tYes (tCall (spOf T (pu (c_are_shares T))) [] E0 (tCons (tVar 6) tNil)) [6]) tNil)))))) (tRet (tC (.bl false))) tNext)
    (tSeq (tAsg (tVar 0) (gTup T.K 2 (gCons (gName 2) (gCons (gName 3) gNil))))
    (tSeq (tIfS (tOr (tTest (tOp rNe (tCB (Pw.rLen T.K) (tCons (tVar 2) tNil)) (tCB (Pw.rLen T.K) (tCons (tVar 1) tNil)))) (tTest (tOp rNe (tCB (Pw.rLen T.K) (tCons (tVar 3) tNil)) (tCB (Pw.rLen T.K) (tCons (tOp (rIxL T.K) (tVar 1) (tC (.int 0))) tNil))))) (tRet (tC (.bl false))) tNext)
    (tSeq (tFor (iZip T.K (tCons (tVar 2) (tCons (tVar 1) tNil))) (gTup T.K 2 (gCons (gName 4) (gCons (gName 5) gNil))) (tIfS (tB (tCB (rAny T.K) (tCons (tLc (iZip T.K (tCons (tVar 5) (tCons (tVar 3) tNil))) (gTup T.K 2 (gCons (gName 7) (gCons (gName 8) gNil))) tYes (tCall (spOf T (pu (c_less T))) [] E0 (tCons (tVar 7) (tCons (tCall (spOf T (pu (c_minus T))) [] E0 (tCons (tVar 4) (tCons (tVar 8) tNil))) tNil))) [7, 8]) tNil))) (tRet (tC (.bl false))) tNext))
    (tRet (tC (.bl true)))))))
def t_brought (T : Cfg) (E : XK) : TS := (tSeq (tAsg (tVar 0) (gTup T.K 2 (gCons (gName 4) (gCons (gName 5) gNil))))
    (tSeq (tAsg (tCall (spOf T (pu (c_sum_of T))) [] E0 (tCons (tLc (iZip T.K (tCons (tVar 4) (tCons (tVar 1) tNil))) (gTup T.K 2 (gCons (gName 6) (gCons (gName 7) gNil))) tYes (tCall (spOf T (pu (c_times T))) [] E0 (tCons (tVar 6) (tCons (tVar 7) tNil))) [6, 7]) tNil)) (gName 3))
    (tRet (tCall (spOf T (pu (c_minus T))) [] E0 (tCons (tVar 3) (tCons (tCall (spOf T (pu (c_sum_of T))) [] E0 (tCons (tLc (iZip T.K (tCons (tVar 5) (tCons (tVar 2) tNil))) (gTup T.K 2 (gCons (gName 6) (gCons (gName 7) gNil))) tYes (tCall (spOf T (pu (c_times T))) [] E0 (tCons (tVar 6) (tCons (tVar 7) tNil))) [6, 7]) tNil)) tNil))))))
theorem isi_t {T : Cfg} {μ : Mu} {P : D → Mu → Prop} {d : D} {t : Value} (h : Thing T d t) {n : String} (hn : n ∈ tys) (p : P (.bl (kindOf d n)) μ) : CV T (rIsi T.K) [d, .ty n] μ P := cv_isiT h.ty (h.kd n hn) p
theorem isi_s {T : Cfg} {μ : Mu} {P : D → Mu → Prop} {d : D} {t : Value} (h : Thing T d t) (p : P (.bl (isSh d)) μ) : CV T (rIsi T.K) [d, .ptr (T.cls 0)] μ P := cv_isi h.ty h.sh p
theorem isi_tp {T : Cfg} {μ : Mu} {P : D → Mu → Prop} {ds : List D} (p : P (.bl true) μ) : CV T (rIsi T.K) [.tup ds, .ty "tuple"] μ P := cv_isiT (.tup ds) (kit_ty (kit_tab "tuple" (by simp [tags]) "tuple" (by simp [tys]))) p
theorem pure_are_shares {T : Cfg} (hT : ShOk T) : ∀ E ds μ P XP, pu (c_are_shares T) ds μ P XP → SV T (t_are_shares T E) (fun cls dd _ H => E cls dd H) ⟨slots 2 ds, μ⟩ (fnK P XP) := by
  rintro E ds μ P XP ⟨rfl, Pf, Xf, ⟨d, t, rfl, ht, h⟩, hP, hX⟩
  unfold t_are_shares
  walk_at "pks"
  refine isi_t ht (by simp [tys]) ?_
  walk_at "pks"
  rcases h with ⟨es, rfl, hl, he, p⟩ | ⟨hk, p⟩
  · refine bT (by rfl) ?_
    walk_at "pks"
    refine ev_lcF ?_
    walk_at "pks"
    refine ⟨es, fun e => .bl (isSh e), .inl rfl, by omega, fun e hm => ?_, ?_⟩
    · obtain ⟨t, ht⟩ := he e hm
      walk_at "pks"
      exact isi_s ht ⟨rfl, rfl⟩
    · walk_at "pks"
      refine cv_all (bs := es.map isSh) (.inl ?_) ?_
      · rw [List.map_map]; rfl
      rw [List.all_map]
      exact hP _ p
  · rw [hk]
    walk_at "pks"
    exact hP _ p
theorem fm_mapH {α β : Type} (f : α → β) (l : List α) : l.filterMap (fun x => some (f x)) = l.map f := by
  induction l with
  | nil => rfl
  | cons a l ih => rw [List.filterMap_cons]; simp [ih]
def unSh : D → Rat
  | .ins 0 [(_, .int a), (_, .int b)] => Rat.divInt a b
  | _ => 0
theorem unSh_sh (q : Rat) : unSh (shD q) = q := Rat.num_divInt_den q
def unPr : D → Rat
  | .tup [.int a, .int b] => Rat.divInt a b
  | _ => 0
theorem unPr_pr (q : Rat) : unPr (prD q) = q := Rat.num_divInt_den q
theorem zip_sh {ps qs : List Rat} {g : Rat → Rat → D} : ((ps.map shD).zip (qs.map shD)).filterMap (fun p => some (g (unSh p.1) (unSh p.2))) = (ps.zip qs).map fun z => g z.1 z.2 := by
  rw [fm_mapH, List.zip_map, List.map_map]
  refine List.map_congr_left fun z _ => ?_
  show g (unSh (shD z.1)) (unSh (shD z.2)) = _
  rw [unSh_sh, unSh_sh]
theorem zip_pr {ps qs : List Rat} {g : Rat → Rat → D} : ((ps.map prD).zip (qs.map prD)).filterMap (fun p => some (g (unPr p.1) (unPr p.2))) = (ps.zip qs).map fun z => g z.1 z.2 := by
  rw [fm_mapH, List.zip_map, List.map_map]
  refine List.map_congr_left fun z _ => ?_
  show g (unPr (prD z.1)) (unPr (prD z.2)) = _
  rw [unPr_pr, unPr_pr]
theorem ev_zipS {T : Cfg} {W : WX} {ρ : List (Option D)} {m0 : Mu} {P : D → Mu → Prop} {XP : XW} {i j : Nat} {te' : TE} {tz : TA} (h : EA T tz W ⟨ρ, m0⟩ (fun fs μ => ∃ (ps qs : List Rat) (g : Rat → Rat → D), fs = [shL ps, shL qs] ∧ ps.length ≤ 1000 ∧ (∀ x y, x ∈ ps → y ∈ qs → EV T te' (fun _ _ _ _ => False) ⟨((wipeD ρ [i, j]).set i (some (shD x))).set j (some (shD y)), μ⟩ (fun z μ2 => z = g x y ∧ μ2 = μ) (fun _ _ => False)) ∧ P (.lst ((ps.zip qs).map fun z => g z.1 z.2)) μ) XP) : EV T (tLc (iZip T.K tz) (gTup T.K 2 (gCons (gName i) (gCons (gName j) gNil))) tYes te' [i, j]) W ⟨ρ, m0⟩ P XP :=
  ev_lcZ (EA.imp h fun fs μ ⟨ps, qs, g, e, hl, turn, done⟩ => ⟨_, _, _, _, e, .inl rfl, .inl rfl, by rw [List.length_map]; omega, fun d e => some (g (unSh d) (unSh e)), fun x y hx hy => by
    obtain ⟨p, hp, rfl⟩ := List.mem_map.1 hx
    obtain ⟨q, hq, rfl⟩ := List.mem_map.1 hy
    refine tv_yes ⟨rfl, fun _ => ?_, fun e => (nomatch e)⟩
    refine (turn p q hp hq).imp fun z μ2 ⟨e1, e2⟩ => ⟨?_, e2⟩
    show some (g (unSh (shD p)) (unSh (shD q))) = some z
    rw [unSh_sh, unSh_sh, e1], by
    rw [zip_sh]
    exact done⟩)
theorem ev_zipP {T : Cfg} {W : WX} {ρ : List (Option D)} {m0 : Mu} {P : D → Mu → Prop} {XP : XW} {i j : Nat} {te' : TE} {tz : TA} (h : EA T tz W ⟨ρ, m0⟩ (fun fs μ => ∃ (ps qs : List Rat) (g : Rat → Rat → D), fs = [prL ps, prL qs] ∧ ps.length ≤ 1000 ∧ (∀ x y, x ∈ ps → y ∈ qs → EV T te' (fun _ _ _ _ => False) ⟨((wipeD ρ [i, j]).set i (some (prD x))).set j (some (prD y)), μ⟩ (fun z μ2 => z = g x y ∧ μ2 = μ) (fun _ _ => False)) ∧ P (.lst ((ps.zip qs).map fun z => g z.1 z.2)) μ) XP) : EV T (tLc (iZip T.K tz) (gTup T.K 2 (gCons (gName i) (gCons (gName j) gNil))) tYes te' [i, j]) W ⟨ρ, m0⟩ P XP :=
  ev_lcZ (EA.imp h fun fs μ ⟨ps, qs, g, e, hl, turn, done⟩ => ⟨_, _, _, _, e, .inl rfl, .inl rfl, by rw [List.length_map]; omega, fun d e => some (g (unPr d) (unPr e)), fun x y hx hy => by
    obtain ⟨p, hp, rfl⟩ := List.mem_map.1 hx
    obtain ⟨q, hq, rfl⟩ := List.mem_map.1 hy
    refine tv_yes ⟨rfl, fun _ => ?_, fun e => (nomatch e)⟩
    refine (turn p q hp hq).imp fun z μ2 ⟨e1, e2⟩ => ⟨?_, e2⟩
    show some (g (unPr (prD p)) (unPr (prD q))) = some z
    rw [unPr_pr, unPr_pr, e1], by
    rw [zip_pr]
    exact done⟩)
theorem map_sh (ps : List (Rat × Rat)) (f : Rat × Rat → Rat) : (ps.map fun z => shD (f z)) = (ps.map f).map shD := by rw [List.map_map]; rfl
theorem sum_dot {T : Cfg} {ps qs : List Rat} {P : D → Prop} {X : XD → Prop} {n m k : Nat} (hp : ∀ q ∈ ps, Bq n q) (hq : ∀ q ∈ qs, Bq m q) (hl : ps.length ≤ k) (hs : (k + 1) * (n + m + 3) ≤ 8000) (p : P (shD (dot ps qs))) : c_sum_of T [.lst ((ps.zip qs).map fun z => shD (z.1 * z.2))] P X := by
  rw [map_sh (ps.zip qs) fun z => z.1 * z.2]
  refine sum_i (n := n + m + 1) (fun q h => ?_) ?_ p
  · obtain ⟨z, hz, rfl⟩ := List.mem_map.1 h
    obtain ⟨h1, h2⟩ := List.of_mem_zip hz
    exact bq_mul (hp _ h1) (hq _ h2)
  · rw [List.length_map, List.length_zip]
    refine Nat.le_trans (Nat.mul_le_mul_right _ ?_) hs
    omega
theorem dot_bq {ps qs : List Rat} {n m k : Nat} (hp : ∀ q ∈ ps, Bq n q) (hq : ∀ q ∈ qs, Bq m q) (hl : ps.length ≤ k) : Bq (k * (n + m + 2) + 1) (dot ps qs) := by
  unfold dot
  refine (bq_sum (n := n + m + 1) _ fun q h => ?_).mono ?_
  · obtain ⟨z, hz, rfl⟩ := List.mem_map.1 h
    obtain ⟨h1, h2⟩ := List.of_mem_zip hz
    exact bq_mul (hp _ h1) (hq _ h2)
  · rw [List.length_map, List.length_zip]
    have : min ps.length qs.length * (n + m + 1 + 1) ≤ k * (n + m + 2) := Nat.mul_le_mul_right _ (by omega)
    omega
theorem pure_brought {T : Cfg} (hT : ShOk T) : ∀ E ds μ P XP, pu (c_brought T) ds μ P XP → SV T (t_brought T E) (fun cls dd _ H => E cls dd H) ⟨slots 8 ds, μ⟩ (fnK P XP) := by
  rintro E ds μ P XP ⟨rfl, Pf, Xf, ⟨hs, ts, fs, ss, rfl, l1, l2, b1, b2, b3, b4, p⟩, hP, hX⟩
  unfold t_brought
  walk_at "pks"
  refine ev_zipS ?_
  walk_at "pks"
  refine ⟨hs, fs, fun x y => shD (x * y), rfl, by omega, fun x y hx hy => ?_, ?_⟩
  · walk_at "pks"
    exact times_i (b1 _ hx) (b3 _ hy) (by decide) ⟨rfl, rfl⟩
  walk_at "pks"
  refine sum_dot (k := 12) b1 b3 l1 (by decide) ?_
  walk_at "pks"
  refine ev_zipS ?_
  walk_at "pks"
  refine ⟨ts, ss, fun x y => shD (x * y), rfl, by omega, fun x y hx hy => ?_, ?_⟩
  · walk_at "pks"
    exact times_i (b2 _ hx) (b4 _ hy) (by decide) ⟨rfl, rfl⟩
  walk_at "pks"
  refine sum_dot (k := 12) b2 b4 l2 (by decide) ?_
  walk_at "pks"
  refine minus_i (dot_bq (k := 12) b1 b3 l1) (dot_bq (k := 12) b2 b4 l2) (by decide) ?_
  walk_at "pks"
  exact hP _ p
theorem dots_take {rs ss : List (List Rat)} {k : Nat} {r s : List Rat} (h1 : rs[k]? = some r) (h2 : ss[k]? = some s) : dots (rs.take (k + 1)) (ss.take (k + 1)) = dots (rs.take k) (ss.take k) + dot r s := by
  unfold dots
  have e : ∀ n, (rs.take n).zip (ss.take n) = (rs.zip ss).take n := fun n => by rw [List.zip_eq_zipWith, List.zip_eq_zipWith, List.take_zipWith]
  rw [e, e]
  have hz : (rs.zip ss)[k]? = some (r, s) := by rw [List.getElem?_zip_eq_some]; exact ⟨h1, h2⟩
  rw [List.take_succ, hz]
  simp [Rat.add_zero]
theorem dots_bq {rs ss : List (List Rat)} {n m a b : Nat} (h1 : Rows n m a rs) (h2 : Rows n m b ss) (hm : m ≤ 12) (k : Nat) (hk : k ≤ 12) : Bq (k * (12 * (a + b + 2) + 2) + 1) (dots (rs.take k) (ss.take k)) := by
  unfold dots
  refine (bq_sum (n := 12 * (a + b + 2) + 1) _ fun q h => ?_).mono ?_
  · obtain ⟨z, hz, rfl⟩ := List.mem_map.1 h
    obtain ⟨e1, e2⟩ := List.of_mem_zip hz
    have r1 := h1.2 _ (List.mem_of_mem_take e1)
    have r2 := h2.2 _ (List.mem_of_mem_take e2)
    exact dot_bq r1.2 r2.2 (by omega)
  · rw [List.length_map, List.length_zip, List.length_take, List.length_take]
    have : min (min k rs.length) (min k ss.length) * (12 * (a + b + 2) + 1 + 1) ≤ k * (12 * (a + b + 2) + 2) := Nat.mul_le_mul_right _ (by omega)
    omega
theorem row_getH {rows : List (List Rat)} {f : Rat → D} {n : Nat} {x : D} (h : (rows.map fun r => D.lst (r.map f))[n]? = some x) : ∃ r, rows[n]? = some r ∧ x = .lst (r.map f) := by
  rw [List.getElem?_map, Option.map_eq_some_iff] at h
  obtain ⟨r, h1, rfl⟩ := h
  exact ⟨r, h1, rfl⟩
theorem at_0 {d : D} {ds : List D} : atI (d :: ds) 0 = some d := by
  have e : ixN (d :: ds).length (0 : Int) = some 0 := by
    unfold ixN
    rw [if_pos (by omega), if_pos (by rw [List.length_cons]; omega)]
    rfl
  unfold atI
  rw [e]
  rfl
theorem any_map {ps qs : List Rat} (f : Rat → Rat → Bool) : ((ps.zip qs).map fun z => D.bl (f z.1 z.2)) = ((ps.zip qs).map fun z => f z.1 z.2).map D.bl := by
  rw [List.map_map]; rfl
theorem allPr : ∀ {hs : List Od}, (∀ o ∈ hs, o.isP = true) → ∃ qs : List Rat, hs = qs.map Od.pr
  | [], _ => ⟨[], rfl⟩
  | o :: hs, h => by
    obtain ⟨qs, rfl⟩ := allPr (hs := hs) fun o ho => h o (List.mem_cons_of_mem _ ho)
    have h0 := h o (by simp)
    cases o with
    | pr q => exact ⟨q :: qs, rfl⟩
    | _ => cases h0
theorem allS {hs : List Od} : (hs.map odS).all isSh = hs.all Od.isP := by
  induction hs with
  | nil => rfl
  | cons o hs ih => rw [List.map_cons, List.all_cons, List.all_cons, ih, od_sh]
theorem shs_i {T : Cfg} (hT : ShOk T) {hs : List Od} {P : D → Prop} {X : XD → Prop} (hl : hs.length ≤ 100) (p : P (.bl (hs.all Od.isP))) : c_are_shares T [.lst (hs.map odS)] P X :=
  ⟨_, _, rfl, th_lst hT _, .inl ⟨_, rfl, by rw [List.length_map]; omega, fun e he => by
    obtain ⟨o, _, rfl⟩ := List.mem_map.1 he
    exact od_th hT o, by rw [allS]; exact p⟩⟩
theorem shs_n {T : Cfg} {d : D} {t : Value} {P : D → Prop} {X : XD → Prop} (h : Thing T d t) (k : kindOf d "list" = false) (p : P (.bl false)) : c_are_shares T [d] P X := ⟨d, t, rfl, h, .inr ⟨k, p⟩⟩
def shB : D → Bool
  | .lst es => es.all isSh
  | _ => false
theorem shB_no {d : D} (k : kindOf d "list" = false) : shB d = false := by
  cases d <;> first | rfl | (simp [kindOf, kk, tagOf] at k)
theorem pure_are_prices {T : Cfg} (hT : ShOk T) : ∀ E ds μ P XP, pu (c_are_prices T) ds μ P XP → SV T (t_are_prices T E) (fun cls dd _ H => E cls dd H) ⟨slots 9 ds, μ⟩ (fnK P XP) := by
  rintro E ds μ P XP ⟨rfl, Pf, Xf, ⟨d, costs, pp, n, rfl, hc, hne, hl, hn, hp, p⟩, hP, hX⟩
  unfold t_are_prices
  cases hp with
  | no1 h k =>
    walk_at "pks"
    refine isi_t h (by simp [tys]) ?_
    rw [k]
    walk_at "pks"
    exact hP _ (p _ (by simp))
  | @no2 es h hl =>
    walk_at "pks"
    refine isi_tp ?_
    walk_at "pks"
    refine cv_lenT ?_
    walk_at "pks"
    refine bT' ?_ ?_
    · rw [decide_eq_false (by omega)]; rfl
    walk_at "pks"
    exact hP _ (p _ (by simp))
  | @no3 d e t u h k h' k' =>
    walk_at "pks"
    refine isi_tp ?_
    walk_at "pks"
    refine cv_lenT ?_
    walk_at "pks"
    refine bF' (by rfl) ?_
    walk_at "pks"
    refine ev_lcU ?_
    walk_at "pks"
    refine ⟨[d, e], fun x => .bl (shB x), rfl, by simp, fun x hx => ?_, ?_⟩
    · walk_at "pks"
      simp only [List.mem_cons, List.not_mem_nil, or_false] at hx
      rcases hx with rfl | rfl
      · exact shs_n h k ⟨by show D.bl false = D.bl (shB _); rw [shB_no k], rfl⟩
      · exact shs_n h' k' ⟨by show D.bl false = D.bl (shB _); rw [shB_no k'], rfl⟩
    walk_at "pks"
    refine cv_all (bs := [shB d, shB e]) (.inl rfl) ?_
    refine ex_bl (bT ?_ ?_)
    · rw [shB_no k]; rfl
    walk_at "pks"
    exact hP _ (p false (by simp))
  | @no4 e u hs l1 h' k' =>
    walk_at "pks"
    refine isi_tp ?_
    walk_at "pks"
    refine cv_lenT ?_
    walk_at "pks"
    refine bF' (by rfl) ?_
    walk_at "pks"
    refine ev_lcU ?_
    walk_at "pks"
    refine ⟨_, fun x => .bl (shB x), rfl, by simp, fun x hx => ?_, ?_⟩
    · walk_at "pks"
      simp only [List.mem_cons, List.not_mem_nil, or_false] at hx
      rcases hx with rfl | rfl
      · exact shs_i hT l1 ⟨by rw [← allS]; rfl, rfl⟩
      · exact shs_n h' k' ⟨by show D.bl false = D.bl (shB _); rw [shB_no k'], rfl⟩
    walk_at "pks"
    refine cv_all (bs := [shB (.lst (hs.map odS)), shB e]) (.inl rfl) ?_
    refine ex_bl (bT ?_ ?_)
    · rw [shB_no k']
      cases shB (.lst (hs.map odS)) <;> rfl
    walk_at "pks"
    exact hP _ (p false (by simp))
  | od hs ts h1 h2 l1 l2 =>
    walk_at "pks"
    refine isi_tp ?_
    walk_at "pks"
    refine cv_lenT ?_
    walk_at "pks"
    refine bF' (by rfl) ?_
    walk_at "pks"
    refine ev_lcU ?_
    walk_at "pks"
    refine ⟨_, fun x => .bl (shB x), rfl, by simp, fun x hx => ?_, ?_⟩
    · walk_at "pks"
      simp only [List.mem_cons, List.not_mem_nil, or_false] at hx
      rcases hx with rfl | rfl
      · exact shs_i hT l1 ⟨by rw [← allS]; rfl, rfl⟩
      · exact shs_i hT l2 ⟨by rw [← allS]; rfl, rfl⟩
    walk_at "pks"
    refine cv_all (bs := [shB (.lst (hs.map odS)), shB (.lst (ts.map odS))]) (.inl rfl) ?_
    have e1 : shB (.lst (hs.map odS)) = hs.all Od.isP := allS
    have e2 : shB (.lst (ts.map odS)) = ts.all Od.isP := allS
    rw [e1, e2]
    refine ⟨_, rfl, fun ha => ?_, fun ha => ?_⟩
    · walk_at "pks"
      refine hP _ (p _ ?_)
      refine ⟨fun z => (nomatch z), fun z => ?_⟩
      have a1 : hs.all Od.isP = true := List.all_eq_true.mpr z.2.2.1
      have a2 : ts.all Od.isP = true := List.all_eq_true.mpr z.2.2.2.1
      rw [a1, a2] at ha
      cases ha
    · have ha' : (hs.all Od.isP && (ts.all Od.isP && true)) = true := by
        have : (!(hs.all Od.isP && (ts.all Od.isP && true))) = false := ha
        simpa using this
      rw [Bool.and_eq_true, Bool.and_eq_true] at ha'
      have a1 := List.all_eq_true.mp ha'.1
      have a2 := List.all_eq_true.mp ha'.2.1
      obtain ⟨xs, rfl⟩ := allPr a1
      obtain ⟨ys, rfl⟩ := allPr a2
      have ex : (xs.map Od.pr).map odS = xs.map shD := by rw [List.map_map]; rfl
      have ey : (ys.map Od.pr).map odS = ys.map shD := by rw [List.map_map]; rfl
      rw [ex, ey]
      have bx : ∀ q ∈ xs, Bq 100 q := fun q hq => h1 (.pr q) (List.mem_map.2 ⟨q, hq, rfl⟩)
      have by_ : ∀ q ∈ ys, Bq 100 q := fun q hq => h2 (.pr q) (List.mem_map.2 ⟨q, hq, rfl⟩)
      rw [List.length_map] at l1 l2
      obtain ⟨c0, cs, rfl⟩ : ∃ c0 cs, costs = c0 :: cs := by
        cases costs with
        | nil => exact absurd rfl hne
        | cons a b => exact ⟨a, b, rfl⟩
      walk_at "pks"
      refine cv_len (.inl rfl) ?_
      walk_at "pks"
      refine cv_len (.inl rfl) ?_
      walk_at "pks"
      refine ⟨fun hA => ?_, fun hA => ?_⟩
      rotate_left
      · walk_at "pks"
        refine hP _ (p _ ⟨fun z => (nomatch z), fun z => ?_⟩)
        have z1 := z.1
        rw [List.length_map] at z1
        rw [List.length_map, List.length_map, decide_eq_true (by rw [z1])] at hA
        cases hA
      have hlen : xs.length = (c0 :: cs).length := by
        rw [List.length_map, List.length_map] at hA
        have : decide ((xs.length : Int) = ((c0 :: cs).length : Int)) = true := by simpa using hA
        have := of_decide_eq_true this
        omega
      walk_at "pks"
      refine cv_len (.inl rfl) ?_
      walk_at "pks"
      refine ov_ixL (e := shL c0) (.inl rfl) at_0 ?_
      walk_at "pks"
      refine cv_len (.inl rfl) ?_
      walk_at "pks"
      refine ⟨fun hB => ?_, fun hB => ?_⟩
      · walk_at "pks"
        refine hP _ (p _ ⟨fun z => (nomatch z), fun z => ?_⟩)
        have z1 := z.2.1
        rw [List.length_map] at z1
        have z1 : ys.length = c0.length := z1
        rw [List.length_map, List.length_map, decide_eq_true (by rw [z1])] at hB
        cases hB
      have hlen2 : ys.length = c0.length := by
        rw [List.length_map, List.length_map] at hB
        have : decide ((ys.length : Int) = (c0.length : Int)) = true := by simpa using hB
        have := of_decide_eq_true this
        omega
      walk_at "pks"
      refine sv_forZ ?_
      walk_at "pks"
      refine ⟨_, _, _, _, fun _ => [none, some (shR (c0 :: cs)), some (shL xs), some (shL ys), none, none, none, none, none], fun k μ => μ = mu0 ∧ ∀ (i : Nat) (row : List Rat) (h : Rat), i < k → (c0 :: cs)[i]? = some row → xs[i]? = some h → ∀ (j : Nat) (c t : Rat), row[j]? = some c → ys[j]? = some t → ¬ c < h - t, rfl, .inl rfl, .inl rfl, ?_, ⟨rfl, fun i row h hi => by omega⟩, fun k x y μ' hx hy em => ?_, fun s' hs em => ?_⟩
      · walk_at "le"
      · obtain ⟨rfl, hk⟩ := em
        rw [List.getElem?_map, Option.map_eq_some_iff] at hx
        obtain ⟨h, hx, rfl⟩ := hx
        obtain ⟨row, hr, rfl⟩ := row_getH hy
        have r1 := hc.2 _ (List.mem_of_getElem? hr)
        walk_at "pks"
        refine ev_zipS ?_
        walk_at "pks"
        refine ⟨row, ys, fun c t => .bl (decide (c < h - t)), rfl, by omega, fun c t hc' ht => ?_, ?_⟩
        · walk_at "pks"
          refine minus_i (bx _ (List.mem_of_getElem? hx)) (by_ _ ht) (by decide) ?_
          walk_at "pks"
          exact less_i (r1.2 _ hc') ((bx _ (List.mem_of_getElem? hx)).sub (by_ _ ht)) (by decide) ⟨rfl, rfl⟩
        rw [any_map fun c t => decide (c < h - t)]
        walk_at "pks"
        refine cv_any (.inl rfl) ?_
        refine ⟨_, rfl, fun hC => ?_, fun hC => ?_⟩
        · walk_at "pks"
          refine hP _ (p _ ⟨fun z => (nomatch z), fun z => ?_⟩)
          rw [List.any_map, List.any_eq_true] at hC
          obtain ⟨w, hw, hlt⟩ := hC
          obtain ⟨j, hj⟩ := List.getElem?_of_mem hw
          rw [List.getElem?_zip_eq_some] at hj
          have hlt : w.1 < h - w.2 := by simpa using hlt
          exact absurd hlt (z.2.2.2.2 k row h hr (by rw [List.getElem?_map, hx]; rfl) j w.1 w.2 hj.1 (by rw [List.getElem?_map, hj.2]; rfl))
        · walk_at "pks"
          refine ⟨?_, rfl, fun i row' h' hi hr' hx' j c t hc' ht => ?_⟩
          · walk_at "le"
          by_cases e : i = k
          · subst e
            rw [hr] at hr'; cases hr'
            rw [hx] at hx'; cases hx'
            intro hlt
            rw [List.any_map] at hC
            have : ((row.zip ys).any (id ∘ fun z => decide (z.1 < h - z.2))) = true := by
              rw [List.any_eq_true]
              refine ⟨(c, t), List.mem_of_getElem? (i := j) ?_, by simpa using hlt⟩
              rw [List.getElem?_zip_eq_some]
              exact ⟨hc', ht⟩
            rw [this] at hC
            cases hC
          · exact hk i row' h' (by omega) hr' hx' j c t hc' ht
      · obtain ⟨em, hk⟩ := em
        refine seqK_res hs ?_
        walk_at "pks"
        refine hP _ (p _ ⟨fun _ => ⟨by rw [List.length_map]; exact hlen, by rw [List.length_map]; exact hlen2, a1, a2, fun k row h hr hx j c t hc' ht => ?_⟩, fun _ => rfl⟩)
        rw [List.getElem?_map, Option.map_eq_some_iff] at hx ht
        obtain ⟨h', hx, e⟩ := hx
        cases e
        obtain ⟨t', ht, e⟩ := ht
        cases e
        refine hk k row h ?_ hr hx j c t hc' ht
        have := (List.getElem?_eq_some_iff.mp hx).1
        rw [List.length_map, List.length_map]
        omega
end Far
namespace Far
open PySem PySem.Spec PyProof.Rows L2 Pw
open FM (Bq)
def c_Lshares (T : Cfg) : PC := fun ds P _ => ∃ qs : List Rat, ds = [prL qs] ∧ qs.length ≤ 1000 ∧ (∀ q ∈ qs, Bq 9000 q) ∧ P (shL qs)
def c_LrowsS (T : Cfg) : PC := fun ds P _ => ∃ rows : List (List Rat), ds = [prR rows] ∧ rows.length ≤ 1000 ∧ (∀ r ∈ rows, r.length ≤ 1000 ∧ ∀ q ∈ r, Bq 9000 q) ∧ P (shR rows)
def c_Ladded (T : Cfg) : PC := fun ds P _ => ∃ (a b c d : Int) (n m : Nat), ds = [.tup [.int a, .int b], .tup [.int c, .int d]] ∧ b ≠ 0 ∧ d ≠ 0 ∧ Bt n a ∧ Bt n b ∧ Bt m c ∧ Bt m d ∧ n + m ≤ 9000 ∧ P (prD (Rat.divInt a b + Rat.divInt c d))
def c_Ltotal (T : Cfg) : PC := fun ds P _ => ∃ (d : D) (qs : List Rat) (n : Nat), ds = [d] ∧ Seqd d (qs.map prD) ∧ (∀ q ∈ qs, Bq n q) ∧ (qs.length + 1) * (n + 2) ≤ 8000 ∧ P (prD qs.sum)
def c_Lby (T : Cfg) : PC := fun ds P _ => ∃ (p q : Rat) (n m : Nat), ds = [prD p, prD q] ∧ Bq n p ∧ Bq m q ∧ n + m ≤ 9000 ∧ P (prD (p * q))
def c_Lbelow (T : Cfg) : PC := fun ds P _ => ∃ (p q : Rat) (n m : Nat), ds = [prD p, prD q] ∧ Bq n p ∧ Bq m q ∧ n + m ≤ 9000 ∧ P (.bl (decide (p < q)))
def c_Lless (T : Cfg) : PC := fun ds P _ => ∃ (a b c d : Int) (n m : Nat), ds = [.tup [.int a, .int b], .tup [.int c, .int d]] ∧ b ≠ 0 ∧ d ≠ 0 ∧ Bt n a ∧ Bt n b ∧ Bt m c ∧ Bt m d ∧ n + m ≤ 8000 ∧ P (prD (Rat.divInt a b - Rat.divInt c d))
def c_Lheap (T : Cfg) : Nat → List D → (D → Nat → Prop) → Prop := fun b rest P => ∃ n : Nat, rest = [.int n] ∧ 1 ≤ n ∧ n ≤ 12 ∧ 40 ≤ b ∧ ∀ (ws : List Nat) (b' : Nat), ws.length = n → 0 < ws.sum → ws.sum ≤ 200 → b ≤ b' + 40 → P (prL (ws.map fun (w : Nat) => Rat.divInt (w : Int) (ws.sum : Int))) b'
theorem len_Lshares {T : Cfg} : ∀ ds μ P XP, pu (c_Lshares T) ds μ P XP → ds.length = 1 := by
  rintro ds μ P XP ⟨rfl, Pf, Xf, ⟨d, rfl, _⟩, _⟩; rfl
theorem len_LrowsS {T : Cfg} : ∀ ds μ P XP, pu (c_LrowsS T) ds μ P XP → ds.length = 1 := by
  rintro ds μ P XP ⟨rfl, Pf, Xf, ⟨d, rfl, _⟩, _⟩; rfl
theorem len_Ladded {T : Cfg} : ∀ ds μ P XP, pu (c_Ladded T) ds μ P XP → ds.length = 2 := by
  rintro ds μ P XP ⟨rfl, Pf, Xf, ⟨a, b, c, d, n, m, rfl, _⟩, _⟩; rfl
theorem len_Ltotal {T : Cfg} : ∀ ds μ P XP, pu (c_Ltotal T) ds μ P XP → ds.length = 1 := by
  rintro ds μ P XP ⟨rfl, Pf, Xf, ⟨d, q, n, rfl, _⟩, _⟩; rfl
theorem len_Lby {T : Cfg} : ∀ ds μ P XP, pu (c_Lby T) ds μ P XP → ds.length = 2 := by
  rintro ds μ P XP ⟨rfl, Pf, Xf, ⟨p, q, n, m, rfl, _⟩, _⟩; rfl
theorem len_Lbelow {T : Cfg} : ∀ ds μ P XP, pu (c_Lbelow T) ds μ P XP → ds.length = 2 := by
  rintro ds μ P XP ⟨rfl, Pf, Xf, ⟨p, q, n, m, rfl, _⟩, _⟩; rfl
theorem len_Lless {T : Cfg} : ∀ ds μ P XP, pu (c_Lless T) ds μ P XP → ds.length = 2 := by
  rintro ds μ P XP ⟨rfl, Pf, Xf, ⟨a, b, c, d, n, m, rfl, _⟩, _⟩; rfl
theorem len_Lheap {T : Cfg} : ∀ ds μ P XP, wl (c_Lheap T) ds μ P XP → ds.length = 2 := by
  rintro ds μ P XP ⟨a, b, rest, rfl, rfl, Pf, ⟨n, rfl, _⟩, _⟩; rfl
def t_Lshares (T : Cfg) (E : XK) : TS := (tRet (tLc (iList T.K (tVar 0)) (gTup T.K 2 (gCons (gName 1) (gCons (gName 2) gNil))) tYes (tMake (T.cls 0) (spOf T (ini 0 (c_Share___init__ T))) [] E0 (tCons (tVar 1) (tCons (tVar 2) tNil))) [1, 2]))
def t_LrowsS (T : Cfg) (E : XK) : TS := (tRet (tLc (iList T.K (tVar 0)) (gName 1) tYes (tCall (spOf T (pu (c_Lshares T))) [] E0 (tCons (tVar 1) tNil)) [1]))
def t_Ladded (T : Cfg) (E : XK) : TS := (tRet (tCall (spOf T (pu (c_Llow T))) [] E0 (tCons (tOp (rI0 fun i j => .int (i + j)) (tOp (rI IntMulOk fun i j => .int (i * j)) (tOp (rIxT T.K) (tVar 0) (tC (.int 0))) (tOp (rIxT T.K) (tVar 1) (tC (.int 1)))) (tOp (rI IntMulOk fun i j => .int (i * j)) (tOp (rIxT T.K) (tVar 1) (tC (.int 0))) (tOp (rIxT T.K) (tVar 0) (tC (.int 1))))) (tCons (tOp (rI IntMulOk fun i j => .int (i * j)) (tOp (rIxT T.K) (tVar 0) (tC (.int 1))) (tOp (rIxT T.K) (tVar 1) (tC (.int 1)))) tNil))))
def t_Ltotal (T : Cfg) (E : XK) : TS := (tSeq (tAsg (tTup (tCons (tC (.int 0)) (tCons (tC (.int 1)) tNil))) (gName 1))
    (tSeq (tFor (iList T.K (tVar 0)) (gName 2) (tAsg (tCall (spOf T (pu (c_Ladded T))) [] E0 (tCons (tVar 1) (tCons (tVar 2) tNil))) (gName 1)))
    (tRet (tVar 1))))
def t_Lby (T : Cfg) (E : XK) : TS := (tRet (tCall (spOf T (pu (c_Llow T))) [] E0 (tCons (tOp (rI IntMulOk fun i j => .int (i * j)) (tOp (rIxT T.K) (tVar 0) (tC (.int 0))) (tOp (rIxT T.K) (tVar 1) (tC (.int 0)))) (tCons (tOp (rI IntMulOk fun i j => .int (i * j)) (tOp (rIxT T.K) (tVar 0) (tC (.int 1))) (tOp (rIxT T.K) (tVar 1) (tC (.int 1)))) tNil))))
def t_Lbelow (T : Cfg) (E : XK) : TS := (tRet (tOp (rI0 fun i j => .bl (decide (i < j))) (tOp (rI IntMulOk fun i j => .int (i * j)) (tOp (rIxT T.K) (tVar 0) (tC (.int 0))) (tOp (rIxT T.K) (tVar 1) (tC (.int 1)))) (tOp (rI IntMulOk fun i j => .int (i * j)) (tOp (rIxT T.K) (tVar 1) (tC (.int 0))) (tOp (rIxT T.K) (tVar 0) (tC (.int 1))))))
def t_Lless (T : Cfg) (E : XK) : TS := (tRet (tCall (spOf T (pu (c_Ladded T))) [] E0 (tCons (tVar 0) (tCons (tTup (tCons (tOp (rI0 fun i j => .int (i - j)) (tC (.int 0)) (tOp (rIxT T.K) (tVar 1) (tC (.int 0)))) (tCons (tOp (rIxT T.K) (tVar 1) (tC (.int 1))) tNil))) tNil))))
def t_Lheap (T : Cfg) (E : XK) : TS := (tSeq (tAsg (tCall (spOf T (wl (c_Ldraw T))) [] E0 (tCons (tVar 0) (tCons (tC (.int 4)) tNil))) (gName 2))
    (tSeq (tAsg (tOp rRep (tLst (tCons (tC (.int 0)) tNil)) (tVar 1)) (gName 3))
    (tSeq (tFor (iRng1 (tCons (tOp (rIxL T.K) (tLst (tCons (tC (.int 1)) (tCons (tC (.int 2)) (tCons (tC (.int 3)) (tCons (tC (.int 0)) tNil))))) (tVar 2)) tNil)) (gName 4) (tSeq (tAsg (tCall (spOf T (wl (c_Ldraw T))) [] E0 (tCons (tVar 0) (tCons (tVar 1) tNil))) (gName 5))
    (tAsg (tOp (rI0 fun i j => .int (i + j)) (tOp (rI0 fun i j => .int (i + j)) (tOp (rIxL T.K) (tVar 3) (tVar 5)) (tC (.int 1))) (tCall (spOf T (wl (c_Ldraw T))) [] E0 (tCons (tVar 0) (tCons (tC (.int 9)) tNil)))) (gSub (tVar 3) (tVar 5) rSetL))))
    (tSeq (tIfS (tTest (tOp rEq (tVar 2) (tC (.int 3)))) (tAsg (tLc (iRng1 (tCons (tVar 1) tNil)) (gName 7) tYes (tCall (spOf T (wl (c_Ldraw T))) [] E0 (tCons (tVar 0) (tCons (tC (.int 12)) tNil))) [7]) (gName 3)) tNext)
    (tSeq (tIfS (tTest (tOp rEq (tCB (rSum T.K) (tCons (tVar 3) tNil)) (tC (.int 0)))) (tAsg (tC (.int 1)) (gSub (tVar 3) (tCall (spOf T (wl (c_Ldraw T))) [] E0 (tCons (tVar 0) (tCons (tVar 1) tNil))) rSetL)) tNext)
    (tRet (tLc (iList T.K (tVar 3)) (gName 6) tYes (tCall (spOf T (pu (c_Llow T))) [] E0 (tCons (tVar 6) (tCons (tCB (rSum T.K) (tCons (tVar 3) tNil)) tNil))) [6])))))))
def shOf : D → D
  | .tup [.int a, .int b] => shD (Rat.divInt a b)
  | d => d
theorem shOf_pr (q : Rat) : shOf (prD q) = shD q := by
  show shD (Rat.divInt q.num (q.den : Int)) = _
  rw [Rat.num_divInt_den]
theorem pure_Lshares {T : Cfg} (hT : ShOk T) : ∀ E ds μ P XP, pu (c_Lshares T) ds μ P XP → SV T (t_Lshares T E) (fun cls dd _ H => E cls dd H) ⟨slots 3 ds, μ⟩ (fnK P XP) := by
  rintro E ds μ P XP ⟨rfl, Pf, Xf, ⟨qs, rfl, hl, hb, p⟩, hP, hX⟩
  unfold t_Lshares
  walk_at "pks"
  refine ev_lcF2 ?_
  walk_at "pks"
  refine ⟨_, shOf, .inl rfl, by rw [List.length_map]; omega, fun e he => ?_, ?_⟩
  · obtain ⟨q, hq, rfl⟩ := List.mem_map.1 he
    refine ⟨_, _, rfl, ?_⟩
    walk_at "pks"
    exact ⟨den_ne q, (hb q hq).bd, rfl, rfl⟩
  have e : (qs.map prD).map shOf = qs.map shD := by
    rw [List.map_map]
    exact List.map_congr_left fun q _ => shOf_pr q
  rw [e]
  exact hP _ p
def rowSh : D → D
  | .lst ds => .lst (ds.map shOf)
  | d => d
theorem pure_LrowsS {T : Cfg} (hT : ShOk T) : ∀ E ds μ P XP, pu (c_LrowsS T) ds μ P XP → SV T (t_LrowsS T E) (fun cls dd _ H => E cls dd H) ⟨slots 2 ds, μ⟩ (fnK P XP) := by
  rintro E ds μ P XP ⟨rfl, Pf, Xf, ⟨rows, rfl, hl, hb, p⟩, hP, hX⟩
  unfold t_LrowsS
  have er : ∀ r : List Rat, rowSh (.lst (r.map prD)) = .lst (r.map shD) := fun r => by
    show D.lst ((r.map prD).map shOf) = _
    rw [List.map_map]
    exact congrArg D.lst (List.map_congr_left fun q _ => shOf_pr q)
  walk_at "pks"
  refine ev_lcF ?_
  walk_at "pks"
  refine ⟨_, rowSh, .inl rfl, by rw [List.length_map]; omega, fun e he => ?_, ?_⟩
  · obtain ⟨r, hr, rfl⟩ := List.mem_map.1 he
    walk_at "pks"
    exact ⟨r, rfl, (hb r hr).1, (hb r hr).2, (er r).symm, rfl⟩
  have e : (rows.map fun r => D.lst (r.map prD)).map rowSh = rows.map fun r => D.lst (r.map shD) := by
    rw [List.map_map]
    exact List.map_congr_left fun r _ => er r
  rw [e]
  exact hP _ p
theorem pure_Ladded {T : Cfg} (hT : ShOk T) : ∀ E ds μ P XP, pu (c_Ladded T) ds μ P XP → SV T (t_Ladded T E) (fun cls dd _ H => E cls dd H) ⟨slots 2 ds, μ⟩ (fnK P XP) := by
  rintro E ds μ P XP ⟨rfl, Pf, Xf, ⟨a, b, c, d, n, m, rfl, hb, hd, ka, kb, kc, kd, hs, p⟩, hP, hX⟩
  unfold t_Ladded
  walk_at "pks"
  refine ov_mul (ka.ok kd (by omega)) ?_
  walk_at "pks"
  refine ov_mul (kc.ok kb (by omega)) ?_
  walk_at "pks"
  refine ov_mul (kb.ok kd (by omega)) ?_
  walk_at "pks"
  refine low_i (Int.mul_ne_zero hb hd) ((kb.mul kd).mono (by omega)) ?_
  rw [d_add hb hd]
  exact hP _ p
theorem added_i {T : Cfg} {p q : Rat} {n m : Nat} {P : D → Prop} {X : XD → Prop} (h1 : Bq n p) (h2 : Bq m q) (h : n + m ≤ 9000) (k : P (prD (p + q))) : c_Ladded T [prD p, prD q] P X :=
  ⟨_, _, _, _, n, m, rfl, den_ne p, den_ne q, h1.bn, h1.bd, h2.bn, h2.bd, h, by rw [Rat.num_divInt_den, Rat.num_divInt_den]; exact k⟩
theorem pure_Lless {T : Cfg} (hT : ShOk T) : ∀ E ds μ P XP, pu (c_Lless T) ds μ P XP → SV T (t_Lless T E) (fun cls dd _ H => E cls dd H) ⟨slots 2 ds, μ⟩ (fnK P XP) := by
  rintro E ds μ P XP ⟨rfl, Pf, Xf, ⟨a, b, c, d, n, m, rfl, hb, hd, ka, kb, kc, kd, hs, p⟩, hP, hX⟩
  unfold t_Lless
  walk_at "pks"
  refine ⟨_, _, _, _, n, m, rfl, hb, hd, ka, kb, ?_, kd, by omega, ?_⟩
  · have := kc.neg
    rwa [← Int.zero_sub] at this
  have e : Rat.divInt (0 - c) d = - Rat.divInt c d := by rw [Int.zero_sub, Rat.neg_divInt]
  rw [e, ← Rat.sub_eq_add_neg]
  exact hP _ p
theorem less_p {T : Cfg} {p q : Rat} {n m : Nat} {P : D → Prop} {X : XD → Prop} (h1 : Bq n p) (h2 : Bq m q) (h : n + m ≤ 8000) (k : P (prD (p - q))) : c_Lless T [prD p, prD q] P X :=
  ⟨_, _, _, _, n, m, rfl, den_ne p, den_ne q, h1.bn, h1.bd, h2.bn, h2.bd, h, by rw [Rat.num_divInt_den, Rat.num_divInt_den]; exact k⟩
theorem pure_Lby {T : Cfg} (hT : ShOk T) : ∀ E ds μ P XP, pu (c_Lby T) ds μ P XP → SV T (t_Lby T E) (fun cls dd _ H => E cls dd H) ⟨slots 2 ds, μ⟩ (fnK P XP) := by
  rintro E ds μ P XP ⟨rfl, Pf, Xf, ⟨p, q, n, m, rfl, h1, h2, hs, k⟩, hP, hX⟩
  unfold t_Lby prD
  walk_at "pks"
  refine ov_mul (h1.bn.ok h2.bn (by omega)) ?_
  walk_at "pks"
  refine ov_mul (h1.bd.ok h2.bd (by omega)) ?_
  walk_at "pks"
  refine low_i (dd_ne p q) (dd_bt h1 h2 hs) ?_
  rw [FM.mk_mul]
  exact hP _ k
theorem by_i {T : Cfg} {p q : Rat} {n m : Nat} {P : D → Prop} {X : XD → Prop} (h1 : Bq n p) (h2 : Bq m q) (h : n + m ≤ 9000) (k : P (prD (p * q))) : c_Lby T [prD p, prD q] P X := ⟨p, q, n, m, rfl, h1, h2, h, k⟩
theorem pure_Lbelow {T : Cfg} (hT : ShOk T) : ∀ E ds μ P XP, pu (c_Lbelow T) ds μ P XP → SV T (t_Lbelow T E) (fun cls dd _ H => E cls dd H) ⟨slots 2 ds, μ⟩ (fnK P XP) := by
  rintro E ds μ P XP ⟨rfl, Pf, Xf, ⟨p, q, n, m, rfl, h1, h2, hs, k⟩, hP, hX⟩
  unfold t_Lbelow prD
  walk_at "pks"
  refine ov_mul (h1.bn.ok h2.bd (by omega)) ?_
  walk_at "pks"
  refine ov_mul (h2.bn.ok h1.bd (by omega)) ?_
  walk_at "pks"
  rw [decide_eq_decide.mpr (FM.less_iff p q)]
  exact hP _ k
theorem below_i {T : Cfg} {p q : Rat} {n m : Nat} {P : D → Prop} {X : XD → Prop} (h1 : Bq n p) (h2 : Bq m q) (h : n + m ≤ 9000) (k : P (.bl (decide (p < q)))) : c_Lbelow T [prD p, prD q] P X := ⟨p, q, n, m, rfl, h1, h2, h, k⟩
theorem pure_Ltotal {T : Cfg} (hT : ShOk T) : ∀ E ds μ P XP, pu (c_Ltotal T) ds μ P XP → SV T (t_Ltotal T E) (fun cls dd _ H => E cls dd H) ⟨slots 3 ds, μ⟩ (fnK P XP) := by
  rintro E ds μ P XP ⟨rfl, Pf, Xf, ⟨d, qs, n, rfl, hd, hb, hs, p⟩, hP, hX⟩
  unfold t_Ltotal
  walk_at "pks"
  refine sv_forNI ?_
  walk_at "pks"
  refine ⟨_, fun k => [some d, some (prD (qs.take k).sum), none], fun _ μ => μ = mu0, hd, ?_, rfl, fun k e μ' he em => ?_, fun s' hs' em => ?_⟩
  · exact ⟨rfl, rfl, trivial⟩
  · subst em
    rw [List.getElem?_map, Option.map_eq_some_iff] at he
    obtain ⟨q, hq, rfl⟩ := he
    have hk : k < qs.length := (List.getElem?_eq_some_iff.mp hq).1
    have hq' : qs[k] = q := by
      rw [List.getElem?_eq_getElem hk] at hq
      exact Option.some.inj hq
    have hs2 : qs.length * (n + 1) + (n + 2) ≤ 8000 := by
      have : (qs.length + 1) * (n + 2) = qs.length * (n + 2) + (n + 2) := by rw [Nat.succ_mul]
      have h3 : qs.length * (n + 1) ≤ qs.length * (n + 2) := Nat.mul_le_mul_left _ (by omega)
      omega
    have bt : Bq (qs.length * (n + 1) + 1) (qs.take k).sum := (bq_sum _ fun q hq => hb q (List.mem_of_mem_take hq)).mono (by
      rw [List.length_take]
      have : min k qs.length * (n + 1) ≤ qs.length * (n + 1) := Nat.mul_le_mul_right _ (by omega)
      omega)
    walk_at "pks"
    refine added_i bt (hb _ (List.mem_of_getElem? hq)) (by omega) ?_
    rw [← hq', ← FM.sum_take_succ hk]
    walk_at "pks"
    exact ⟨⟨rfl, rfl, trivial⟩, rfl⟩
  · refine seqK_res hs' ?_
    dsimp only
    rw [List.length_map, List.take_length]
    walk_at "pks"
    exact hP _ p
theorem total_i {T : Cfg} {qs : List Rat} {n : Nat} {P : D → Prop} {X : XD → Prop} (hb : ∀ q ∈ qs, Bq n q) (hs : (qs.length + 1) * (n + 2) ≤ 8000) (k : P (prD qs.sum)) : c_Ltotal T [prL qs] P X := ⟨_, qs, n, rfl, .inl rfl, hb, hs, k⟩
theorem map_pr (ps : List (Rat × Rat)) (f : Rat × Rat → Rat) : (ps.map fun z => prD (f z)) = (ps.map f).map prD := by rw [List.map_map]; rfl
theorem total_dot {T : Cfg} {ps qs : List Rat} {P : D → Prop} {X : XD → Prop} {n m k : Nat} (hp : ∀ q ∈ ps, Bq n q) (hq : ∀ q ∈ qs, Bq m q) (hl : ps.length ≤ k) (hs : (k + 1) * (n + m + 3) ≤ 8000) (p : P (prD (dot ps qs))) : c_Ltotal T [.lst ((ps.zip qs).map fun z => prD (z.1 * z.2))] P X := by
  rw [map_pr (ps.zip qs) fun z => z.1 * z.2]
  refine total_i (n := n + m + 1) (fun q h => ?_) ?_ p
  · obtain ⟨z, hz, rfl⟩ := List.mem_map.1 h
    obtain ⟨h1, h2⟩ := List.of_mem_zip hz
    exact bq_mul (hp _ h1) (hq _ h2)
  · rw [List.length_map, List.length_zip]
    refine Nat.le_trans (Nat.mul_le_mul_right _ ?_) hs
    omega
abbrev natL (ws : List Nat) : List D := ws.map fun (w : Nat) => D.int (w : Int)
theorem ixn {n j : Nat} (h : j < n) : ixN n (j : Int) = some j := by
  unfold ixN
  rw [if_pos (by omega), if_pos (by omega)]
  rfl
theorem at_natH {ds : List D} {j : Nat} {d : D} (h : ds[j]? = some d) : atI ds (j : Int) = some d := by
  have hj : j < ds.length := (List.getElem?_eq_some_iff.mp h).1
  unfold atI
  rw [ixn hj]
  exact h
theorem at_natL {ws : List Nat} {j : Nat} (h : j < ws.length) : atI (natL ws) (j : Int) = some (.int (ws[j] : Int)) := at_natH (by rw [List.getElem?_map, List.getElem?_eq_getElem h]; rfl)
theorem set_natL {ws : List Nat} {j v : Nat} : (natL ws).set j (.int (v : Int)) = natL (ws.set j v) := (List.map_set (f := fun (w : Nat) => D.int (w : Int))).symm
theorem sum_setH {ws : List Nat} {j v : Nat} (h : j < ws.length) : (ws.set j v).sum + ws[j] = ws.sum + v := by
  induction ws generalizing j with
  | nil => cases h
  | cons w ws ih =>
    cases j with
    | zero => simp; omega
    | succ j =>
      have := ih (j := j) (by simpa using h)
      simp only [List.set_cons_succ, List.sum_cons, List.getElem_cons_succ]
      omega
theorem natL_int (ws : List Nat) : natL ws = (ws.map fun (w : Nat) => (w : Int)).map D.int := by rw [List.map_map]; rfl
theorem sum_castH (ws : List Nat) : (ws.map fun (w : Nat) => (w : Int)).sum = (ws.sum : Int) := by
  induction ws with
  | nil => rfl
  | cons w ws ih => rw [List.map_cons, List.sum_cons, List.sum_cons, ih]; omega
theorem le_sumH : ∀ (ws : List Nat) (w : Nat), w ∈ ws → w ≤ ws.sum
  | v :: ws, w, h => by
    rw [List.sum_cons]
    rcases List.mem_cons.1 h with rfl | h
    · omega
    · have := le_sumH ws w h
      omega
theorem sum_rep0 (n : Nat) : (List.replicate n 0).sum = 0 := by
  induction n with
  | zero => rfl
  | succ n ih => rw [List.replicate_succ, List.sum_cons, ih]
theorem bt4 {i : Int} (h : i.natAbs < 10000) : Bt 9000 i := Bt.mono (n := 14) (Nat.lt_of_lt_of_le h (by decide)) (by decide)
theorem natI {x : Int} (h : 0 ≤ x) : ∃ k : Nat, x = (k : Int) := Int.eq_ofNat_of_zero_le h
theorem pure_Lheap {T : Cfg} (hT : ShOk T) : ∀ E ds μ P XP, wl (c_Lheap T) ds μ P XP → SV T (t_Lheap T E) (fun cls dd _ H => E cls dd H) ⟨slots 8 ds, μ⟩ (fnK P XP) := by
  rintro E ds μ P XP ⟨a, b, rest, rfl, rfl, Pf, ⟨n, rfl, n1, n12, hb, k⟩, hP⟩
  unfold t_Lheap
  walk_at "pks"
  refine ⟨a, b, _, _, rfl, rfl, draw_i (by omega) (by decide) (bt4 (by decide)) fun way w0 w1 => ?_⟩
  walk_at "pks"
  refine ov_repM1 (by omega) fun p hp => ?_
  have hpa : p ≠ a := fun e => by rw [e, put_same] at hp; cases hp
  have hap : a ≠ p := fun e => hpa e.symm
  walk_at "pks"
  refine sv_forRg ?_
  walk_at "pks"
  obtain ⟨c, hc, hcm⟩ := atI_mem (ds := [D.int 1, .int 2, .int 3, .int 0]) w0 w1
  refine ov_ixL (.inl rfl) hc ?_
  have hc' : ∃ c' : Int, c = .int c' ∧ 0 ≤ c' ∧ c' ≤ 3 := by
    simp only [List.mem_cons, List.not_mem_nil, or_false] at hcm
    rcases hcm with rfl | rfl | rfl | rfl <;> exact ⟨_, rfl, by decide, by decide⟩
  obtain ⟨c', rfl, c0, c3⟩ := hc'
  walk_at "pks"
  let J : Nat → Mu → Prop := fun k μ => ∃ (b' : Nat) (ws : List Nat), μ a = some (.well b') ∧ μ p = some (.lst (natL ws)) ∧ ws.length = n ∧ ws.sum ≤ 9 * k ∧ b ≤ b' + 1 + 2 * k
  refine ⟨c', fun _ => [some (.ptr a), some (.int n), some (.int way), some (.ptr p), none, none, none, none], J, rfl, by omega, by omega, ⟨rfl, rfl, rfl, rfl, trivial⟩, ?_, ?_, ?_⟩
  · refine ⟨b - 1, List.replicate n 0, ?_, ?_, by simp, by rw [sum_rep0]; omega, by omega⟩
    · rw [put_ne hap, put_same]
    · rw [put_same]
      show _ = some (MO.lst ((List.replicate n 0).map fun (w : Nat) => D.int (w : Int)))
      rw [List.map_replicate]; rfl
  · rintro i μ hi ⟨b', ws, hw, hl, len, hs, hbb⟩
    walk_at "pks"
    refine ⟨a, b', _, _, rfl, (put_get hw).symm, draw_i (by omega) (by omega) (bt4 (by omega)) fun x x0 x1 => ?_⟩
    obtain ⟨j, rfl⟩ := natI x0
    have hj : j < ws.length := by omega
    generalize hm : put μ a (.well (b' - 1)) = μ1
    have hw1 : μ1 a = some (.well (b' - 1)) := by rw [← hm, put_same]
    have hl1 : μ1 p = some (.lst (natL ws)) := by rw [← hm, put_ne hpa]; exact hl
    walk_at "pks"
    refine sv_setL ?_
    walk_at "pks"
    refine ov_ixM hl1 (at_natL hj) ?_
    walk_at "pks"
    refine ⟨a, _, _, _, rfl, (put_get hw1).symm, draw_i (by omega) (by decide) (bt4 (by decide)) fun y y0 y1 => ?_⟩
    obtain ⟨v, rfl⟩ := natI y0
    generalize hm2 : put μ1 a (.well (b' - 1 - 1)) = μ2
    have hw2 : μ2 a = some (.well (b' - 1 - 1)) := by rw [← hm2, put_same]
    have hl2 : μ2 p = some (.lst (natL ws)) := by rw [← hm2, put_ne hpa]; exact hl1
    walk_at "pks"
    refine ⟨p, _, _, j, rfl, hl2, rfl, ixn (by rw [List.length_map]; exact hj), ?_⟩
    walk_at "pks"
    refine ⟨⟨rfl, rfl, rfl, rfl, trivial⟩, b' - 1 - 1, ws.set j (ws[j] + 1 + v), ?_, ?_, by simp [len], ?_, by omega⟩
    · show put μ2 p _ a = _
      rw [put_ne hap]; exact hw2
    · show put μ2 p _ p = _
      rw [put_same, ← set_natL]
      congr 3
    · have := sum_setH (v := ws[j] + 1 + v) hj
      omega
  · rintro s' hs' ⟨b', ws, hw, hl, len, hs, hbb⟩
    refine seqK_wk hs' ?_
    obtain ⟨r', m'⟩ := s'
    dsimp only at hw hl ⊢
    have c9 : c'.toNat ≤ 3 := by omega
    -- the way with all drawn, or not
    have rest : ∀ (p' : Addr) (μ : Mu) (b' : Nat) (ws : List Nat), p' ≠ a → μ a = some (.well b') → μ p' = some (.lst (natL ws)) → ws.length = n → ws.sum ≤ 150 → b ≤ b' + 30 →
        SV T (tSeq (tIfS (tTest (tOp rEq (tCB (rSum T.K) (tCons (tVar 3) tNil)) (tC (.int 0)))) (tAsg (tC (.int 1)) (gSub (tVar 3) (tCall (spOf T (wl (c_Ldraw T))) [] E0 (tCons (tVar 0) (tCons (tVar 1) tNil))) rSetL)) tNext)
          (tRet (tLc (iList T.K (tVar 3)) (gName 6) tYes (tCall (spOf T (pu (c_Llow T))) [] E0 (tCons (tVar 6) (tCons (tCB (rSum T.K) (tCons (tVar 3) tNil)) tNil))) [6]))) (fun cls dd _ H => E cls dd H) ⟨[some (.ptr a), some (.int n), some (.int way), some (.ptr p'), none, none, none, none], μ⟩ (fnK P XP) := by
      intro p' μ b' ws hpa hw hl len hs hbb
      have fin : ∀ (μ : Mu) (b' : Nat) (ws : List Nat), μ a = some (.well b') → μ p' = some (.lst (natL ws)) → ws.length = n → 0 < ws.sum → ws.sum ≤ 200 → b ≤ b' + 40 →
          SV T (tRet (tLc (iList T.K (tVar 3)) (gName 6) tYes (tCall (spOf T (pu (c_Llow T))) [] E0 (tCons (tVar 6) (tCons (tCB (rSum T.K) (tCons (tVar 3) tNil)) tNil))) [6])) (fun cls dd _ H => E cls dd H) ⟨[some (.ptr a), some (.int n), some (.int way), some (.ptr p'), none, none, none, none], μ⟩ (fnK P XP) := by
        intro μ b' ws hw hl len h0 hs hbb
        refine sv_frz (i := 3) (a := p') rfl hl ?_
        have hwd : Pw.del μ p' a = some (.well b') := by
          unfold Pw.del
          rw [if_neg (fun e => hpa e.symm)]
          exact hw
        refine sv_ret (ev_wlo (a := a) ?_)
        refine ev_lcF ?_
        walk_at "pks"
        refine ⟨_, fun d => match d with
          | .int i => prD (Rat.divInt i (ws.sum : Int))
          | d => d, .inl rfl, by rw [List.length_map]; omega, fun e he => ?_, b', hwd, ?_⟩
        · obtain ⟨w, hw', rfl⟩ := List.mem_map.1 he
          walk_at "pks"
          refine cv_sum (ns := ws.map fun (w : Nat) => (w : Int)) (.inl (by rw [← natL_int])) ?_
          rw [sum_castH]
          walk_at "pks"
          exact low_i (by omega) (bt4 (by omega)) ⟨rfl, rfl⟩
        · rw [List.map_map]
          have e : ws.map ((fun d => match d with
              | .int i => prD (Rat.divInt i (ws.sum : Int))
              | d => d) ∘ fun (w : Nat) => D.int (w : Int)) = (ws.map fun (w : Nat) => Rat.divInt (w : Int) (ws.sum : Int)).map prD := by
            rw [List.map_map]
            exact List.map_congr_left fun w _ => rfl
          rw [e]
          exact hP _ _ (k ws b' len h0 hs (by omega))
      walk_at "pks"
      refine cv_sumM (ns := ws.map fun (w : Nat) => (w : Int)) (by rw [← natL_int]; exact hl) ?_
      rw [sum_castH]
      walk_at "pks"
      refine ⟨fun h0 => ?_, fun h0 => ?_⟩
      · walk_at "pks"
        refine sv_setL ?_
        walk_at "pks"
        refine ⟨a, b', _, _, rfl, (put_get hw).symm, draw_i (by omega) (by omega) (bt4 (by omega)) fun x x0 x1 => ?_⟩
        obtain ⟨j, rfl⟩ := natI x0
        have hj : j < ws.length := by omega
        refine ⟨p', _, _, j, rfl, by rw [put_ne hpa]; exact hl, rfl, ixn (by rw [List.length_map]; exact hj), ?_⟩
        have hz : ws.sum = 0 := by
          have := of_decide_eq_true h0
          omega
        have hset := sum_setH (v := 1) hj
        refine seqK_nx (fin _ (b' - 1) (ws.set j 1) ?_ ?_ (by simp [len]) ?_ (by omega) (by omega))
        · rw [put_ne (fun e => hpa e.symm), put_same]
        · rw [put_same, ← set_natL]; rfl
        · have : ws[j] ≤ ws.sum := le_sumH _ _ (List.getElem_mem hj)
          omega
      · have hz : ws.sum ≠ 0 := by
          intro e
          rw [e] at h0
          cases h0
        exact sv_next (seqK_nx (fin μ b' ws hw hl len (by omega) (by omega) (by omega)))
    walk_at "pks"
    refine ⟨fun h3 => ?_, fun h3 => ?_⟩
    · walk_at "pks"
      refine ev_lcM (is := [7]) (fun _ h => h) (iv_rng1 ?_)
      walk_at "pks"
      refine ⟨by omega, by omega, by omega, fun i acc μ => ∃ (b2 : Nat) (ws : List Nat), acc = natL ws ∧ ws.length = i ∧ ws.sum ≤ 12 * i ∧ μ a = some (.well b2) ∧ b' ≤ b2 + i, ⟨b', [], rfl, rfl, by simp, hw, by omega⟩, ?_, ?_⟩
      · rintro i acc μ hi _ ⟨b2, ws, rfl, len2, hs2, hw2, hb2⟩
        refine gv_name ?_
        walk_at "pks"
        refine ⟨a, b2, _, _, rfl, (put_get hw2).symm, draw_i (by omega) (by decide) (bt4 (by decide)) fun x x0 x1 => ?_⟩
        obtain ⟨j, rfl⟩ := natI x0
        refine ⟨b2 - 1, ws ++ [j], by simp, by simp [len2], by rw [List.sum_append]; simp; omega, put_same, by omega⟩
      · rintro acc μ p2 ⟨b2, ws, rfl, len2, hs2, hw2, hb2⟩ _ hp2
        have hpa2 : p2 ≠ a := fun e => by rw [e, hw2] at hp2; cases hp2
        refine seqK_nx (rest p2 _ b2 ws hpa2 ?_ put_same (by omega) (by omega) (by omega))
        rw [put_ne (fun e => hpa2 e.symm)]; exact hw2
    · exact sv_next (seqK_nx (rest p m' b' ws hpa hw hl len (by omega) (by omega)))
theorem rows_of {n : Nat} {R : Rat → Prop} {acc : List D} (h : ∀ (k : Nat) (x : D), acc[k]? = some x → ∃ q, x = prD q ∧ R q) : ∃ qs : List Rat, acc = qs.map prD ∧ ∀ q ∈ qs, R q := by
  induction acc with
  | nil => exact ⟨[], rfl, by simp⟩
  | cons x xs ih =>
    obtain ⟨q, e, hq⟩ := h 0 x rfl
    obtain ⟨qs, e2, h4⟩ := ih fun k y hy => h (k + 1) y hy
    refine ⟨q :: qs, by rw [e, e2]; rfl, fun p hp => ?_⟩
    rcases List.mem_cons.1 hp with rfl | hp
    · exact hq
    · exact h4 p hp
theorem rows2_of {R : List Rat → Prop} {acc : List D} (h : ∀ (k : Nat) (x : D), acc[k]? = some x → ∃ r : List Rat, x = .lst (r.map prD) ∧ R r) : ∃ rs : List (List Rat), acc = (rs.map fun r => D.lst (r.map prD)) ∧ ∀ r ∈ rs, R r := by
  induction acc with
  | nil => exact ⟨[], rfl, by simp⟩
  | cons x xs ih =>
    obtain ⟨q, e, hq⟩ := h 0 x rfl
    obtain ⟨qs, e2, h4⟩ := ih fun k y hy => h (k + 1) y hy
    refine ⟨q :: qs, by rw [e, e2]; rfl, fun p hp => ?_⟩
    rcases List.mem_cons.1 hp with rfl | hp
    · exact hq
    · exact h4 p hp
end Far
namespace Far
open PySem PySem.Spec PyProof.Rows L2 Pw Cg
open FM (Bq)
structure CaOk (T : Cfg) : Prop where
  sh : ShOk T
  cl : Cls T.K (T.cls 2)
  n1 : NoAttr T.K (T.cls 2) "costs"
  n2 : NoAttr T.K (T.cls 2) "have"
  n3 : NoAttr T.K (T.cls 2) "want"
  n4 : NoAttr T.K (T.cls 2) "carried"
def cmD (cm : List (List Int)) : D := .lst (cm.map fun r => .lst (r.map D.int))
def carF (cm : List (List Int)) (h w c : Addr) : List (Str × D) := [("costs", cmD cm), ("have", .ptr h), ("want", .ptr w), ("carried", .ptr c)]
def tabI (X : List Nat) (f : Nat → Int) : List (Key × D) := tab X kI fun x => .int (f x)
def prs (g : G) : List (Nat × Nat) := g.X.flatMap fun x => g.Y.map fun y => (x, y)
def tab2 (g : G) : List (List Key × D) := tab (prs g) k2 fun p => .int (g.f p.1 p.2)
theorem mem_prs {g : G} {x y : Nat} : (x, y) ∈ prs g ↔ x ∈ g.X ∧ y ∈ g.Y := by
  unfold prs
  rw [List.mem_flatMap]
  constructor
  · rintro ⟨a, ha, h⟩
    obtain ⟨b, hb, e⟩ := List.mem_map.1 h
    cases e
    exact ⟨ha, hb⟩
  · rintro ⟨ha, hb⟩
    exact ⟨x, ha, List.mem_map.2 ⟨y, hb, rfl⟩⟩
structure CS (cm : List (List Int)) (g : G) : Prop where
  xn : g.X.Nodup
  yn : g.Y.Nodup
  x12 : ∀ x ∈ g.X, x < 12
  y12 : ∀ y ∈ g.Y, y < 12
  at_ : ∀ x y, x ∈ g.X → y ∈ g.Y → ∃ row, cm[x]? = some row ∧ row[y]? = some (g.c x y)
theorem CS.lx {cm : List (List Int)} {g : G} (h : CS cm g) : g.X.length ≤ 12 := by
  have := nodup_len (ks := List.range 12) h.xn fun x hx => List.mem_range.2 (h.x12 x hx)
  simpa using this
theorem CS.ly {cm : List (List Int)} {g : G} (h : CS cm g) : g.Y.length ≤ 12 := by
  have := nodup_len (ks := List.range 12) h.yn fun x hx => List.mem_range.2 (h.y12 x hx)
  simpa using this
theorem prs_len (g : G) : (prs g).length = g.X.length * g.Y.length := by
  unfold prs
  rw [List.length_flatMap]
  induction g.X with
  | nil => simp
  | cons x X ih => rw [List.map_cons, List.sum_cons, ih, List.length_map, List.length_cons, Nat.succ_mul]; omega
theorem CS.lp {cm : List (List Int)} {g : G} (h : CS cm g) : (prs g).length ≤ 144 := by
  rw [prs_len]
  exact Nat.mul_le_mul h.lx h.ly
structure CM (μ : Mu) (s h w c : Addr) (cm : List (List Int)) (g : G) (hv wv : Nat → Int) : Prop where
  self : μ s = some (.ins 2 (carF cm h w c))
  hav : μ h = some (.dK (tabI g.X hv))
  wan : μ w = some (.dK (tabI g.Y wv))
  car : μ c = some (.dT (tab2 g))
  hw : h ≠ w
theorem CM.sh {μ : Mu} {s h w c : Addr} {cm : List (List Int)} {g : G} {hv wv : Nat → Int} (m : CM μ s h w c cm g hv wv) : s ≠ h := fun e => by
  have := m.self; rw [e, m.hav] at this; cases this
theorem CM.sw {μ : Mu} {s h w c : Addr} {cm : List (List Int)} {g : G} {hv wv : Nat → Int} (m : CM μ s h w c cm g hv wv) : s ≠ w := fun e => by
  have := m.self; rw [e, m.wan] at this; cases this
theorem CM.ch {μ : Mu} {s h w c : Addr} {cm : List (List Int)} {g : G} {hv wv : Nat → Int} (m : CM μ s h w c cm g hv wv) : c ≠ h := fun e => by
  have := m.car; rw [e, m.hav] at this; cases this
theorem CM.cw {μ : Mu} {s h w c : Addr} {cm : List (List Int)} {g : G} {hv wv : Nat → Int} (m : CM μ s h w c cm g hv wv) : c ≠ w := fun e => by
  have := m.car; rw [e, m.wan] at this; cases this
theorem CM.cs {μ : Mu} {s h w c : Addr} {cm : List (List Int)} {g : G} {hv wv : Nat → Int} (m : CM μ s h w c cm g hv wv) : c ≠ s := fun e => by
  have := m.car; rw [e, m.self] at this; cases this
def wayD (e : N × Int) : D := .tup [.key (k2 e.1), .int e.2]
def c_Carrying_ways_on (T : Cfg) : Ct := fun ds μ P _ => ∃ (s h w c : Addr) (cm : List (List Int)) (g : G) (hv wv : Nat → Int) (n : N), ds = [.ptr s, .key (k2 n)] ∧ CM μ s h w c cm g hv wv ∧ CS cm g ∧ V g n ∧ P (.lst ((ways g n).map wayD)) μ
theorem len_Carrying_ways_on {T : Cfg} : ∀ ds μ P XP, c_Carrying_ways_on T ds μ P XP → ds.length = 2 := by
  rintro ds μ P XP ⟨s, h, w, c, cm, g, hv, wv, n, rfl, _⟩; rfl
def t_Carrying_ways_on (T : Cfg) (E : XK) : TS := (tSeq (tAsg (tVar 1) (gTup T.K 2 (gCons (gName 2) (gCons (gName 3) gNil))))
    (tSeq (tIfS (tTest (tOp rEq (tVar 2) (tC (.int 0)))) (tRet (tLockE (tLc (iKeys (tFld T.K (tVar 0) "want")) (gName 5) tYes (tTup (tCons (tTup (tCons (tC (.int 1)) (tCons (tVar 5) tNil))) (tCons (tOp (rIxL T.K) (tOp (rIxL T.K) (tFld T.K (tVar 0) "costs") (tVar 3)) (tVar 5)) tNil))) [5]))) tNext)
    (tRet (tLockE (tLc (iKeys (tFld T.K (tVar 0) "have")) (gName 4) (tTest (tOp (rI0 fun i j => .bl (decide (j < i))) (tDGet (tFld T.K (tVar 0) "carried") (tTup (tCons (tVar 4) (tCons (tVar 3) tNil)))) (tC (.int 0)))) (tTup (tCons (tTup (tCons (tC (.int 0)) (tCons (tVar 4) tNil))) (tCons (tOp (rI0 fun i j => .int (i - j)) (tC (.int 0)) (tOp (rIxL T.K) (tOp (rIxL T.K) (tFld T.K (tVar 0) "costs") (tVar 4)) (tVar 3))) tNil))) [4])))))
section
variable {T : Cfg} {W : WX} {ρ : List (Option D)} {m0 μ : Mu} {P : D → Mu → Prop} {XP : XW}
theorem ev_sf {f : Str} {e : D} {s : Addr} {gs : List (Str × D)} (hT : CaOk T) (hv : ρ[0]? = some (some (.ptr s))) (hs : m0 s = some (.ins 2 gs)) (hl : gs.lookup f = some e) (hf : NoAttr T.K (T.cls 2) f) (p : P e m0) : EV T (tFld T.K (tVar 0) f) W ⟨ρ, m0⟩ P XP :=
  ev_fldM (ev_var hv ⟨s, 2, gs, e, rfl, hs, hT.cl, hf, hl, p⟩)
end
theorem at_n {ds : List D} {k : Nat} {a : D} (h : ds[k]? = some a) : atI ds (k : Int) = some a := by
  have hk : k < ds.length := (List.getElem?_eq_some_iff.mp h).1
  unfold atI
  rw [ixn hk]
  exact h
theorem tabI_at {X : List Nat} {f : Nat → Int} {k : Nat} (h : k < X.length) : kD ((((tabI X f)[k]?).map Prod.fst).getD (.inl 0)) = .int ((X[k] : Nat) : Int) := by
  unfold tabI tab
  rw [List.getElem?_map, List.getElem?_eq_getElem h]
  rfl
theorem tabI_len (X : List Nat) (f : Nat → Int) : (tabI X f).length = X.length := by simp [tabI, tab]
theorem tabI_look {X : List Nat} (f : Nat → Int) {x : Nat} (hx : x ∈ X) : lookD (tabI X f) (kI x) = some (.int (f x)) := by
  unfold tabI
  rw [tab_look kI_inj, if_pos hx]
theorem tab2_look {g : G} {x y : Nat} (hx : x ∈ g.X) (hy : y ∈ g.Y) : lookD (tab2 g) (k2 (x, y)) = some (.int (g.f x y)) := by
  unfold tab2
  rw [tab_look k2_inj', if_pos (mem_prs.2 ⟨hx, hy⟩)]
theorem fm_filter {α β γ : Type} (p : α → Bool) (f : α → β) (d : β → γ) : ∀ l : List α, ((l.filter p).map f).map d = l.filterMap fun a => if p a = true then some (d (f a)) else none := by
  intro l
  induction l with
  | nil => rfl
  | cons a l ih =>
    rw [List.filter_cons, List.filterMap_cons]
    by_cases h : p a = true
    · rw [if_pos h, if_pos h, List.map_cons, List.map_cons, ih]
    · rw [if_neg h, if_neg h, ih]
theorem fm_one {β : Type} (n : Nat) (g : Nat → Option β) : [n].filterMap g = (g n).toList := by
  rw [List.filterMap_cons]
  cases g n <;> rfl
theorem range_fm {α β : Type} (l : List α) (f : α → Option β) (g : Nat → Option β) (h : ∀ (k : Nat) (hk : k < l.length), g k = f l[k]) : (List.range l.length).filterMap g = l.filterMap f := by
  have key : ∀ n, n ≤ l.length → (List.range n).filterMap g = (l.take n).filterMap f := by
    intro n
    induction n with
    | zero => intro _; simp
    | succ n ih =>
      intro hn
      rw [List.range_succ, List.filterMap_append, ih (by omega), List.take_succ, List.getElem?_eq_getElem (by omega), List.filterMap_append, fm_one, h n (by omega), Option.toList_some, List.filterMap_cons]
      cases f l[n] <;> rfl
  rw [key _ (Nat.le_refl _), List.take_length]
theorem fm_congr {α β : Type} {f g : α → Option β} : ∀ {l : List α}, (∀ a ∈ l, f a = g a) → l.filterMap f = l.filterMap g := by
  intro l
  induction l with
  | nil => intro _; rfl
  | cons a l ih =>
    intro h
    rw [List.filterMap_cons, List.filterMap_cons, h a (by simp), ih fun b hb => h b (by simp [hb])]
theorem pure_Carrying_ways_on {T : Cfg} (hT : CaOk T) : ∀ E ds μ P XP, c_Carrying_ways_on T ds μ P XP → SV T (t_Carrying_ways_on T E) (fun cls dd _ H => E cls dd H) ⟨slots 6 ds, μ⟩ (fnK P XP) := by
  rintro E ds μ P XP ⟨s, h, w, c, cm, g, hv, wv, n, rfl, m, cs, hn, p⟩
  have hS := hT.sh
  obtain ⟨n0, n1⟩ := n
  unfold t_Carrying_ways_on
  refine sv_seq (sv_asg2 (ev_keyT ?_))
  walk_at "pks"
  refine ⟨k2 (n0, n1), rfl, .int (n0 : Int), .int (n1 : Int), rfl, ?_⟩
  walk_at "pks"
  have hx := cs.lx
  have hy := cs.ly
  refine ⟨fun q => ?_, fun q => ?_⟩
  · have q : n0 = 0 := by have := of_decide_eq_true q; omega
    subst q
    have hn1 : n1 ∈ g.X := by
      rcases hn with ⟨_, h1⟩ | ⟨h0, _⟩
      · exact h1
      · exact absurd h0 (show ¬ (0 : Nat) = 1 by decide)
    refine sv_ret (ev_lockE (d := w) m.wan fun o => ?_)
    refine ev_lcKX (iv_keysD ?_)
    refine ev_sf hT rfl (by rw [put_ne m.sw]; exact m.self) rfl hT.n3 ?_
    refine ⟨w, _, o, rfl, put_same, by rw [tabI_len]; omega, put_same, fun k => (g.Y[k]?).map fun y => wayD ((1, y), g.c n1 y), fun k hk => ?_, put_same, ?_⟩
    · have hk : k < g.Y.length := by rw [tabI_len] at hk; exact hk
      dsimp only
      rw [tabI_at hk]
      obtain ⟨row, r1, r2⟩ := cs.at_ n1 g.Y[k] hn1 (List.getElem_mem hk)
      refine tv_yes ⟨rfl, fun _ => ?_, fun h => (by cases h)⟩
      refine ev_tup (ea_cons (ev_tupK ?_))
      walk_at "pks"
      refine ⟨k2 (1, g.Y[k]), rfl, by simp [k2], ?_⟩
      refine ea_cons (ev_op (ev_op (ev_sf hT rfl (by rw [put_ne m.sw]; exact m.self) rfl hT.n1 ?_)))
      walk_at "pks"
      refine ov_ixL (.inl rfl) (at_n (k := n1) (a := .lst (row.map D.int)) (by rw [List.getElem?_map, r1]; rfl)) ?_
      walk_at "pks"
      refine ov_ixL (.inl rfl) (at_n (k := g.Y[k]) (a := .int (g.c n1 g.Y[k])) (by rw [List.getElem?_map, r2]; rfl)) ?_
      walk_at "pks"
      refine ⟨?_, rfl⟩
      rw [List.getElem?_eq_getElem hk]
      rfl
    · rw [put_put, put_get m.wan, tabI_len]
      have e : (List.range g.Y.length).filterMap (fun k => (g.Y[k]?).map fun y => wayD ((1, y), g.c n1 y)) = (ways g (0, n1)).map wayD := by
        rw [range_fm g.Y (fun y => some (wayD ((1, y), g.c n1 y))) _ fun k hk => by rw [List.getElem?_eq_getElem hk]; rfl]
        unfold ways
        rw [if_pos rfl, List.map_map]
        exact fm_mapH (fun y => wayD ((1, y), g.c n1 y)) g.Y
      rw [e]
      exact p
  · have q : ¬ n0 = 0 := by have := of_decide_eq_false q; omega
    have hn1 : n0 = 1 ∧ n1 ∈ g.Y := by
      rcases hn with ⟨h0, _⟩ | h1
      · exact absurd h0 q
      · exact h1
    obtain ⟨hn0, hn1⟩ := hn1
    subst hn0
    walk_at "pks"
    refine ev_lockE (d := h) m.hav fun o => ?_
    refine ev_lcKX (iv_keysD ?_)
    refine ev_sf hT rfl (by rw [put_ne m.sh]; exact m.self) rfl hT.n2 ?_
    refine ⟨h, _, o, rfl, put_same, by rw [tabI_len]; omega, put_same, fun k => (g.X[k]?).bind fun x => if 0 < g.f x n1 then some (wayD ((0, x), 0 - g.c x n1)) else none, fun k hk => ?_, put_same, ?_⟩
    · have hk : k < g.X.length := by rw [tabI_len] at hk; exact hk
      dsimp only
      rw [tabI_at hk]
      obtain ⟨row, r1, r2⟩ := cs.at_ g.X[k] n1 (List.getElem_mem hk) hn1
      refine tv_test (ev_op (ev_dgetOT (ev_sf hT rfl (by rw [put_ne m.sh]; exact m.self) rfl hT.n4 (ev_tupK ?_))))
      walk_at "pks"
      refine ⟨k2 (g.X[k], n1), rfl, by simp [k2], c, _, _, _, rfl, by rw [put_ne m.ch]; exact m.car, rfl, tab2_look (List.getElem_mem hk) hn1, ?_⟩
      walk_at "pks"
      refine ⟨rfl, fun hp => ?_, fun hp => ?_⟩
      · have hp := of_decide_eq_true hp
        refine ev_tup (ea_cons (ev_tupK ?_))
        walk_at "pks"
        refine ⟨k2 (0, g.X[k]), rfl, by simp [k2], ?_⟩
        refine ea_cons (ev_op ?_)
        walk_at "pks"
        refine ev_sf hT rfl (by rw [put_ne m.sh]; exact m.self) rfl hT.n1 ?_
        walk_at "pks"
        refine ov_ixL (.inl rfl) (at_n (k := g.X[k]) (a := .lst (row.map D.int)) (by rw [List.getElem?_map, r1]; rfl)) ?_
        walk_at "pks"
        refine ov_ixL (.inl rfl) (at_n (k := n1) (a := .int (g.c g.X[k] n1)) (by rw [List.getElem?_map, r2]; rfl)) ?_
        walk_at "pks"
        refine ⟨?_, rfl⟩
        rw [List.getElem?_eq_getElem hk]
        show (if 0 < g.f g.X[k] n1 then some (wayD ((0, g.X[k]), 0 - g.c g.X[k] n1)) else none) = _
        rw [if_pos hp]
        rfl
      · have hp := of_decide_eq_false hp
        rw [List.getElem?_eq_getElem hk]
        exact if_neg hp
    · rw [put_put, put_get m.hav, tabI_len]
      have e : (List.range g.X.length).filterMap (fun k => (g.X[k]?).bind fun x => if 0 < g.f x n1 then some (wayD ((0, x), 0 - g.c x n1)) else none) = (ways g (1, n1)).map wayD := by
        rw [range_fm g.X (fun x => if 0 < g.f x n1 then some (wayD ((0, x), 0 - g.c x n1)) else none) _ fun k hk => by rw [List.getElem?_eq_getElem hk]; rfl]
        unfold ways
        rw [if_neg (show ¬ (1 : Nat) = 0 by decide), fm_filter]
        refine fm_congr fun x _ => ?_
        by_cases hp : 0 < g.f x n1
        · rw [if_pos hp, if_pos (decide_eq_true hp)]
        · rw [if_neg hp, if_neg (by simpa using hp)]
      rw [e]
      exact p
end Far
namespace Far
open PySem PySem.Spec PyProof.Rows L2 Pw Cg
open FM (Bq)
section
variable {α β κ : Type} [DecidableEq α] [DecidableEq κ]
def encL (e : α → κ) (f : β → D) (l : List (α × β)) : List (κ × D) := l.map fun z => (e z.1, f z.2)
theorem enc_look {e : α → κ} (he : ∀ a b, e a = e b → a = b) (f : β → D) (k : α) : ∀ l : List (α × β), lookD (encL e f l) (e k) = (lookD l k).map f := by
  intro l
  induction l with
  | nil => rfl
  | cons z l ih =>
    show lookD ((e z.1, f z.2) :: encL e f l) (e k) = _
    rw [lookD_cons, lookD_cons, ih]
    by_cases h : z.1 = k
    · rw [if_pos h, if_pos (by rw [h])]; rfl
    · rw [if_neg h, if_neg (fun q => h (he _ _ q))]
theorem enc_put {e : α → κ} (he : ∀ a b, e a = e b → a = b) (f : β → D) (k : α) (v : β) (l : List (α × β)) : putD (encL e f l) (e k) (f v) = encL e f (putD l k v) := by
  have hk : (e k ∈ (encL e f l).map Prod.fst) ↔ k ∈ l.map Prod.fst := by
    unfold encL
    rw [List.map_map]
    constructor
    · intro h
      obtain ⟨z, hz, q⟩ := List.mem_map.1 h
      exact List.mem_map.2 ⟨z, hz, he _ _ q⟩
    · intro h
      obtain ⟨z, hz, q⟩ := List.mem_map.1 h
      exact List.mem_map.2 ⟨z, hz, by rw [← q]; rfl⟩
  unfold putD
  by_cases h : k ∈ l.map Prod.fst
  · rw [if_pos h, if_pos (hk.2 h)]
    unfold encL
    rw [List.map_map, List.map_map]
    refine List.map_congr_left fun z _ => ?_
    show (e z.1, if e z.1 = e k then f v else f z.2) = (e z.1, f (if z.1 = k then v else z.2))
    by_cases q : z.1 = k
    · rw [if_pos q, if_pos (by rw [q])]
    · rw [if_neg q, if_neg (fun r => q (he _ _ r))]
  · rw [if_neg h, if_neg (fun q => h (hk.1 q))]
    unfold encL
    rw [List.map_append]
    rfl
theorem enc_len (e : α → κ) (f : β → D) (l : List (α × β)) : (encL e f l).length = l.length := by simp [encL]
theorem putD_nd {sp : List (α × β)} {t : α} {n : β} (hn : (sp.map Prod.fst).Nodup) : ((putD sp t n).map Prod.fst).Nodup := by
  rw [putD_keys]
  split
  · exact hn
  · rename_i h
    rw [List.nodup_append]
    exact ⟨hn, by simp, fun a ha b hb e => h (by rw [List.mem_singleton] at hb; rw [← hb, ← e]; exact ha)⟩
end
abbrev foD (l : List (N × Int)) : List (List Key × D) := encL k2 D.int l
abbrev ahD (l : List (N × N)) : List (List Key × D) := encL k2 (fun n => D.key (k2 n)) l
abbrev nsD (l : List N) : List D := l.map fun n => D.key (k2 n)
def c_Carrying_led_from (T : Cfg) : Ct := fun ds μ P _ => ∃ (s h w c : Addr) (cm : List (List Int)) (g : G) (hv wv : Nat → Int) (B : List N), ds = [.ptr s, .lst (nsD B)] ∧ CM μ s h w c cm g hv wv ∧ CS cm g ∧ (∀ b ∈ B, V g b) ∧ B.Nodup ∧ (∃ p, Pot g p) ∧
  ∀ (μ' : Mu) (fo ah : Addr) (st : L), CM μ' s h w c cm g hv wv → μ' fo = some (.dT (foD st.fo)) → μ' ah = some (.dT (ahD st.ah)) → Fin g B st → P (.tup [.ptr fo, .ptr ah]) μ'
theorem len_Carrying_led_from {T : Cfg} : ∀ ds μ P XP, c_Carrying_led_from T ds μ P XP → ds.length = 2 := by
  rintro ds μ P XP ⟨s, h, w, c, cm, g, hv, wv, B, rfl, _⟩; rfl
def t_Carrying_led_from (T : Cfg) (E : XK) : TS := (tSeq (tAsg (tCB (rDictTM T.K) (tCons (tLc (iList T.K (tVar 1)) (gName 5) tYes (tTup (tCons (tVar 5) (tCons (tC (.int 0)) tNil))) [5]) tNil)) (gName 2))
    (tSeq (tAsg tDNewT (gName 3))
    (tSeq (tAsg (tCB (rListOf T.K) (tCons (tVar 1) tNil)) (gName 4))
    (tSeq (tWhile (tTest (tOp (rNeD T.K) (tVar 4) (tLst tNil))) (tSeq (tAsg (tBM T.K "list" rPopAt (tVar 4) (tCons (tC (.int 0)) tNil)) (gName 5))
    (tFor (iList T.K (tMeth (T.cls 2) "ways_on" (spOf T (c_Carrying_ways_on T)) [] E0 (tVar 0) (tCons (tVar 5) tNil))) (gTup T.K 2 (gCons (gName 6) (gCons (gName 7) gNil))) (tIfS (tOr (tB (tDNotIn (tVar 6) (tVar 2))) (tTest (tOp (rI0 fun i j => .bl (decide (i < j))) (tOp (rI0 fun i j => .int (i + j)) (tDGet (tVar 2) (tVar 5)) (tVar 7)) (tDGet (tVar 2) (tVar 6))))) (tSeq (sDPut (tVar 2) (tVar 6) (tOp (rI0 fun i j => .int (i + j)) (tDGet (tVar 2) (tVar 5)) (tVar 7)))
    (tSeq (sDPut (tVar 3) (tVar 6) (tVar 5))
    (tIfS (tTest (tOp (rInD T.K true) (tVar 6) (tVar 4))) (tDrop (tBM T.K "list" rAppend (tVar 4) (tCons (tVar 6) tNil))) tNext))) tNext))))
    (tRet (tTup (tCons (tVar 2) (tCons (tVar 3) tNil))))))))
theorem CM.put {μ : Mu} {s h w c a : Addr} {cm : List (List Int)} {g : G} {hv wv : Nat → Int} {z : MO} (m : CM μ s h w c cm g hv wv) (h1 : s ≠ a) (h2 : h ≠ a) (h3 : w ≠ a) (h4 : c ≠ a) : CM (put μ a z) s h w c cm g hv wv :=
  ⟨by rw [put_ne h1]; exact m.self, by rw [put_ne h2]; exact m.hav, by rw [put_ne h3]; exact m.wan, by rw [put_ne h4]; exact m.car, m.hw⟩
theorem CM.fresh {μ : Mu} {s h w c a : Addr} {cm : List (List Int)} {g : G} {hv wv : Nat → Int} (m : CM μ s h w c cm g hv wv) (ha : μ a = none) : s ≠ a ∧ h ≠ a ∧ w ≠ a ∧ c ≠ a :=
  ⟨fun e => (by have := m.self; rw [e, ha] at this; cases this), fun e => (by have := m.hav; rw [e, ha] at this; cases this), fun e => (by have := m.wan; rw [e, ha] at this; cases this), fun e => (by have := m.car; rw [e, ha] at this; cases this)⟩
structure LM (μ : Mu) (c fo ah wa : Addr) (st : L) : Prop where
  gf : μ fo = some (.dT (foD st.fo))
  ga : μ ah = some (.dT (ahD st.ah))
  gw : μ wa = some (.lst (nsD st.wa))
  n1 : fo ≠ ah
  n2 : fo ≠ c
  n3 : ah ≠ c
  d1 : (st.fo.map Prod.fst).Nodup
  d2 : (st.ah.map Prod.fst).Nodup
  d3 : st.wa.Nodup
section
variable {μ : Mu} {s h w c fo ah wa : Addr} {cm : List (List Int)} {g : G} {hv wv : Nat → Int} {st : L}
theorem LM.apart (l : LM μ c fo ah wa st) (m : CM μ s h w c cm g hv wv) : (s ≠ fo ∧ h ≠ fo ∧ w ≠ fo ∧ c ≠ fo) ∧ (s ≠ ah ∧ h ≠ ah ∧ w ≠ ah ∧ c ≠ ah) ∧ (s ≠ wa ∧ h ≠ wa ∧ w ≠ wa ∧ c ≠ wa) ∧ wa ≠ fo ∧ wa ≠ ah := by
  refine ⟨⟨fun e => ?_, fun e => ?_, fun e => ?_, fun e => l.n2 e.symm⟩, ⟨fun e => ?_, fun e => ?_, fun e => ?_, fun e => l.n3 e.symm⟩, ⟨fun e => ?_, fun e => ?_, fun e => ?_, fun e => ?_⟩, fun e => ?_, fun e => ?_⟩
  · have := m.self; rw [e, l.gf] at this; cases this
  · have := m.hav; rw [e, l.gf] at this; cases this
  · have := m.wan; rw [e, l.gf] at this; cases this
  · have := m.self; rw [e, l.ga] at this; cases this
  · have := m.hav; rw [e, l.ga] at this; cases this
  · have := m.wan; rw [e, l.ga] at this; cases this
  · have := m.self; rw [e, l.gw] at this; cases this
  · have := m.hav; rw [e, l.gw] at this; cases this
  · have := m.wan; rw [e, l.gw] at this; cases this
  · have := m.car; rw [e, l.gw] at this; cases this
  · have := l.gw; rw [e, l.gf] at this; cases this
  · have := l.gw; rw [e, l.ga] at this; cases this
theorem keys_le {β : Type} {l : List (N × β)} (hn : (l.map Prod.fst).Nodup) (cs : CS cm g) (hV : ∀ v ∈ l.map Prod.fst, V g v) : l.length ≤ 24 := by
  have := nodup_len (ks := Vl g) hn fun v hv => mem_Vl.2 (hV v hv)
  have hl : (Vl g).length = g.X.length + g.Y.length := by unfold Vl; simp
  rw [hl, List.length_map] at this
  have := cs.lx
  have := cs.ly
  omega
theorem LI.fo_le {p : N → Int} {P : Int} {B : List N} {cu : N} {es : List (N × Int)} (i : LI g p P B cu es st) (cs : CS cm g) (hn : (st.fo.map Prod.fst).Nodup) : st.fo.length ≤ 24 := keys_le hn cs fun v hv => i.dom v (lookD_isSome.2 hv)
theorem LI.ah_le {p : N → Int} {P : Int} {B : List N} {cu : N} {es : List (N × Int)} (i : LI g p P B cu es st) (cs : CS cm g) (hn : (st.ah.map Prod.fst).Nodup) : st.ah.length ≤ 24 := keys_le hn cs fun v hv => by
  obtain ⟨u, hu⟩ := Option.isSome_iff_exists.1 (lookD_isSome.2 hv)
  exact i.dom v (i.pre v u hu).2.1
theorem LI.wa_le {p : N → Int} {P : Int} {B : List N} {cu : N} {es : List (N × Int)} (i : LI g p P B cu es st) (cs : CS cm g) (hn : st.wa.Nodup) : st.wa.length ≤ 24 := by
  have := nodup_len (ks := Vl g) hn fun v hv => mem_Vl.2 (i.dom v (i.wad v hv))
  have hl : (Vl g).length = g.X.length + g.Y.length := by unfold Vl; simp
  rw [hl] at this
  have := cs.lx
  have := cs.ly
  omega
theorem In.look {v : N} (h : In st v) : lookD (foD st.fo) (k2 v) = some (.int (lab st v)) := by
  rw [enc_look k2_inj']
  obtain ⟨x, hx⟩ := Option.isSome_iff_exists.1 h
  unfold lab
  rw [hx]
  rfl
theorem fo_some (v : N) : (lookD (foD st.fo) (k2 v)).isSome = (lookD st.fo v).isSome := by
  rw [enc_look k2_inj', Option.isSome_map]
theorem set_nd3 {u : N} {e : N × Int} (h : st.wa.Nodup) : (setL u st e).wa.Nodup := by
  show (if e.1 ∈ st.wa then st.wa else st.wa ++ [e.1]).Nodup
  split
  · exact h
  · rename_i q
    rw [List.nodup_append]
    exact ⟨h, by simp, fun a ha b hb z => q (by rw [List.mem_singleton] at hb; rw [← hb, ← z]; exact ha)⟩
theorem fold_take {p : N → Int} {P : Int} {B : List N} {u : N} (hp : Pot g p) {es : List (N × Int)} (hes : ∀ e ∈ es, e ∈ ways g u) (i : LI g p P B u es st) (hu : In st u) : ∀ k, k ≤ es.length → LI g p P B u (es.drop k) ((es.take k).foldl (relax u) st) ∧ In ((es.take k).foldl (relax u) st) u := by
  intro k
  induction k with
  | zero => intro _; exact ⟨i, hu⟩
  | succ k ih =>
    intro hk
    obtain ⟨i1, u1⟩ := ih (by omega)
    have e1 : es.drop k = es[k] :: es.drop (k + 1) := List.drop_eq_getElem_cons (by omega)
    rw [e1] at i1
    have := relax_ok hp i1 u1 (hes _ (List.getElem_mem (by omega)))
    rw [List.take_succ, List.getElem?_eq_getElem (by omega), Option.toList_some, List.foldl_append]
    exact this
end
theorem shp_p2 (ns : List N) : SeqAt.shaped (.list (ns.map p2)) = true := by
  refine pln_shaped ?_ ?_
  · induction ns with
    | nil => rfl
    | cons n ns ih => rw [List.map_cons, PyData.canLayAll0, ih]; rfl
  · induction ns with
    | nil => simp [PyData.depthAll]
    | cons n ns ih =>
      rw [List.map_cons, PyData.depthAll]
      have : (p2 n).depth ≤ 2 := by simp [p2, PyData.depth, PyData.depthAll]
      omega
section
variable {T : Cfg} {μ : Mu} {P : D → Mu → Prop}
theorem tv_imp {t : TT} {W : WX} {s : S} {Q Q' : Bool → Mu → Prop} {XP : XW} (h : TV T t W s Q XP) (k : ∀ b μ, Q b μ → Q' b μ) : TV T t W s Q' XP := fun σ Hb H R S q x => h σ Hb H R S (fun b μ' Hb' H' g p => q b μ' Hb' H' g (k b μ' p)) x
theorem ov_neNilK {a : Addr} {ns : List N} (hm : μ a = some (.lst (nsD ns))) (k : P (.bl (!decide (ns = []))) μ) : OV T (rNeD T.K) (.ptr a) (.lst []) μ P := fun x y Hb H Q ex sm rx ry q => by
  cases rx
  obtain ⟨_, o, ho, ro⟩ := sm a _ hm
  obtain ⟨b, ys, rfl, hb, rb⟩ := ry.lst_inv
  obtain rfl := rb.nil_inv
  cases o with
  | lst xs =>
    have ro : RepL T Hb (nsD ns) xs := ro
    refine ⟨.list (ns.map p2), .list [], .lst (Evl.sq_of ho) (keys_dp ex ro), .lst (Evl.sq_of (ex _ _ hb)) .nil, shp_p2 ns, by rfl, ?_⟩
    have e : PyData.eqv (.list (ns.map p2)) (.list []) = decide (ns = []) := by
      cases ns with
      | nil => rfl
      | cons n ns => rfl
    rw [e]
    exact q _ _ _ _ _ (.refl ex sm) (.bl _) k
  | _ => exact ro.elim
end
theorem nth_ways {es : List (N × Int)} {k : Nat} (h : k < es.length) : Pw.nth (es.map wayD) k = .tup [.key (k2 es[k].1), .int es[k].2] := nth_of (by rw [List.getElem?_map, List.getElem?_eq_getElem h]; rfl)
theorem pure_Carrying_led_from {T : Cfg} (hT : CaOk T) : ∀ E ds μ P XP, c_Carrying_led_from T ds μ P XP → SV T (t_Carrying_led_from T E) (fun cls dd _ H => E cls dd H) ⟨slots 8 ds, μ⟩ (fnK P XP) := by
  rintro E ds μ P XP ⟨s, h, w, c, cm, g, hv, wv, B, rfl, m, cs, hB, hBn, ⟨p, hp⟩, hP⟩
  have hS := hT.sh
  have hBl : B.length ≤ 24 := by
    have := nodup_len (ks := Vl g) hBn fun v hv => mem_Vl.2 (hB v hv)
    have hl : (Vl g).length = g.X.length + g.Y.length := by unfold Vl; simp
    rw [hl] at this
    have := cs.lx
    have := cs.ly
    omega
  unfold t_Carrying_led_from
  walk_at "pks"
  refine ev_lcF ?_
  walk_at "pks"
  refine ⟨nsD B, fun d => .tup [d, .int 0], .inl rfl, by rw [List.length_map]; omega, fun e he => ?_, ?_⟩
  · walk_at "pks"
    exact ⟨rfl, rfl⟩
  walk_at "pks"
  refine cv_dictTM (kds := foD (L0 B).fo) (.inl ?_) ?_ fun fo hfo => ?_
  · refine congrArg D.lst ?_
    show (nsD B).map _ = (encL k2 D.int (B.map fun b => (b, 0))).map _
    unfold encL
    rw [List.map_map, List.map_map, List.map_map]
    rfl
  · show ((encL k2 D.int (B.map fun b => (b, 0))).map Prod.fst).Nodup
    unfold encL
    rw [List.map_map, List.map_map]
    unfold List.Nodup at hBn ⊢
    rw [List.pairwise_map]
    exact hBn.imp fun {a b} q e => q (k2_inj e)
  walk_at "pks"
  refine ev_dnewTM fun ah hah => ?_
  walk_at "pks"
  refine cv_lstC (.inl (.inl rfl)) fun wa hwa => ?_
  walk_at "pks"
  obtain ⟨f1, f2, f3, f4⟩ := m.fresh hfo
  have m1 := m.put (z := .dT (foD (L0 B).fo)) f1 f2 f3 f4
  obtain ⟨a1, a2, a3, a4⟩ := m1.fresh hah
  have m2 := m1.put (z := .dT []) a1 a2 a3 a4
  obtain ⟨w1, w2, w3, w4⟩ := m2.fresh hwa
  have m3 := m2.put (z := .lst (nsD B)) w1 w2 w3 w4
  have nfa : fo ≠ ah := fun e => by rw [e, put_same] at hah; cases hah
  have nfw : fo ≠ wa := fun e => by rw [← e, put_ne nfa, put_same] at hwa; cases hwa
  have naw : ah ≠ wa := fun e => by rw [← e, put_same] at hwa; cases hwa
  have l0 : LM (put (put (put μ fo (.dT (foD (L0 B).fo))) ah (.dT [])) wa (.lst (nsD B))) c fo ah wa (L0 B) := by
    refine ⟨by rw [put_ne nfw, put_ne nfa, put_same], by rw [put_ne naw, put_same]; rfl, put_same, nfa, f4.symm, a4.symm, ?_, List.nodup_nil, hBn⟩
    show ((B.map fun b => ((b, 0) : N × Int)).map Prod.fst).Nodup
    rw [List.map_map]
    have : (Prod.fst ∘ fun b => ((b, 0) : N × Int)) = id := rfl
    rw [this, List.map_id]
    exact hBn
  obtain ⟨Q, hQ⟩ := bound_ex p B
  have i0 := L0_ok (p := p) hB hQ
  obtain ⟨n, fin, run, ifin, wfin⟩ := run_ex hp (L0 B) i0
  clear m1 m2 f1 f2 f3 f4 a1 a2 a3 a4 w1 w2 w3 w4
  generalize put (put (put μ fo (.dT (foD (L0 B).fo))) ah (.dT [])) wa (.lst (nsD B)) = μ0 at m3 l0
  refine sv_while (fun n S => ∃ st μ' x5 x6 x7, S = ⟨[some (.ptr s), some (.lst (nsD B)), some (.ptr fo), some (.ptr ah), some (.ptr wa), x5, x6, x7], μ'⟩ ∧ CM μ' s h w c cm g hv wv ∧ LM μ' c fo ah wa st ∧ LI g p Q B (0, 0) [] st ∧ LR g n st fin) n ⟨L0 B, μ0, none, none, none, rfl, m3, l0, i0, run⟩ ?_
  rintro n S ⟨st, μ', x5, x6, x7, rfl, m, l, i, run⟩
  obtain ⟨⟨f1, f2, f3, f4⟩, ⟨a1, a2, a3, a4⟩, ⟨w1, w2, w3, w4⟩, wf, wh⟩ := l.apart m
  have hwl := LI.wa_le i cs l.d3
  refine tv_test (ev_op ?_)
  walk_at "pks"
  refine ov_neNilK l.gw ?_
  refine ⟨_, rfl, fun hb => ?_, fun hb => ?_⟩
  · cases run with
    | done hd => rw [hd] at hb; cases hb
    | @step n' _ _ u ws hs run =>
      walk_at "pks"
      refine ev_popAt ?_
      walk_at "pks"
      refine ⟨wa, _, rfl, l.gw, ?_⟩
      walk_at "pks"
      refine ⟨0, _, .key (k2 u), rfl, l.gw, by rw [List.length_map]; omega, by rw [hs]; rfl, ?_⟩
      have hu : In st u := i.wad u (by rw [hs]; simp)
      have huV := i.dom u hu
      have e1 : (nsD st.wa).eraseIdx 0 = nsD ws := by rw [hs]; rfl
      rw [e1]
      obtain ⟨j0, _⟩ := step_ok hp i hs
      have es : stepL g st = (ways g u).foldl (relax u) ⟨st.fo, st.ah, ws⟩ := by unfold stepL; rw [hs]
      have i1 : LI g p Q B u (ways g u) ⟨st.fo, st.ah, ws⟩ := ⟨i.dom, i.beg, i.src, i.pre, fun z e' hz hw he' hx => by
        by_cases q : z = u
        · rw [q] at he'; exact absurd he' (hx q)
        · exact i.rel z e' hz (by rw [hs, List.mem_cons, not_or]; exact ⟨q, hw⟩) he' fun _ => by simp, fun z hz => i.wad z (by rw [hs]; exact List.mem_cons_of_mem _ hz), i.low, i.chn⟩
      have hu1 : In (⟨st.fo, st.ah, ws⟩ : L) u := hu
      have m1 := m.put (z := .lst (nsD ws)) w1 w2 w3 w4
      have l1 : LM (put μ' wa (.lst (nsD ws))) c fo ah wa ⟨st.fo, st.ah, ws⟩ := ⟨by rw [put_ne wf.symm]; exact l.gf, by rw [put_ne wh.symm]; exact l.ga, put_same, l.n1, l.n2, l.n3, l.d1, l.d2, by have := l.d3; rw [hs, List.nodup_cons] at this; exact this.2⟩
      have hft := fold_take (st := ⟨st.fo, st.ah, ws⟩) hp (fun e he => he) i1 hu1
      walk_at "pks"
      refine sv_forX2 (X := Unit) (fun k _ => [some (.ptr s), some (.lst (nsD B)), some (.ptr fo), some (.ptr ah), some (.ptr wa), some (.key (k2 u)), none, none]) (fun k _ μ => CM μ s h w c cm g hv wv ∧ LM μ c fo ah wa (((ways g u).take k).foldl (relax u) ⟨st.fo, st.ah, ws⟩)) (iv_list (ev_meth ?_))
      walk_at "pks"
      refine ⟨s, _, rfl, m1.self, rfl, ?_⟩
      walk_at "pks"
      refine ⟨s, h, w, c, cm, g, hv, wv, u, rfl, m1, cs, huV, _, .inl rfl, (), by walk_at "le", ⟨m1, l1⟩, fun k _ μ1 hk hJ => ?_, fun s' _ hr hJ => ?_⟩
      · have hk : k < (ways g u).length := by simpa using hk
        obtain ⟨m2, l2⟩ := hJ
        obtain ⟨i2, u2⟩ := hft k (by omega)
        have ed : (ways g u).drop k = (ways g u)[k] :: (ways g u).drop (k + 1) := List.drop_eq_getElem_cons hk
        rw [ed] at i2
        have ef : ((ways g u).take (k + 1)).foldl (relax u) ⟨st.fo, st.ah, ws⟩ = relax u (((ways g u).take k).foldl (relax u) ⟨st.fo, st.ah, ws⟩) (ways g u)[k] := by
          rw [List.take_succ, List.getElem?_eq_getElem hk, Option.toList_some, List.foldl_append]
          rfl
        have fin2 : ∀ (μ2 : Mu) (x y : Option D), CM μ2 s h w c cm g hv wv → LM μ2 c fo ah wa (relax u (((ways g u).take k).foldl (relax u) ⟨st.fo, st.ah, ws⟩) (ways g u)[k]) → InvX (fun k (_ : Unit) => [some (.ptr s), some (.lst (nsD B)), some (.ptr fo), some (.ptr ah), some (.ptr wa), some (.key (k2 u)), none, none]) (fun k (_ : Unit) μ => CM μ s h w c cm g hv wv ∧ LM μ c fo ah wa (((ways g u).take k).foldl (relax u) ⟨st.fo, st.ah, ws⟩)) (k + 1) ⟨[some (.ptr s), some (.lst (nsD B)), some (.ptr fo), some (.ptr ah), some (.ptr wa), some (.key (k2 u)), x, y], μ2⟩ := fun μ2 x y h1 h2 => by
          refine ⟨(), by walk_at "le", h1, ?_⟩
          rw [ef]
          exact h2
        generalize ((ways g u).take k).foldl (relax u) ⟨st.fo, st.ah, ws⟩ = sk at i2 u2 l2 fin2
        refine ⟨.key (k2 (ways g u)[k].1), .int (ways g u)[k].2, nth_ways hk, ?_⟩
        have hmem : (ways g u)[k] ∈ ways g u := List.getElem_mem hk
        have hne := way_ne hmem
        clear ed ef
        generalize (ways g u)[k] = e at i2 fin2 hmem hne ⊢
        obtain ⟨⟨f1, f2, f3, f4⟩, ⟨a1, a2, a3, a4⟩, ⟨w1, w2, w3, w4⟩, wf, wh⟩ := l2.apart m2
        have lf := LI.fo_le i2 cs l2.d1
        have la := LI.ah_le i2 cs l2.d2
        have lw := LI.wa_le i2 cs l2.d3
        refine sv_if (tv_imp (Q := fun b μ => b = decide (turn u sk e) ∧ μ = μ1) ?_ ?_)
        · refine tv_or (tv_B (ev_dninOT ?_))
          walk_at "pks"
          refine ⟨fo, _, k2 e.1, rfl, l2.gf, rfl, ?_⟩
          rw [fo_some]
          walk_at "pks"
          by_cases hin : In sk e.1
          · have hin' : (lookD sk.fo e.1).isSome = true := hin
            rw [hin']
            walk_at "pks"
            refine ev_dgetOT ?_
            walk_at "pks"
            refine ⟨fo, _, k2 u, _, rfl, l2.gf, rfl, In.look u2, ?_⟩
            walk_at "pks"
            refine ev_dgetOT ?_
            walk_at "pks"
            refine ⟨fo, _, k2 e.1, _, rfl, l2.gf, rfl, In.look hin, ?_⟩
            walk_at "pks"
            refine ⟨?_, rfl⟩
            refine decide_eq_decide.2 ?_
            unfold turn
            exact ⟨fun q => .inr q, fun q => q.resolve_left fun z => z hin⟩
          · have hin' : (lookD sk.fo e.1).isSome = false := by simpa [Cg.In] using hin
            rw [hin']
            walk_at "pks"
            exact ⟨(decide_eq_true (show turn u sk e from .inl hin)).symm, rfl⟩
        · rintro b μ2 ⟨rfl, rfl⟩
          refine ⟨fun ht => ?_, fun ht => ?_⟩
          · have ht := of_decide_eq_true ht
            have er : relax u sk e = setL u sk e := if_pos ht
            rw [er] at fin2
            refine sv_seq (sv_dputT (ev_op (ev_dgetOT ?_)))
            walk_at "pks"
            refine ⟨fo, _, k2 u, _, rfl, l2.gf, rfl, In.look u2, ?_⟩
            walk_at "pks"
            refine ⟨fo, _, k2 e.1, rfl, l2.gf, rfl, by rw [enc_len]; omega, ?_⟩
            rw [show D.int (lab sk u + e.2) = D.int (lab sk u + e.2) from rfl, enc_put k2_inj' D.int]
            refine seqK_nx (sv_seq (sv_dputT ?_))
            walk_at "pks"
            refine ⟨ah, _, k2 e.1, rfl, by rw [put_ne l2.n1.symm]; exact l2.ga, rfl, by rw [enc_len]; omega, ?_⟩
            rw [enc_put k2_inj' (fun n => D.key (k2 n))]
            have m3 := (m2.put (z := .dT (foD (putD sk.fo e.1 (lab sk u + e.2)))) f1 f2 f3 f4).put (z := .dT (ahD (putD sk.ah e.1 u))) a1 a2 a3 a4
            have gf3 : Pw.put (Pw.put μ2 fo (.dT (foD (putD sk.fo e.1 (lab sk u + e.2))))) ah (.dT (ahD (putD sk.ah e.1 u))) fo = some (.dT (foD (putD sk.fo e.1 (lab sk u + e.2)))) := by rw [put_ne l2.n1, put_same]
            have gw3 : Pw.put (Pw.put μ2 fo (.dT (foD (putD sk.fo e.1 (lab sk u + e.2))))) ah (.dT (ahD (putD sk.ah e.1 u))) wa = some (.lst (nsD sk.wa)) := by rw [put_ne wh, put_ne wf]; exact l2.gw
            refine seqK_nx (sv_if (tv_test (ev_op ?_)))
            walk_at "pks"
            refine ov_ninO gw3 ?_
            walk_at "pks"
            refine ⟨fun hni => ?_, fun hni => ?_⟩
            · have hni : e.1 ∉ sk.wa := by simpa using hni
              refine sv_app ?_
              walk_at "pks"
              refine ⟨wa, _, rfl, gw3, ?_⟩
              walk_at "pks"
              refine ⟨_, gw3, by rw [List.length_map]; omega, ?_⟩
              have ew : nsD sk.wa ++ [D.key (k2 e.1)] = nsD (setL u sk e).wa := by
                show _ = nsD (if e.1 ∈ sk.wa then sk.wa else sk.wa ++ [e.1])
                rw [if_neg hni]
                show _ = (sk.wa ++ [e.1]).map _
                rw [List.map_append]
                rfl
              rw [ew]
              refine fin2 _ _ _ (m3.put w1 w2 w3 w4) ⟨?_, ?_, put_same, l2.n1, l2.n2, l2.n3, putD_nd l2.d1, putD_nd l2.d2, set_nd3 l2.d3⟩
              · rw [put_ne wf.symm]; exact gf3
              · rw [put_ne wh.symm, put_same]; rfl
            · have hni : e.1 ∈ sk.wa := by simpa using hni
              walk_at "pks"
              refine fin2 _ _ _ m3 ⟨gf3, by rw [put_same]; rfl, ?_, l2.n1, l2.n2, l2.n3, putD_nd l2.d1, putD_nd l2.d2, set_nd3 l2.d3⟩
              rw [gw3]
              show _ = some (MO.lst (nsD (if e.1 ∈ sk.wa then sk.wa else sk.wa ++ [e.1])))
              rw [if_pos hni]
          · have ht := of_decide_eq_false ht
            have er : relax u sk e = sk := if_neg ht
            rw [er] at fin2
            walk_at "pks"
            exact fin2 _ _ _ m2 l2
      · obtain ⟨m2, l2⟩ := hJ
        have ek : ((ways g u).take ((ways g u).map wayD).length).foldl (relax u) ⟨st.fo, st.ah, ws⟩ = stepL g st := by rw [List.length_map, List.take_length, es]
        rw [ek] at l2
        refine ⟨n', by omega, ?_⟩
        obtain ⟨ρ, μf⟩ := s'
        obtain ⟨x6, x7, rfl⟩ : ∃ x6 x7, ρ = [some (.ptr s), some (.lst (nsD B)), some (.ptr fo), some (.ptr ah), some (.ptr wa), some (.key (k2 u)), x6, x7] := by
          have hr : leR [some (.ptr s), some (.lst (nsD B)), some (.ptr fo), some (.ptr ah), some (.ptr wa), some (.key (k2 u)), none, none] ρ := hr
          match ρ, hr.len with
          | [p0, p1, p2, p3, p4, p5, x, y], _ =>
            obtain ⟨rfl, rfl, rfl, rfl, rfl, rfl, _⟩ := hr
            exact ⟨x, y, rfl⟩
        exact ⟨stepL g st, μf, _, x6, x7, rfl, m2, l2, j0.any, run⟩
  · have hb : st.wa = [] := by simpa using hb
    cases run with
    | step hs _ => rw [hs] at hb; cases hb
    | done _ =>
      refine seqK_nx ?_
      walk_at "pks"
      refine hP _ fo ah fin m l.gf l.ga ⟨i.dom, i.beg, i.src, fun v u hv => ?_, fun u e hu he => i.rel u e hu (by rw [hb]; simp) he fun _ => by simp, i.chn⟩
      obtain ⟨h1, h2, k, h3, h4⟩ := i.pre v u hv
      have h5 := (i.rel u (v, k) h1 (by rw [hb]; simp) h3 fun _ => by simp).2
      exact ⟨h1, h2, k, h3, Int.le_antisymm h5 h4⟩
end Far
namespace Pw
open PySem PySem.Spec PyProof.Rows L2
open Evl (Ex ex_l ex_t fresh_back)
section
variable {T : Cfg} {μ : Mu} {P : D → Mu → Prop}
theorem cv_minI {d : D} {ns : List Int} (hd : Seqd d (ns.map D.int)) (hne : 0 < ns.length) (p : ∀ m, m ∈ ns → (∀ y ∈ ns, m ≤ y) → P (.int m) μ) : CV T (rMin T.K) [d] μ P := fun xs Hb H Q ex sm r q => by
  obtain ⟨v, rfl, r1⟩ := one_inv r
  obtain ⟨a, ys, rfl, hx, r2⟩ := hd.inv r1
  obtain rfl := r2.ints
  exact ⟨a, ns, rfl, ex_l ex hx, hne, fun m h1 h2 => q _ _ _ _ _ (.refl ex sm) (.int m) (p m h1 h2)⟩
theorem cv_maxI {d : D} {ns : List Int} (hd : Seqd d (ns.map D.int)) (hne : 0 < ns.length) (p : ∀ m, m ∈ ns → (∀ y ∈ ns, y ≤ m) → P (.int m) μ) : CV T (rMax T.K) [d] μ P := fun xs Hb H Q ex sm r q => by
  obtain ⟨v, rfl, r1⟩ := one_inv r
  obtain ⟨a, ys, rfl, hx, r2⟩ := hd.inv r1
  obtain rfl := r2.ints
  exact ⟨a, ns, rfl, ex_l ex hx, hne, fun m h1 h2 => q _ _ _ _ _ (.refl ex sm) (.int m) (p m h1 h2)⟩
end
theorem at_neg {ds : List D} {d : D} : atI (ds ++ [d]) (-1) = some d := by
  unfold atI ixN
  rw [if_neg (by omega), List.length_append, List.length_singleton, if_pos (by omega)]
  show (ds ++ [d])[(((ds.length + 1 : Nat) : Int) + -1).toNat]? = _
  have : (((ds.length + 1 : Nat) : Int) + -1).toNat = ds.length := by omega
  rw [this]
  simp
end Pw
namespace Far
open PySem PySem.Spec PyProof.Rows L2 Pw Cg
open FM (Bq)
def c_Carrying_carry_on (T : Cfg) : Ct := fun ds μ P _ => ∃ (s h w c : Addr) (cm : List (List Int)) (g : G) (hv wv H W : Nat → Int), ds = [.ptr s] ∧ CM μ s h w c cm g hv wv ∧ CS cm g ∧ CI g hv wv H W ∧ (∃ x ∈ g.X, 0 < hv x) ∧
  ∀ (μ' : Mu) (f' : Nat → Nat → Int) (hv' wv' : Nat → Int), CM μ' s h w c cm ⟨g.c, g.X, g.Y, f'⟩ hv' wv' → CI ⟨g.c, g.X, g.Y, f'⟩ hv' wv' H W → (g.X.map hv').sum < (g.X.map hv).sum → P .non μ'
theorem len_Carrying_carry_on {T : Cfg} : ∀ ds μ P XP, c_Carrying_carry_on T ds μ P XP → ds.length = 1 := by
  rintro ds μ P XP ⟨s, h, w, c, cm, g, hv, wv, H, W, rfl, _⟩; rfl
def t_Carrying_carry_on (T : Cfg) (E : XK) : TS := (tSeq (tAsg (tMeth (T.cls 2) "led_from" (spOf T (c_Carrying_led_from T)) [] E0 (tVar 0) (tCons (tLockE (tLc (iKeys (tFld T.K (tVar 0) "have")) (gName 14) (tTest (tOp (rI0 fun i j => .bl (decide (j < i))) (tDGet (tFld T.K (tVar 0) "have") (tVar 14)) (tC (.int 0)))) (tTup (tCons (tC (.int 0)) (tCons (tVar 14) tNil))) [14])) tNil)) (gTup T.K 2 (gCons (gName 7) (gCons (gName 8) gNil))))
    (tSeq (tLock (tAsg (tLc (iKeys (tFld T.K (tVar 0) "want")) (gName 13) (tTest (tOp (rI0 fun i j => .bl (decide (j < i))) (tDGet (tFld T.K (tVar 0) "want") (tVar 13)) (tC (.int 0)))) (tTup (tCons (tDGet (tVar 7) (tTup (tCons (tC (.int 1)) (tCons (tVar 13) tNil)))) (tCons (tVar 13) tNil))) [13]) (gName 1)))
    (tSeq (tAsg (tCB (rMinD T.K) (tCons (tVar 1) tNil)) (gTup T.K 2 (gCons (gName 9) (gCons (gName 10) gNil))))
    (tSeq (tAsg (tLst (tCons (tTup (tCons (tC (.int 1)) (tCons (tVar 10) tNil))) tNil)) (gName 2))
    (tSeq (tWhile (tB (tDIn (tOp (rIxL T.K) (tVar 2) (tUn (rU fun i => .int (-i)) (tC (.int 1)))) (tVar 8))) (tDrop (tBM T.K "list" rAppend (tVar 2) (tCons (tDGet (tVar 8) (tOp (rIxL T.K) (tVar 2) (tUn (rU fun i => .int (-i)) (tC (.int 1))))) tNil))))
    (tSeq (tAsg (tOp (rIxT T.K) (tOp (rIxL T.K) (tVar 2) (tUn (rU fun i => .int (-i)) (tC (.int 1)))) (tC (.int 1))) (gName 3))
    (tSeq (tAsg (tLZ T.K (tCons (tSl (rSlL T.K) (tVar 2) (tPart (tC (.int 1))) tNoPart) (tCons (tVar 2) tNil))) (gName 4))
    (tSeq (tAsg (tLc (iList T.K (tVar 4)) (gTup T.K 2 (gCons (gName 11) (gCons (gName 12) gNil))) (tTest (tOp rEq (tOp (rIxT T.K) (tVar 11) (tC (.int 0))) (tC (.int 1)))) (tDGet (tFld T.K (tVar 0) "carried") (tTup (tCons (tOp (rIxT T.K) (tVar 12) (tC (.int 1))) (tCons (tOp (rIxT T.K) (tVar 11) (tC (.int 1))) tNil)))) [11, 12]) (gName 5))
    (tSeq (tAsg (tCB (rMin T.K) (tCons (tOp rCat (tLst (tCons (tDGet (tFld T.K (tVar 0) "have") (tVar 3)) (tCons (tDGet (tFld T.K (tVar 0) "want") (tVar 10)) tNil))) (tVar 5)) tNil)) (gName 6))
    (tSeq (tFor (iList T.K (tVar 4)) (gTup T.K 2 (gCons (gName 11) (gCons (gName 12) gNil))) (tIfS (tTest (tOp rEq (tOp (rIxT T.K) (tVar 11) (tC (.int 0))) (tC (.int 0)))) (sDAug (tFld T.K (tVar 0) "carried") (tTup (tCons (tOp (rIxT T.K) (tVar 11) (tC (.int 1))) (tCons (tOp (rIxT T.K) (tVar 12) (tC (.int 1))) tNil))) (tVar 6) rAdd) (sDAug (tFld T.K (tVar 0) "carried") (tTup (tCons (tOp (rIxT T.K) (tVar 12) (tC (.int 1))) (tCons (tOp (rIxT T.K) (tVar 11) (tC (.int 1))) tNil))) (tVar 6) rSub)))
    (tSeq (sDAug (tFld T.K (tVar 0) "have") (tVar 3) (tVar 6) rSub)
    (sDAug (tFld T.K (tVar 0) "want") (tVar 10) (tVar 6) rSub))))))))))))
theorem tabI_put {X : List Nat} (f : Nat → Int) {x : Nat} (hx : x ∈ X) (v : Int) : putD (tabI X f) (kI x) (.int v) = tabI X (upN f x v) := by
  unfold tabI
  rw [tab_put kI_inj _ hx]
  refine List.map_congr_left fun a _ => ?_
  unfold upN
  by_cases e : a = x
  · simp [e]
  · simp [e]
theorem tab2_put {g : G} {x y : Nat} (hx : x ∈ g.X) (hy : y ∈ g.Y) (a : Int) : putD (tab2 g) (k2 (x, y)) (.int (g.f x y + a)) = tab2 ⟨g.c, g.X, g.Y, addAt g.f x y a⟩ := by
  unfold tab2
  rw [tab_put k2_inj' _ (mem_prs.2 ⟨hx, hy⟩)]
  refine List.map_congr_left fun p _ => ?_
  obtain ⟨i, j⟩ := p
  unfold addAt
  by_cases e : (i, j) = (x, y)
  · cases e
    simp
  · have : ¬ (i = x ∧ j = y) := fun q => e (by rw [q.1, q.2])
    simp [this]
theorem CM.carP {μ : Mu} {s h w c : Addr} {cm : List (List Int)} {g : G} {hv wv : Nat → Int} (m : CM μ s h w c cm g hv wv) (f' : Nat → Nat → Int) : CM (Pw.put μ c (.dT (tab2 ⟨g.c, g.X, g.Y, f'⟩))) s h w c cm ⟨g.c, g.X, g.Y, f'⟩ hv wv :=
  ⟨by rw [put_ne m.cs.symm]; exact m.self, by rw [put_ne m.ch.symm]; exact m.hav, by rw [put_ne m.cw.symm]; exact m.wan, put_same, m.hw⟩
theorem CM.havP {μ : Mu} {s h w c : Addr} {cm : List (List Int)} {g : G} {hv wv : Nat → Int} (m : CM μ s h w c cm g hv wv) (hv' : Nat → Int) : CM (Pw.put μ h (.dK (tabI g.X hv'))) s h w c cm g hv' wv :=
  ⟨by rw [put_ne m.sh]; exact m.self, put_same, by rw [put_ne m.hw.symm]; exact m.wan, by rw [put_ne m.ch]; exact m.car, m.hw⟩
theorem CM.wanP {μ : Mu} {s h w c : Addr} {cm : List (List Int)} {g : G} {hv wv : Nat → Int} (m : CM μ s h w c cm g hv wv) (wv' : Nat → Int) : CM (Pw.put μ w (.dK (tabI g.Y wv'))) s h w c cm g hv wv' :=
  ⟨by rw [put_ne m.sw]; exact m.self, by rw [put_ne m.hw]; exact m.hav, put_same, by rw [put_ne m.cw]; exact m.car, m.hw⟩
theorem hr_add : ∀ (i j : Int) (H : Hp) (Q : VK), Q (.int (i + j)) H → rAdd (.int i) (.int j) H Q := fun i j H Q q => ⟨i, j, rfl, rfl, q⟩
theorem hr_sub : ∀ (i j : Int) (H : Hp) (Q : VK), Q (.int (i - j)) H → rSub (.int i) (.int j) H Q := fun i j H Q q => ⟨i, j, rfl, rfl, q⟩
def edD (e : N × N) : D := .tup [.key (k2 e.1), .key (k2 e.2)]
theorem eds_len (l : List N) : (eds l).length = l.length - 1 := by
  unfold eds
  rw [List.length_zip, List.length_tail]
  omega
theorem zip_eds (l : List N) : ((nsD l.tail).zip (nsD l)).map (fun z => D.tup [z.1, z.2]) = (eds l).map edD := by
  unfold eds
  rw [List.zip_map, List.map_map]
  rfl
theorem le15 {a0 a1 a2 a3 a4 a5 a6 a7 a8 a9 a10 : D} : ∀ {ρ : List (Option D)}, leR [some a0, some a1, some a2, some a3, some a4, some a5, some a6, some a7, some a8, some a9, some a10, none, none, none, none] ρ → ∃ x y z w, ρ = [some a0, some a1, some a2, some a3, some a4, some a5, some a6, some a7, some a8, some a9, some a10, x, y, z, w] := by
  intro ρ h
  match ρ, h.len with
  | [p0, p1, p2, p3, p4, p5, p6, p7, p8, p9, p10, x, y, z, w], _ =>
    obtain ⟨rfl, rfl, rfl, rfl, rfl, rfl, rfl, rfl, rfl, rfl, rfl, _⟩ := h
    exact ⟨x, y, z, w, rfl⟩
theorem pure_Carrying_carry_on {T : Cfg} (hT : CaOk T) : ∀ E ds μ P XP, c_Carrying_carry_on T ds μ P XP → SV T (t_Carrying_carry_on T E) (fun cls dd _ H => E cls dd H) ⟨slots 15 ds, μ⟩ (fnK P XP) := by
  rintro E ds μ P XP ⟨s, h, w, c, cm, g, hv, wv, H, W, rfl, m, cs, ci, hx, hP⟩
  have hS := hT.sh
  have lx := cs.lx
  have ly := cs.ly
  unfold t_Carrying_carry_on
  refine sv_seq (sv_asg2 (ev_meth ?_))
  walk_at "pks"
  refine ⟨s, _, rfl, m.self, rfl, ?_⟩
  refine ea_cons (ev_lockE (d := h) m.hav fun o => ev_lcKX (iv_keysD ?_))
  refine ev_sf hT rfl (by rw [put_ne m.sh]; exact m.self) rfl hT.n2 ?_
  refine ⟨h, _, o, rfl, put_same, by rw [tabI_len]; omega, put_same, fun k => (g.X[k]?).bind fun x => if 0 < hv x then some (.key (k2 (0, x))) else none, fun k hk => ?_, put_same, ?_⟩
  · have hk : k < g.X.length := by rw [tabI_len] at hk; exact hk
    dsimp only
    rw [tabI_at hk]
    refine tv_test (ev_op (ev_dgetK (ev_sf hT rfl (by rw [put_ne m.sh]; exact m.self) rfl hT.n2 ?_)))
    walk_at "pks"
    refine ⟨h, _, o, kI g.X[k], _, rfl, put_same, rfl, tabI_look hv (List.getElem_mem hk), ?_⟩
    walk_at "pks"
    refine ⟨rfl, fun hp => ?_, fun hp => ?_⟩
    · have hp := of_decide_eq_true hp
      refine ev_tupK ?_
      walk_at "pks"
      refine ⟨k2 (0, g.X[k]), rfl, by simp [k2], ?_, rfl⟩
      rw [List.getElem?_eq_getElem hk]
      exact if_pos hp
    · have hp := of_decide_eq_false hp
      rw [List.getElem?_eq_getElem hk]
      exact if_neg hp
  rw [put_put, put_get m.hav, tabI_len]
  have e1 : (List.range g.X.length).filterMap (fun k => (g.X[k]?).bind fun x => if 0 < hv x then some (D.key (k2 (0, x))) else none) = nsD (begs g hv) := by
    rw [range_fm g.X (fun x => if 0 < hv x then some (D.key (k2 (0, x))) else none) _ fun k hk => by rw [List.getElem?_eq_getElem hk]; rfl]
    unfold begs
    show _ = ((g.X.filter fun x => decide (0 < hv x)).map fun x => ((0, x) : N)).map fun n => D.key (k2 n)
    rw [fm_filter]
    refine fm_congr fun x _ => ?_
    by_cases hp : 0 < hv x
    · rw [if_pos hp, if_pos (decide_eq_true hp)]
    · rw [if_neg hp, if_neg (by simpa using hp)]
  rw [e1]
  walk_at "pks"
  refine ⟨s, h, w, c, cm, g, hv, wv, begs g hv, rfl, m, cs, begs_V, ?_, ci.pot, fun μ1 fo ah st m1 gf ga fin => ?_⟩
  · unfold begs
    have := cs.xn.sublist (List.filter_sublist (p := fun x => decide (0 < hv x)))
    unfold List.Nodup at this ⊢
    rw [List.pairwise_map]
    exact this.imp fun {a b} q e => q (by cases e; rfl)
  have hin := all_in ci fin hx
  refine ⟨_, _, rfl, ?_⟩
  refine seqK_nx (sv_seq (sv_lock (d := w) m1.wan fun o => ?_))
  have wfo : fo ≠ w := fun e => by have := m1.wan; rw [← e, gf] at this; cases this
  refine sv_asg (ev_lcKX (iv_keysD ?_))
  refine ev_sf hT rfl (by rw [put_ne m.sw]; exact m1.self) rfl hT.n3 ?_
  refine ⟨w, _, o, rfl, put_same, by rw [tabI_len]; omega, put_same, fun k => (g.Y[k]?).bind fun y => if 0 < wv y then some (.tup [.int (lab st (1, y)), .int (y : Int)]) else none, fun k hk => ?_, ?_⟩
  · have hk : k < g.Y.length := by rw [tabI_len] at hk; exact hk
    dsimp only
    rw [tabI_at hk]
    refine tv_test (ev_op (ev_dgetK (ev_sf hT rfl (by rw [put_ne m.sw]; exact m1.self) rfl hT.n3 ?_)))
    walk_at "pks"
    refine ⟨w, _, o, kI g.Y[k], _, rfl, put_same, rfl, tabI_look wv (List.getElem_mem hk), ?_⟩
    walk_at "pks"
    refine ⟨rfl, fun hp => ?_, fun hp => ?_⟩
    · have hp := of_decide_eq_true hp
      refine ev_tup (ea_cons (ev_dgetOT (ev_var rfl (ev_tupK ?_))))
      walk_at "pks"
      refine ⟨k2 (1, g.Y[k]), rfl, by simp [k2], fo, _, _, _, rfl, by rw [put_ne wfo]; exact gf, rfl, In.look (hin _ (.inr ⟨rfl, List.getElem_mem hk⟩)), ?_⟩
      walk_at "pks"
      refine ⟨?_, rfl⟩
      rw [List.getElem?_eq_getElem hk]
      exact if_pos hp
    · have hp := of_decide_eq_false hp
      rw [List.getElem?_eq_getElem hk]
      exact if_neg hp
  refine lkK_nx put_same ?_
  dsimp only
  rw [put_put, put_get m1.wan, tabI_len]
  have e2 : (List.range g.Y.length).filterMap (fun k => (g.Y[k]?).bind fun y => if 0 < wv y then some (D.tup [.int (lab st (1, y)), .int (y : Int)]) else none) = ((g.Y.filter fun y => decide (0 < wv y)).map fun y => (lab st (1, y), (y : Int))).map fun n => D.tup [.int n.1, .int n.2] := by
    rw [range_fm g.Y (fun y => if 0 < wv y then some (D.tup [.int (lab st (1, y)), .int (y : Int)]) else none) _ fun k hk => by rw [List.getElem?_eq_getElem hk]; rfl]
    rw [fm_filter]
    refine fm_congr fun x _ => ?_
    by_cases hp : 0 < wv x
    · rw [if_pos hp, if_pos (decide_eq_true hp)]
    · rw [if_neg hp, if_neg (by simpa using hp)]
  rw [e2]
  refine seqK_nx (sv_seq (sv_asg2 (ev_cb ?_)))
  walk_at "pks"
  obtain ⟨x1, hx1, hp1⟩ := hx
  have hsum : 0 < (g.Y.map wv).sum := by
    have := sum_gt ci.h0 hx1
    rw [← ci.tot]
    omega
  refine cv_min2T (.inl rfl) (fun e => ?_) fun n hn => ?_
  · obtain ⟨y, hy, hp⟩ := sum_pos_ex hsum
    have : y ∈ g.Y.filter fun y => decide (0 < wv y) := List.mem_filter.2 ⟨hy, decide_eq_true hp⟩
    rw [List.map_eq_nil_iff] at e
    rw [e] at this
    cases this
  obtain ⟨y0, hy0, rfl⟩ := List.mem_map.1 hn
  obtain ⟨hy0, hw0⟩ := List.mem_filter.1 hy0
  have hw0 := of_decide_eq_true hw0
  refine ⟨_, _, rfl, ?_⟩
  refine seqK_nx (sv_seq (sv_asg (ev_lstM (ea_cons (ev_tupK ?_)))))
  walk_at "pks"
  refine ⟨k2 (1, y0), rfl, by simp [k2], ?_⟩
  walk_at "pks"
  intro r hr
  obtain ⟨r1, r2, r3, r4⟩ := m1.fresh hr
  have rfo : fo ≠ r := fun e => by rw [← e, gf] at hr; cases hr
  have rah : ah ≠ r := fun e => by rw [← e, ga] at hr; cases hr
  have hv0 := hin (1, y0) (.inr ⟨rfl, hy0⟩)
  obtain ⟨l, hl⟩ := fin.chn _ hv0
  have hll : l.length ≤ 24 := by
    have := nodup_len (ks := Vl g) hl.nodup fun w hw => mem_Vl.2 (fin.dom w (hl.all_in fin hv0 w hw))
    have hl : (Vl g).length = g.X.length + g.Y.length := by unfold Vl; simp
    rw [hl] at this
    omega
  refine seqK_nx (sv_seq (sv_while (fun n S => ∃ (pre : List N) (v : N) (l' : List N), S = ⟨[some (.ptr s), some (.lst (((g.Y.filter fun y => decide (0 < wv y)).map fun y => (lab st (1, y), (y : Int))).map fun n => D.tup [.int n.1, .int n.2])), some (.ptr r), none, none, none, none, some (.ptr fo), some (.ptr ah), some (.int (lab st (1, y0))), some (.int (y0 : Int)), none, none, none, none], Pw.put μ1 r (.lst (nsD (pre ++ [v])))⟩ ∧ Ch st.ah v l' ∧ l = pre ++ l' ∧ n = l'.length) l.length ⟨[], (1, y0), l, rfl, hl, rfl, rfl⟩ ?_))
  · rintro n S ⟨pre, v, l', rfl, hc, hpl, rfl⟩
    have hat : atI (nsD (pre ++ [v])) (-1) = some (.key (k2 v)) := by
      show atI ((pre ++ [v]).map _) (-1) = _
      rw [List.map_append]
      exact at_neg
    have hpl2 : pre.length + l'.length ≤ 24 := by rw [hpl, List.length_append] at hll; exact hll
    refine tv_B (ev_dinOT (ev_op ?_))
    walk_at "pks"
    refine ov_ixM put_same hat ?_
    walk_at "pks"
    refine ⟨ah, _, k2 v, rfl, by rw [put_ne rah]; exact ga, rfl, ?_⟩
    rw [enc_look k2_inj', Option.isSome_map]
    refine ⟨_, rfl, fun hb => ?_, fun hb => ?_⟩
    · obtain ⟨u, hu⟩ := Option.isSome_iff_exists.1 hb
      cases hc with
      | root hr' => rw [hr'] at hu; cases hu
      | @step _ u' l'' hu' rr =>
        rw [hu'] at hu
        cases hu
        refine sv_app ?_
        walk_at "pks"
        refine ⟨r, _, rfl, put_same, ev_dgetOT ?_⟩
        walk_at "pks"
        refine ov_ixM put_same hat ?_
        refine ⟨ah, _, k2 v, _, rfl, by rw [put_ne rah]; exact ga, rfl, by rw [enc_look k2_inj', hu']; rfl, ?_⟩
        refine ⟨_, put_same, by rw [List.length_map, List.length_append]; simp only [List.length_singleton]; omega, ?_⟩
        rw [put_put]
        refine ⟨l''.length, by simp, pre ++ [v], u, l'', ?_, rr, by rw [hpl]; simp, rfl⟩
        have e3 : nsD (pre ++ [v]) ++ [D.key (k2 u)] = nsD (pre ++ [v] ++ [u]) := by
          show _ = (pre ++ [v] ++ [u]).map _
          rw [List.map_append]
          rfl
        rw [e3]
    · have hno : lookD st.ah v = none := by
        cases q : lookD st.ah v with
        | none => rfl
        | some u => rw [q] at hb; cases hb
      cases hc with
      | step hu' _ => rw [hu'] at hno; cases hno
      | root _ =>
        rw [← hpl]
        have hlast : l.getLastD (0, 0) = v := by rw [hpl]; simp
        obtain ⟨x0, hx0, hx0X, hx0p⟩ := root_beg fin hl hv0
        rw [hlast] at hx0
        subst hx0
        rw [← hpl] at hat
        refine seqK_nx (sv_seq (sv_asg (ev_op (ev_op ?_))))
        walk_at "pks"
        refine ov_ixM put_same hat ?_
        walk_at "pks"
        refine ov_keyL (ov_ixT (e := .int (x0 : Int)) rfl ?_)
        have m2 : CM (Pw.put μ1 r (.lst (nsD l))) s h w c cm g hv wv := m1.put r1 r2 r3 r4
        have g2 : Pw.put μ1 r (.lst (nsD l)) r = some (.lst (nsD l)) := put_same
        clear hpl2 hpl hat hno
        generalize Pw.put μ1 r (.lst (nsD l)) = μ2 at m2 g2
        refine seqK_nx (sv_seq (sv_asg (ev_lz (ea_cons (ev_slM ?_)))))
        walk_at "pks"
        refine ⟨_, rfl, ?_⟩
        walk_at "pks"
        refine ⟨r, _, rfl, g2, ?_⟩
        have ec : cutD (nsD l) (some 1) none = nsD l.tail := by
          unfold Pw.cutD
          have h1 : HT.sIx (nsD l).length 0 (some 1) = 1 := by
            obtain ⟨t, rfl⟩ := hl.ne
            unfold HT.sIx
            simp
          have h2 : HT.sIx (nsD l).length (nsD l).length none = (nsD l).length := rfl
          rw [h1, h2, List.take_of_length_le (by rw [List.length_drop]; exact Nat.le_refl _), List.drop_one]
          exact List.map_tail.symm
        rw [ec]
        walk_at "pks"
        refine ⟨_, _, r, _, rfl, .inl rfl, g2, by simp, ?_⟩
        rw [zip_eds]
        have hel : (eds l).length ≤ 24 := by rw [eds_len]; omega
        have hed := eds_Ed fin hl
        refine seqK_nx (sv_seq (sv_asg (ev_lcX2 (iv_list ?_))))
        walk_at "pks"
        refine ⟨_, .inl rfl, by rw [List.length_map]; omega, fun k => ((eds l)[k]?).bind fun e => if e.1.1 = 1 then some (.int (g.f e.2.2 e.1.2)) else none, fun k hk => ?_, ?_⟩
        · have hk : k < (eds l).length := by simpa using hk
          refine ⟨.key (k2 (eds l)[k].1), .key (k2 (eds l)[k].2), nth_of (by rw [List.getElem?_map, List.getElem?_eq_getElem hk]; rfl), ?_⟩
          dsimp only
          rw [List.getElem?_eq_getElem hk]
          have he := hed _ (List.getElem_mem hk)
          generalize (eds l)[k] = e at he
          obtain ⟨⟨u0, u1⟩, ⟨v0, v1⟩⟩ := e
          refine tv_test (ev_op ?_)
          walk_at "pks"
          refine ov_keyL (ov_ixT (e := .int (u0 : Int)) rfl ?_)
          walk_at "pks"
          refine ⟨rfl, fun hp => ?_, fun hp => ?_⟩
          · have hp : u0 = 1 := by have := of_decide_eq_true hp; omega
            subst hp
            have he : v1 ∈ g.X ∧ u1 ∈ g.Y := by
              rcases he with ⟨q, _⟩ | ⟨_, _, q3, q4⟩
              · exact absurd q (show ¬ (1 : Nat) = 0 by decide)
              · exact ⟨q3, q4⟩
            refine ev_dgetOT (ev_sf hT rfl m2.self rfl hT.n4 (ev_tupK ?_))
            walk_at "pks"
            refine ov_keyL (ov_ixT (e := .int (v1 : Int)) rfl ?_)
            walk_at "pks"
            refine ov_keyL (ov_ixT (e := .int (u1 : Int)) rfl ?_)
            walk_at "pks"
            exact ⟨k2 (v1, u1), rfl, by simp [k2], c, _, _, _, rfl, m2.car, rfl, tab2_look he.1 he.2, rfl, rfl⟩
          · have hp : ¬ u0 = 1 := by have := of_decide_eq_false hp; omega
            exact if_neg hp
        rw [List.length_map]
        have eb : (List.range (eds l).length).filterMap (fun k => ((eds l)[k]?).bind fun e => if e.1.1 = 1 then some (D.int (g.f e.2.2 e.1.2)) else none) = (backs g.f l).map D.int := by
          rw [range_fm (eds l) (fun e => if e.1.1 = 1 then some (D.int (g.f e.2.2 e.1.2)) else none) _ fun k hk => by rw [List.getElem?_eq_getElem hk]; rfl]
          unfold backs
          rw [List.map_filterMap]
          refine fm_congr fun e _ => ?_
          by_cases q : e.1.1 = 1
          · rw [if_pos q, if_pos q]; rfl
          · rw [if_neg q, if_neg q]; rfl
        rw [eb]
        refine seqK_nx (sv_seq (sv_asg (ev_cb (ea_cons (ev_op ?_)))))
        walk_at "pks"
        refine ev_dgetO (ev_sf hT rfl m2.self rfl hT.n2 ?_)
        walk_at "pks"
        refine ⟨h, _, kI x0, _, rfl, m2.hav, rfl, tabI_look hv hx0X, ?_⟩
        walk_at "pks"
        refine ev_dgetO (ev_sf hT rfl m2.self rfl hT.n3 ?_)
        walk_at "pks"
        refine ⟨w, _, kI y0, _, rfl, m2.wan, rfl, tabI_look wv hy0, ?_⟩
        walk_at "pks"
        have hbl : (backs g.f l).length ≤ 24 := Nat.le_trans (List.length_filterMap_le _ _) hel
        refine ov_cat (by rw [List.length_map]; simp only [List.length_cons, List.length_nil]; omega) ?_
        walk_at "pks"
        refine cv_minI (ns := hv x0 :: wv y0 :: backs g.f l) (.inl rfl) (by simp) fun a ha hle => ?_
        have ha1 : 1 ≤ a := by
          rcases List.mem_cons.1 ha with q | q
          · omega
          · rcases List.mem_cons.1 q with q | q
            · omega
            · have := backs_pos fin hl a q
              omega
        have hah := hle (hv x0) (by simp)
        have haw := hle (wv y0) (by simp)
        have hab : ∀ b ∈ backs g.f l, a ≤ b := fun b hb => hle b (by simp [hb])
        have hci := carry_ok ci fin hy0 hl hx0X hlast ha1 hah haw hab
        clear hle ha
        refine seqK_nx (sv_seq (sv_forX2 (X := Unit) (fun k _ => [some (.ptr s), some (.lst (((g.Y.filter fun y => decide (0 < wv y)).map fun y => (lab st (1, y), (y : Int))).map fun n => D.tup [.int n.1, .int n.2])), some (.ptr r), some (.int (x0 : Int)), some (.lst ((eds l).map edD)), some (.lst ((backs g.f l).map D.int)), some (.int a), some (.ptr fo), some (.ptr ah), some (.int (lab st (1, y0))), some (.int (y0 : Int)), none, none, none, none]) (fun k _ μ => CM μ s h w c cm ⟨g.c, g.X, g.Y, ((eds l).take k).foldl (aug1 a) g.f⟩ hv wv) (iv_list ?_)))
        walk_at "pks"
        refine ⟨_, .inl rfl, (), by walk_at "le", m2, fun k _ μ3 hk m3 => ?_, fun s' _ hr m3 => ?_⟩
        · have hk : k < (eds l).length := by simpa using hk
          refine ⟨.key (k2 (eds l)[k].1), .key (k2 (eds l)[k].2), nth_of (by rw [List.getElem?_map, List.getElem?_eq_getElem hk]; rfl), ?_⟩
          have ef : ((eds l).take (k + 1)).foldl (aug1 a) g.f = aug1 a (((eds l).take k).foldl (aug1 a) g.f) (eds l)[k] := by
            rw [List.take_succ, List.getElem?_eq_getElem hk, Option.toList_some, List.foldl_append]
            rfl
          have he := hed _ (List.getElem_mem hk)
          have nxt : ∀ (μ4 : Mu) (x y : D), CM μ4 s h w c cm ⟨g.c, g.X, g.Y, aug1 a (((eds l).take k).foldl (aug1 a) g.f) (eds l)[k]⟩ hv wv → InvX (fun k (_ : Unit) => [some (.ptr s), some (.lst (((g.Y.filter fun y => decide (0 < wv y)).map fun y => (lab st (1, y), (y : Int))).map fun n => D.tup [.int n.1, .int n.2])), some (.ptr r), some (.int (x0 : Int)), some (.lst ((eds l).map edD)), some (.lst ((backs g.f l).map D.int)), some (.int a), some (.ptr fo), some (.ptr ah), some (.int (lab st (1, y0))), some (.int (y0 : Int)), none, none, none, none]) (fun k (_ : Unit) μ => CM μ s h w c cm ⟨g.c, g.X, g.Y, ((eds l).take k).foldl (aug1 a) g.f⟩ hv wv) (k + 1) ⟨[some (.ptr s), some (.lst (((g.Y.filter fun y => decide (0 < wv y)).map fun y => (lab st (1, y), (y : Int))).map fun n => D.tup [.int n.1, .int n.2])), some (.ptr r), some (.int (x0 : Int)), some (.lst ((eds l).map edD)), some (.lst ((backs g.f l).map D.int)), some (.int a), some (.ptr fo), some (.ptr ah), some (.int (lab st (1, y0))), some (.int (y0 : Int)), some x, some y, none, none], μ4⟩ := fun μ4 x y hm => by
            refine ⟨(), by walk_at "le", ?_⟩
            show CM μ4 s h w c cm ⟨g.c, g.X, g.Y, ((eds l).take (k + 1)).foldl (aug1 a) g.f⟩ hv wv
            rw [ef]
            exact hm
          clear ef
          generalize (eds l)[k] = e at he nxt ⊢
          generalize ((eds l).take k).foldl (aug1 a) g.f = fk at m3 nxt
          obtain ⟨⟨u0, u1⟩, ⟨v0, v1⟩⟩ := e
          have hpl : (tab2 ⟨g.c, g.X, g.Y, fk⟩).length < 1000 := by
            have := cs.lp
            unfold tab2
            rw [tab_len]
            exact Nat.lt_of_le_of_lt this (by decide)
          refine sv_if (tv_test (ev_op ?_))
          walk_at "pks"
          refine ov_keyL (ov_ixT (e := .int (u0 : Int)) rfl ?_)
          walk_at "pks"
          refine ⟨fun hp => ?_, fun hp => ?_⟩
          · have hp : u0 = 0 := by have := of_decide_eq_true hp; omega
            subst hp
            have he : u1 ∈ g.X ∧ v1 ∈ g.Y := by
              rcases he with ⟨_, _, q3, q4⟩ | ⟨q, _⟩
              · exact ⟨q3, q4⟩
              · exact absurd q (show ¬ (0 : Nat) = 1 by decide)
            refine sv_daugOT (f := fun i j => i + j) hr_add (ev_sf hT rfl m3.self rfl hT.n4 (ev_tupK ?_))
            walk_at "pks"
            refine ov_keyL (ov_ixT (e := .int (u1 : Int)) rfl ?_)
            walk_at "pks"
            refine ov_keyL (ov_ixT (e := .int (v1 : Int)) rfl ?_)
            walk_at "pks"
            refine ⟨k2 (u1, v1), rfl, by simp [k2], c, _, _, _, rfl, m3.car, rfl, tab2_look he.1 he.2, hpl, ?_⟩
            walk_at "pks"
            refine ⟨a, rfl, rfl, ?_⟩
            have et := tab2_put (g := ⟨g.c, g.X, g.Y, fk⟩) he.1 he.2 a
            dsimp only at et ⊢
            rw [et]
            refine nxt _ _ _ ?_
            rw [show aug1 a fk ((0, u1), (v0, v1)) = addAt fk u1 v1 a from if_pos rfl]
            exact m3.carP _
          · have hp : ¬ u0 = 0 := by have := of_decide_eq_false hp; omega
            have he : v1 ∈ g.X ∧ u1 ∈ g.Y := by
              rcases he with ⟨q, _⟩ | ⟨_, _, q3, q4⟩
              · exact absurd q hp
              · exact ⟨q3, q4⟩
            refine sv_daugOT (f := fun i j => i - j) hr_sub (ev_sf hT rfl m3.self rfl hT.n4 (ev_tupK ?_))
            walk_at "pks"
            refine ov_keyL (ov_ixT (e := .int (v1 : Int)) rfl ?_)
            walk_at "pks"
            refine ov_keyL (ov_ixT (e := .int (u1 : Int)) rfl ?_)
            walk_at "pks"
            refine ⟨k2 (v1, u1), rfl, by simp [k2], c, _, _, _, rfl, m3.car, rfl, tab2_look he.1 he.2, hpl, ?_⟩
            walk_at "pks"
            refine ⟨a, rfl, rfl, ?_⟩
            have et := tab2_put (g := ⟨g.c, g.X, g.Y, fk⟩) he.1 he.2 (-a)
            dsimp only at et ⊢
            rw [Int.sub_eq_add_neg, et]
            refine nxt _ _ _ ?_
            rw [show aug1 a fk ((u0, u1), (v0, v1)) = addAt fk v1 u1 (-a) from if_neg hp]
            exact m3.carP _
        · have ek : ((eds l).take ((eds l).map edD).length).foldl (aug1 a) g.f = aug a g.f l := by
            rw [List.length_map, List.take_length]
            rfl
          have m3 : CM s'.m s h w c cm ⟨g.c, g.X, g.Y, aug a g.f l⟩ hv wv := by rw [← ek]; exact m3
          obtain ⟨ρ, μ3⟩ := s'
          obtain ⟨x11, x12, x13, x14, rfl⟩ := le15 hr
          refine seqK_nx (sv_seq (sv_daugO (f := fun i j => i - j) hr_sub (ev_sf hT rfl m3.self rfl hT.n2 ?_)))
          walk_at "pks"
          refine ⟨h, _, kI x0, _, rfl, m3.hav, rfl, tabI_look hv hx0X, by rw [tabI_len]; show g.X.length < 1000; omega, ?_⟩
          walk_at "pks"
          refine ⟨a, rfl, rfl, ?_⟩
          rw [tabI_put _ hx0X]
          have m4 := m3.havP (upN hv x0 (hv x0 - a))
          refine seqK_nx (sv_daugO (f := fun i j => i - j) hr_sub (ev_sf hT rfl m4.self rfl hT.n3 ?_))
          walk_at "pks"
          refine ⟨w, _, kI y0, _, rfl, m4.wan, rfl, tabI_look wv hy0, by rw [tabI_len]; show g.Y.length < 1000; omega, ?_⟩
          walk_at "pks"
          refine ⟨a, rfl, rfl, ?_⟩
          rw [tabI_put _ hy0]
          have m5 := m4.wanP (upN wv y0 (wv y0 - a))
          refine hP _ _ _ _ m5 hci ?_
          rw [sum_upN cs.xn hx0X]
          omega
end Far
namespace Far
open PySem PySem.Spec PyProof.Rows L2 Pw Cg
open FM (Bq)
def c_Carrying_carry_all (T : Cfg) : Ct := fun ds μ P _ => ∃ (s h w c : Addr) (cm : List (List Int)) (g : G) (hv wv H W : Nat → Int), ds = [.ptr s] ∧ CM μ s h w c cm g hv wv ∧ CS cm g ∧ CI g hv wv H W ∧
  ∀ (μ' : Mu) (f' : Nat → Nat → Int) (hv' wv' : Nat → Int), CM μ' s h w c cm ⟨g.c, g.X, g.Y, f'⟩ hv' wv' → CI ⟨g.c, g.X, g.Y, f'⟩ hv' wv' H W → (∀ x ∈ g.X, hv' x = 0) → P .non μ'
theorem len_Carrying_carry_all {T : Cfg} : ∀ ds μ P XP, c_Carrying_carry_all T ds μ P XP → ds.length = 1 := by
  rintro ds μ P XP ⟨s, h, w, c, cm, g, hv, wv, H, W, rfl, _⟩; rfl
def t_Carrying_carry_all (T : Cfg) (E : XK) : TS := (tWhile (tB (tCB (rAny T.K) (tCons (tLockE (tLc (iVals (tFld T.K (tVar 0) "have")) (gName 1) tYes (tOp (rI0 fun i j => .bl (decide (j < i))) (tVar 1) (tC (.int 0))) [1])) tNil))) (tDrop (tMeth (T.cls 2) "carry_on" (spOf T (c_Carrying_carry_on T)) [] E0 (tVar 0) tNil)))
theorem tabI_val {X : List Nat} {f : Nat → Int} {k : Nat} (h : k < X.length) : (((tabI X f)[k]?).map Prod.snd).getD .non = .int (f X[k]) := by
  unfold tabI tab
  rw [List.getElem?_map, List.getElem?_eq_getElem h]
  rfl
theorem pure_Carrying_carry_all {T : Cfg} (hT : CaOk T) : ∀ E ds μ P XP, c_Carrying_carry_all T ds μ P XP → SV T (t_Carrying_carry_all T E) (fun cls dd _ H => E cls dd H) ⟨slots 2 ds, μ⟩ (fnK P XP) := by
  rintro E ds μ P XP ⟨s, h, w, c, cm, g, hv, wv, H, W, rfl, m, cs, ci, hP⟩
  have lx := cs.lx
  have cs' : ∀ f', CS cm ⟨g.c, g.X, g.Y, f'⟩ := fun f' => ⟨cs.xn, cs.yn, cs.x12, cs.y12, cs.at_⟩
  unfold t_Carrying_carry_all
  refine sv_while (fun n S => ∃ (μ' : Mu) (f' : Nat → Nat → Int) (hv' wv' : Nat → Int), S = ⟨[some (.ptr s), none], μ'⟩ ∧ CM μ' s h w c cm ⟨g.c, g.X, g.Y, f'⟩ hv' wv' ∧ CI ⟨g.c, g.X, g.Y, f'⟩ hv' wv' H W ∧ n = ((g.X.map hv').sum).toNat) _ ⟨μ, g.f, hv, wv, rfl, m, ci, rfl⟩ ?_
  rintro n S ⟨μ', f', hv', wv', rfl, m, ci, rfl⟩
  refine tv_B (ev_cb (ea_cons (ev_lockE (d := h) m.hav fun o => ev_lcKX (iv_valsD ?_))))
  refine ev_sf hT rfl (by rw [put_ne m.sh]; exact m.self) rfl hT.n2 ?_
  refine ⟨h, _, o, rfl, put_same, by rw [tabI_len]; show g.X.length ≤ _; omega, put_same, fun k => (g.X[k]?).map fun x => .bl (decide (0 < hv' x)), fun k hk => ?_, put_same, ?_⟩
  · have hk : k < g.X.length := by rw [tabI_len] at hk; exact hk
    dsimp only
    rw [tabI_val hk, List.getElem?_eq_getElem hk]
    refine tv_yes ⟨rfl, fun _ => ?_, fun h => (by cases h)⟩
    walk_at "pks"
    exact ⟨rfl, rfl⟩
  rw [put_put, put_get m.hav, tabI_len]
  have e1 : (List.range g.X.length).filterMap (fun k => (g.X[k]?).map fun x => D.bl (decide (0 < hv' x))) = (g.X.map fun x => decide (0 < hv' x)).map D.bl := by
    rw [range_fm g.X (fun x => some (D.bl (decide (0 < hv' x)))) _ fun k hk => by rw [List.getElem?_eq_getElem hk]; rfl, List.map_map]
    exact fm_mapH (fun x => D.bl (decide (0 < hv' x))) g.X
  show EA T _ _ _ _ _
  rw [e1]
  walk_at "pks"
  refine cv_any (.inl rfl) ?_
  refine ⟨_, rfl, fun hb => ?_, fun hb => ?_⟩
  · rw [List.any_map, List.any_eq_true] at hb
    obtain ⟨x, hx, hp⟩ := hb
    have hp : 0 < hv' x := of_decide_eq_true hp
    refine sv_drop (ev_meth ?_)
    walk_at "pks"
    refine ⟨s, _, rfl, m.self, rfl, ?_⟩
    walk_at "pks"
    refine ⟨s, h, w, c, cm, _, hv', wv', H, W, rfl, m, cs' f', ci, ⟨x, hx, hp⟩, fun μ2 f2 hv2 wv2 m2 ci2 hlt => ?_⟩
    refine ⟨_, ?_, μ2, f2, hv2, wv2, rfl, m2, ci2, rfl⟩
    have h1 := sum_nn ci2.h0
    have h1 : 0 ≤ (g.X.map hv2).sum := h1
    have hlt : (g.X.map hv2).sum < (g.X.map hv').sum := hlt
    omega
  · refine hP _ f' hv' wv' m ci fun x hx => ?_
    have h1 := ci.h0 x hx
    have h2 : ¬ 0 < hv' x := fun hp => by
      have : (g.X.map fun x => decide (0 < hv' x)).any id = true := by
        rw [List.any_map, List.any_eq_true]
        exact ⟨x, hx, decide_eq_true hp⟩
      rw [this] at hb
      cases hb
    omega
def c_Carrying___init__ (T : Cfg) : Ct := fun ds μ P _ => ∃ (s : Addr) (cm : List (List Int)) (X Y : List Nat) (hv wv : Nat → Int) (cf : Nat → Nat → Int), ds = [.ptr s, cmD cm, .dil (tabI X hv), .dil (tabI Y wv)] ∧ μ s = some (.ins 2 []) ∧ X.Nodup ∧ Y.Nodup ∧ (∀ x ∈ X, x < 12) ∧ (∀ y ∈ Y, y < 12) ∧
  ∀ (μ' : Mu) (h w c : Addr), CM μ' s h w c cm ⟨cf, X, Y, fun _ _ => 0⟩ hv wv → P .non μ'
theorem len_Carrying___init__ {T : Cfg} : ∀ ds μ P XP, c_Carrying___init__ T ds μ P XP → ds.length = 4 := by
  rintro ds μ P XP ⟨s, cm, X, Y, hv, wv, cf, rfl, _⟩; rfl
def t_Carrying___init__ (T : Cfg) (E : XK) : TS := (tSeq (sFld T.K (tVar 0) (tVar 1) "costs")
    (tSeq (sFld T.K (tVar 0) (tCB rDictD (tCons (tVar 2) tNil)) "have")
    (tSeq (sFld T.K (tVar 0) (tCB rDictD (tCons (tVar 3) tNil)) "want")
    (tSeq (sFld T.K (tVar 0) tDNewT "carried")
    (tFor (iKeys (tVar 2)) (gName 4) (tDrop (tBM T.K "dict" rUpdT (tFld T.K (tVar 0) "carried") (tCons (tCB (rDictT T.K) (tCons (tLc (iKeys (tVar 3)) (gName 5) tYes (tTup (tCons (tTup (tCons (tVar 4) (tCons (tVar 5) tNil))) (tCons (tC (.int 0)) tNil))) [5]) tNil)) tNil))))))))
theorem nd_lenH {X : List Nat} (h : X.Nodup) (h12 : ∀ x ∈ X, x < 12) : X.length ≤ 12 := by
  have := nodup_len (ks := List.range 12) h fun x hx => List.mem_range.2 (h12 x hx)
  simpa using this
theorem foldl_new {κ : Type} [DecidableEq κ] : ∀ (kds kvs : List (κ × D)), (kds.map Prod.fst).Nodup → (∀ k ∈ kds.map Prod.fst, k ∉ kvs.map Prod.fst) → kds.foldl (fun acc p => putD acc p.1 p.2) kvs = kvs ++ kds := by
  intro kds
  induction kds with
  | nil => intro kvs _ _; simp
  | cons p kds ih =>
    intro kvs hn hd
    rw [List.map_cons, List.nodup_cons] at hn
    have hp : p.1 ∉ kvs.map Prod.fst := hd p.1 (by simp)
    have e : putD kvs p.1 p.2 = kvs ++ [p] := by
      unfold putD
      rw [if_neg hp]
    rw [List.foldl_cons, e, ih _ hn.2, List.append_assoc]
    · rfl
    · intro k hk q
      rw [List.map_append, List.mem_append] at q
      rcases q with q | q
      · exact hd k (by simp only [List.map_cons, List.mem_cons]; exact .inr hk) q
      · have : k = p.1 := by simpa using q
        rw [this] at hk
        exact hn.1 hk
theorem prs_take {cf f : Nat → Nat → Int} {X Y : List Nat} {k : Nat} (hk : k < X.length) : prs ⟨cf, X.take (k + 1), Y, f⟩ = prs ⟨cf, X.take k, Y, f⟩ ++ Y.map fun y => (X[k], y) := by
  unfold prs
  show (X.take (k + 1)).flatMap _ = (X.take k).flatMap _ ++ _
  rw [List.take_succ, List.getElem?_eq_getElem hk, Option.toList_some, List.flatMap_append]
  simp
theorem pure_Carrying___init__ {T : Cfg} (hT : CaOk T) : ∀ E ds μ P XP, c_Carrying___init__ T ds μ P XP → SV T (t_Carrying___init__ T E) (fun cls dd _ H => E cls dd H) ⟨slots 6 ds, μ⟩ (fnK P XP) := by
  rintro E ds μ P XP ⟨s, cm, X, Y, hv, wv, cf, rfl, hs, xn, yn, x12, y12, hP⟩
  have lx := nd_lenH xn x12
  have ly := nd_lenH yn y12
  unfold t_Carrying___init__
  walk_at "pks"
  refine ⟨s, 2, _, rfl, hs, hT.cl, hT.n1, by simp, ?_⟩
  rw [show putG "costs" (cmD cm) [] = ([("costs", cmD cm)] : List (Str × D)) from rfl]
  walk_at "pks"
  refine cv_dictDL fun h hh => ?_
  have sh : s ≠ h := fun e => by rw [← e, put_same] at hh; cases hh
  walk_at "pks"
  refine ⟨s, 2, _, rfl, by rw [put_ne sh, put_same], hT.cl, hT.n2, by simp, ?_⟩
  rw [show putG "have" (.ptr h) [("costs", cmD cm)] = ([("costs", cmD cm), ("have", .ptr h)] : List (Str × D)) from rfl]
  walk_at "pks"
  refine cv_dictDL fun w hw => ?_
  have sw : s ≠ w := fun e => by rw [← e, put_same] at hw; cases hw
  have hw' : h ≠ w := fun e => by rw [← e, put_ne sh.symm, put_same] at hw; cases hw
  walk_at "pks"
  refine ⟨s, 2, _, rfl, by rw [put_ne sw, put_same], hT.cl, hT.n3, by simp, ?_⟩
  rw [show putG "want" (.ptr w) [("costs", cmD cm), ("have", .ptr h)] = ([("costs", cmD cm), ("have", .ptr h), ("want", .ptr w)] : List (Str × D)) from rfl]
  walk_at "pks"
  refine ev_dnewTM fun c hc => ?_
  have sc : s ≠ c := fun e => by rw [← e, put_same] at hc; cases hc
  have wc : w ≠ c := fun e => by rw [← e, put_ne sw.symm, put_same] at hc; cases hc
  have hc' : h ≠ c := fun e => by rw [← e, put_ne sh.symm, put_ne hw', put_ne sh.symm, put_same] at hc; cases hc
  walk_at "pks"
  refine ⟨s, 2, _, rfl, by rw [put_ne sc, put_same], hT.cl, hT.n4, by simp, ?_⟩
  rw [show putG "carried" (.ptr c) [("costs", cmD cm), ("have", .ptr h), ("want", .ptr w)] = carF cm h w c from rfl]
  refine seqK_nx (sv_forX (X := Unit) (fun k _ => [some (.ptr s), some (cmD cm), some (.dil (tabI X hv)), some (.dil (tabI Y wv)), none, none]) (fun k _ μ => μ s = some (.ins 2 (carF cm h w c)) ∧ μ h = some (.dK (tabI X hv)) ∧ μ w = some (.dK (tabI Y wv)) ∧ μ c = some (.dT (tab2 ⟨cf, X.take k, Y, fun _ _ => 0⟩))) (iv_keysL ?_))
  walk_at "pks"
  refine ⟨_, rfl, (), by walk_at "le", ⟨put_same, ?_, ?_, ?_⟩, fun k _ μ1 hk hJ => ?_, fun s' _ hr hJ => ?_⟩
  · rw [put_ne sh.symm, put_ne hc', put_ne sh.symm, put_ne hw', put_ne sh.symm, put_same]
  · rw [put_ne sw.symm, put_ne wc, put_ne sw.symm, put_same]
  · rw [put_ne sc.symm, put_same]
    rfl
  · have hk : k < X.length := by rw [tabI_len] at hk; exact hk
    obtain ⟨j1, j2, j3, j4⟩ := hJ
    dsimp only
    rw [tabI_at hk]
    refine sv_drop (ev_updT (ev_sf hT rfl j1 rfl hT.n4 ?_))
    refine ⟨c, _, rfl, j4, ea_cons (ev_cb (ea_cons (ev_lcX (iv_keysL ?_))))⟩
    walk_at "pks"
    refine ⟨_, rfl, by rw [tabI_len]; omega, fun i => (Y[i]?).map fun y => .tup [.key (k2 (X[k], y)), .int 0], fun i hi => ?_, ?_⟩
    · have hi : i < Y.length := by rw [tabI_len] at hi; exact hi
      dsimp only
      rw [tabI_at hi, List.getElem?_eq_getElem hi]
      refine tv_yes ⟨rfl, fun _ => ?_, fun h => (by cases h)⟩
      refine ev_tup (ea_cons (ev_tupK ?_))
      walk_at "pks"
      refine ⟨k2 (X[k], Y[i]), rfl, by simp [k2], ?_⟩
      walk_at "pks"
      exact ⟨rfl, rfl⟩
    rw [tabI_len]
    have e1 : (List.range Y.length).filterMap (fun i => (Y[i]?).map fun y => D.tup [.key (k2 (X[k], y)), .int 0]) = ((Y.map fun y => (k2 (X[k], y), D.int 0)).map fun kd => .tup [.key kd.1, kd.2]) := by
      rw [range_fm Y (fun y => some (D.tup [.key (k2 (X[k], y)), .int 0])) _ fun k hk => by rw [List.getElem?_eq_getElem hk]; rfl, List.map_map]
      exact fm_mapH (fun y => D.tup [.key (k2 (X[k], y)), .int 0]) Y
    rw [e1]
    walk_at "pks"
    have hnd : (Y.map fun y => (X[k], y)).Nodup := by
      unfold List.Nodup at yn ⊢
      rw [List.pairwise_map]
      exact yn.imp fun {a b} q e => q (by cases e; rfl)
    have ek : (Y.map fun y => (k2 (X[k], y), D.int 0)).map Prod.fst = Y.map fun y => k2 (X[k], y) := by rw [List.map_map]; rfl
    have hnk : ((Y.map fun y => (k2 (X[k], y), D.int 0)).map Prod.fst).Nodup := by
      rw [ek]
      unfold List.Nodup at yn ⊢
      rw [List.pairwise_map]
      exact yn.imp fun {a b} q e => q (by have := k2_inj e; cases this; rfl)
    refine cv_dictT (.inl rfl) hnk ?_
    walk_at "pks"
    have htl : (tab2 ⟨cf, X.take k, Y, fun _ _ => 0⟩).length ≤ 144 := by
      unfold tab2
      rw [tab_len, prs_len]
      show (X.take k).length * Y.length ≤ 12 * 12
      refine Nat.mul_le_mul ?_ ly
      rw [List.length_take]
      omega
    refine ⟨_, _, rfl, j4, by rw [List.length_map]; omega, .inr fun Pr wd => ?_, ?_⟩
    · have := h2_nd (x12 _ (List.getElem_mem hk)) y12 yn Pr wd
      rw [List.map_map] at this ⊢
      exact this
    have ef : (Y.map fun y => (k2 (X[k], y), D.int 0)).foldl (fun acc p => putD acc p.1 p.2) (tab2 ⟨cf, X.take k, Y, fun _ _ => 0⟩) = tab2 ⟨cf, X.take (k + 1), Y, fun _ _ => 0⟩ := by
      rw [foldl_new _ _ hnk]
      · unfold tab2
        rw [prs_take hk]
        unfold tab
        rw [List.map_append, List.map_map]
        rfl
      · intro q hq hq'
        rw [ek] at hq
        obtain ⟨y, hy, rfl⟩ := List.mem_map.1 hq
        unfold tab2 at hq'
        rw [tab_keys] at hq'
        obtain ⟨p, hp, e⟩ := List.mem_map.1 hq'
        have e := k2_inj e
        subst e
        have hm : X[k] ∈ X.take k := (mem_prs.1 hp).1
        obtain ⟨i, hi, e⟩ := List.mem_take_iff_getElem.1 hm
        exact (List.pairwise_iff_getElem.1 xn) i k (by omega) hk (by omega) e
    rw [ef]
    have ne1 : s ≠ c := sc
    exact ⟨(), by walk_at "le", (put_ne sc).trans j1, (put_ne hc').trans j2, (put_ne wc).trans j3, put_same⟩
  · obtain ⟨j1, j2, j3, j4⟩ := hJ
    rw [tabI_len, List.take_length] at j4
    exact hP _ h w c ⟨j1, j2, j3, j4, hw'⟩
def c_Carrying_prices (T : Cfg) : Ct := fun ds μ P _ => ∃ (s h w c : Addr) (cm : List (List Int)) (g : G) (hv wv : Nat → Int), ds = [.ptr s] ∧ CM μ s h w c cm g hv wv ∧ CS cm g ∧ (∃ p, Pot g p) ∧
  ∀ (μ' : Mu) (st : L) (th : Addr), CM μ' s h w c cm g hv wv → Fin g (Vl g) st → μ' th = some (.dK (tabI g.Y fun y => 0 - lab st (1, y))) → th ≠ h → th ≠ w → P (.tup [.dil (tabI g.X fun x => 0 - lab st (0, x)), .ptr th]) μ'
theorem len_Carrying_prices {T : Cfg} : ∀ ds μ P XP, c_Carrying_prices T ds μ P XP → ds.length = 1 := by
  rintro ds μ P XP ⟨s, h, w, c, cm, g, hv, wv, rfl, _⟩; rfl
def t_Carrying_prices (T : Cfg) (E : XK) : TS := (tSeq (tAsg (tMeth (T.cls 2) "led_from" (spOf T (c_Carrying_led_from T)) [] E0 (tVar 0) (tCons (tOp rCat (tLockE (tLc (iKeys (tFld T.K (tVar 0) "have")) (gName 4) tYes (tTup (tCons (tC (.int 0)) (tCons (tVar 4) tNil))) [4])) (tLockE (tLc (iKeys (tFld T.K (tVar 0) "want")) (gName 5) tYes (tTup (tCons (tC (.int 1)) (tCons (tVar 5) tNil))) [5]))) tNil)) (gTup T.K 2 (gCons (gName 2) (gCons (gName 3) gNil))))
    (tSeq (tAsg (tLk (tCB (rDictP T.K) (tCons (tLockE (tLc (iKeys (tFld T.K (tVar 0) "have")) (gName 4) tYes (tTup (tCons (tVar 4) (tCons (tOp (rI0 fun i j => .int (i - j)) (tC (.int 0)) (tDGet (tVar 2) (tTup (tCons (tC (.int 0)) (tCons (tVar 4) tNil))))) tNil))) [4])) tNil))) (gName 1))
    (tRet (tTup (tCons (tVar 1) (tCons (tCB (rDictP T.K) (tCons (tLockE (tLc (iKeys (tFld T.K (tVar 0) "want")) (gName 5) tYes (tTup (tCons (tVar 5) (tCons (tOp (rI0 fun i j => .int (i - j)) (tC (.int 0)) (tDGet (tVar 2) (tTup (tCons (tC (.int 1)) (tCons (tVar 5) tNil))))) tNil))) [5])) tNil)) tNil))))))
theorem CM.del {μ : Mu} {s h w c a : Addr} {cm : List (List Int)} {g : G} {hv wv : Nat → Int} (m : CM μ s h w c cm g hv wv) (h1 : s ≠ a) (h2 : h ≠ a) (h3 : w ≠ a) (h4 : c ≠ a) : CM (Pw.del μ a) s h w c cm g hv wv :=
  ⟨by unfold Pw.del; rw [if_neg h1]; exact m.self, by unfold Pw.del; rw [if_neg h2]; exact m.hav, by unfold Pw.del; rw [if_neg h3]; exact m.wan, by unfold Pw.del; rw [if_neg h4]; exact m.car, m.hw⟩
theorem Vl_nd {g : G} (hx : g.X.Nodup) (hy : g.Y.Nodup) : (Vl g).Nodup := by
  unfold Vl
  rw [List.nodup_append]
  refine ⟨?_, ?_, ?_⟩
  · unfold List.Nodup at hx ⊢
    rw [List.pairwise_map]
    exact hx.imp fun {a b} q e => q (by cases e; rfl)
  · unfold List.Nodup at hy ⊢
    rw [List.pairwise_map]
    exact hy.imp fun {a b} q e => q (by cases e; rfl)
  · intro a ha b hb e
    obtain ⟨x, _, rfl⟩ := List.mem_map.1 ha
    obtain ⟨y, _, rfl⟩ := List.mem_map.1 hb
    cases e
theorem tabI_nd {X : List Nat} {f : Nat → Int} (h : X.Nodup) : ((tabI X f).map Prod.fst).Nodup := by
  unfold tabI
  rw [tab_keys]
  unfold List.Nodup at h ⊢
  rw [List.pairwise_map]
  exact h.imp fun {a b} q e => q (kI_inj _ _ e)
section
variable {T : Cfg} {W : WX} {ρ : List (Option D)} {m0 : Mu} {P : D → Mu → Prop} {XP : XW}
theorem ev_imp {te : TE} {s : S} {P' : D → Mu → Prop} (h : EV T te W s P XP) (k : ∀ d μ, P d μ → P' d μ) : EV T te W s P' XP := fun σ Hb H Q S q x => h σ Hb H Q S (fun d μ v Hb' H' g r p => q d μ v Hb' H' g r (k d μ p)) x
theorem ev_keysC {f : Str} {i : Nat} {te : TE} {s d : Addr} {gs : List (Str × D)} {X : List Nat} {hv : Nat → Int} {q : Nat → D} (hT : CaOk T) (hr : (wipeD ρ [i])[0]? = some (some (.ptr s))) (hr0 : ρ[0]? = some (some (.ptr s))) (hs : m0 s = some (.ins 2 gs)) (hl : gs.lookup f = some (.ptr d)) (hf : NoAttr T.K (T.cls 2) f) (hd : m0 d = some (.dK (tabI X hv))) (lx : X.length ≤ 100000)
    (he : ∀ x ∈ X, ∀ o, EV T te (fun _ _ _ _ => False) ⟨(wipeD ρ [i]).set i (some (.int (x : Int))), put m0 d (.lkK (tabI X hv) o)⟩ (fun z μ => q x = z ∧ μ = put m0 d (.lkK (tabI X hv) o)) (fun _ _ => False)) (p : P (.lst (X.map q)) m0) : EV T (tLockE (tLc (iKeys (tFld T.K (tVar 0) f)) (gName i) tYes te [i])) W ⟨ρ, m0⟩ P XP := by
  have ne : s ≠ d := fun e => by rw [e, hd] at hs; cases hs
  refine ev_lockE (d := d) hd fun o => ev_lcKX (iv_keysD ?_)
  refine ev_sf hT hr0 (by rw [put_ne ne]; exact hs) hl hf ?_
  refine ⟨d, _, o, rfl, put_same, by rw [tabI_len]; omega, put_same, fun k => (X[k]?).map q, fun k hk => ?_, put_same, ?_⟩
  · have hk : k < X.length := by rw [tabI_len] at hk; exact hk
    dsimp only
    rw [tabI_at hk, List.getElem?_eq_getElem hk]
    refine tv_yes ⟨rfl, fun _ => ?_, fun h => (by cases h)⟩
    exact ev_imp (he _ (List.getElem_mem hk) o) fun z μ h => ⟨by rw [← h.1]; rfl, h.2⟩
  rw [put_put, put_get hd, tabI_len]
  have e : (List.range X.length).filterMap (fun k => (X[k]?).map q) = X.map q := by
    rw [range_fm X (fun x => some (q x)) _ fun k hk => by rw [List.getElem?_eq_getElem hk]; rfl]
    exact fm_mapH q X
  rw [e]
  exact p
end
theorem pure_Carrying_prices {T : Cfg} (hT : CaOk T) : ∀ E ds μ P XP, c_Carrying_prices T ds μ P XP → SV T (t_Carrying_prices T E) (fun cls dd _ H => E cls dd H) ⟨slots 6 ds, μ⟩ (fnK P XP) := by
  rintro E ds μ P XP ⟨s, h, w, c, cm, g, hv, wv, rfl, m, cs, pot, hP⟩
  have lx := cs.lx
  have ly := cs.ly
  unfold t_Carrying_prices
  refine sv_seq (sv_asg2 (ev_meth ?_))
  walk_at "pks"
  refine ⟨s, _, rfl, m.self, rfl, ?_⟩
  refine ea_cons (ev_op (ev_keysC (q := fun x => .key (k2 (0, x))) hT rfl rfl m.self rfl hT.n2 m.hav (by omega) (fun x hx o => ?_) (ev_keysC (q := fun y => .key (k2 (1, y))) hT rfl rfl m.self rfl hT.n3 m.wan (by omega) (fun y hy o => ?_) ?_)))
  · refine ev_tupK ?_
    walk_at "pks"
    exact ⟨k2 (0, x), rfl, by simp [k2], rfl, rfl⟩
  · refine ev_tupK ?_
    walk_at "pks"
    exact ⟨k2 (1, y), rfl, by simp [k2], rfl, rfl⟩
  refine ov_cat (by rw [List.length_map, List.length_map]; omega) ?_
  have e1 : (g.X.map fun x => D.key (k2 (0, x))) ++ (g.Y.map fun y => D.key (k2 (1, y))) = nsD (Vl g) := by
    unfold Vl
    show _ = (g.X.map (fun x => ((0, x) : N)) ++ g.Y.map fun y => ((1, y) : N)).map fun n => D.key (k2 n)
    rw [List.map_append, List.map_map, List.map_map]
    rfl
  rw [e1]
  walk_at "pks"
  refine ⟨s, h, w, c, cm, g, hv, wv, Vl g, rfl, m, cs, fun b hb => mem_Vl.1 hb, Vl_nd cs.xn cs.yn, pot, fun μ1 fo ah st m1 gf ga fin => ?_⟩
  have hin : ∀ v, V g v → In st v := fun v hv => (fin.beg v (mem_Vl.2 hv)).1
  have foh : fo ≠ h := fun e => by have := m1.hav; rw [← e, gf] at this; cases this
  have fow : fo ≠ w := fun e => by have := m1.wan; rw [← e, gf] at this; cases this
  refine ⟨_, _, rfl, ?_⟩
  refine seqK_nx (sv_seq (sv_asg (ev_lk (ev_cb (ea_cons (ev_keysC (q := fun x => .tup [.int (x : Int), .int (0 - lab st (0, x))]) hT rfl rfl m1.self rfl hT.n2 m1.hav (by omega) (fun x hx o => ?_) ?_))))))
  · walk_at "pks"
    refine ev_dgetOT (ev_var rfl (ev_tupK ?_))
    walk_at "pks"
    refine ⟨k2 (0, x), rfl, by simp [k2], fo, _, _, _, rfl, by rw [put_ne foh]; exact gf, rfl, In.look (hin _ (.inl ⟨rfl, hx⟩)), ?_⟩
    walk_at "pks"
    exact ⟨rfl, rfl⟩
  walk_at "pks"
  refine cv_dictPM (kds := tabI g.X fun x => 0 - lab st (0, x)) (.inl ?_) (tabI_nd cs.xn) fun a ha => ?_
  · unfold tabI tab
    rw [List.map_map]
    rfl
  obtain ⟨a1, a2, a3, a4⟩ := m1.fresh ha
  refine ⟨a, _, rfl, put_same, ?_⟩
  have m2 := (m1.put (z := .dK (tabI g.X fun x => 0 - lab st (0, x))) a1 a2 a3 a4).del a1 a2 a3 a4
  have fa : fo ≠ a := fun e => by rw [← e, gf] at ha; cases ha
  have gf2 : Pw.del (Pw.put μ1 a (.dK (tabI g.X fun x => 0 - lab st (0, x)))) a fo = some (.dT (foD st.fo)) := by
    unfold Pw.del
    rw [if_neg fa, put_ne fa]
    exact gf
  generalize Pw.del (Pw.put μ1 a (.dK (tabI g.X fun x => 0 - lab st (0, x)))) a = μ2 at m2 gf2
  refine seqK_nx (sv_ret (ev_tup ?_))
  walk_at "pks"
  refine ev_keysC (q := fun y => .tup [.int (y : Int), .int (0 - lab st (1, y))]) hT rfl rfl m2.self rfl hT.n3 m2.wan (by omega) (fun y hy o => ?_) ?_
  · walk_at "pks"
    refine ev_dgetOT (ev_var rfl (ev_tupK ?_))
    walk_at "pks"
    refine ⟨k2 (1, y), rfl, by simp [k2], fo, _, _, _, rfl, by rw [put_ne fow]; exact gf2, rfl, In.look (hin _ (.inr ⟨rfl, hy⟩)), ?_⟩
    walk_at "pks"
    exact ⟨rfl, rfl⟩
  walk_at "pks"
  refine cv_dictPM (kds := tabI g.Y fun y => 0 - lab st (1, y)) (.inl ?_) (tabI_nd cs.yn) fun b hb => ?_
  · unfold tabI tab
    rw [List.map_map]
    rfl
  obtain ⟨b1, b2, b3, b4⟩ := m2.fresh hb
  walk_at "pks"
  exact hP _ st b (m2.put b1 b2 b3 b4) fin put_same (fun e => b2 e.symm) (fun e => b3 e.symm)
end Far
namespace Pw
open PySem PySem.Spec PyProof.Rows L2
open Evl (Ex ex_l ex_t fresh_back)
section
variable {T : Cfg} {W : WX} {ρ : List (Option D)} {m0 μ : Mu} {P : D → Mu → Prop} {XP : XW}
theorem ev_dninL {td ty : TE} (h : EV T ty W ⟨ρ, m0⟩ (fun e μ1 => EV T td W ⟨ρ, μ1⟩ (fun d μ2 => ∃ kvs k, d = .dil kvs ∧ e = kD k ∧ P (.bl (!(lookD kvs k).isSome)) μ2) XP) XP) : EV T (tDNotIn ty td) W ⟨ρ, m0⟩ P XP := fun σ Hb H Q S q x =>
  h σ Hb H _ S (fun d μ1 v Hb1 H1 g1 r1 p1 => p1 σ Hb1 H1 _ (S.go g1) (fun e μ2 w Hb2 H2 g2 r2 p2 => by
    obtain ⟨kvs, k, rfl, rfl, p⟩ := p2
    obtain ⟨a, o, rfl, g, h1, h2⟩ := dgetL_of g2.sub r2 (r1.mono g2.ex)
    refine ⟨a, o, rfl, g, ?_⟩
    have e : o.isSome = (lookD kvs k).isSome := by
      rw [look_val] at h1 h2
      cases q : lookD kvs k with
      | none => rw [h2 q]; rfl
      | some d => obtain ⟨w, hw, _⟩ := h1 d q; rw [hw]; rfl
    rw [e]
    exact q _ _ _ _ _ (g1.trans g2) (.bl _) p)
    (fun y μ' cls dd Hb' H' g r p => x y μ' cls dd Hb' H' (g1.trans g) r p)) x
end
end Pw
namespace Far
open PySem PySem.Spec PyProof.Rows L2 Pw Cg
open FM (Bq)
def Rect (cm : List (List Int)) (n m : Nat) (c : Nat → Nat → Int) : Prop := cm.length = n ∧ ∀ x, x < n → ∃ row, cm[x]? = some row ∧ row.length = m ∧ ∀ y, y < m → row[y]? = some (c x y)
structure Pr (c : Nat → Nat → Int) (n m : Nat) (X Y : List Nat) (hf tf pf qf : Nat → Int) : Prop where
  px : ∀ x ∈ X, pf x = hf x
  qy : ∀ y ∈ Y, qf y = tf y
  qn : ∀ y, y < m → y ∉ Y → (∀ x ∈ X, hf x - c x y ≤ qf y) ∧ ∃ x ∈ X, qf y = hf x - c x y
  pn : ∀ x, x < n → x ∉ X → (∀ y, y < m → pf x ≤ c x y + qf y) ∧ ∃ y, y < m ∧ pf x = c x y + qf y
def c_all_prices (T : Cfg) : Ct := fun ds μ P _ => ∃ (cm : List (List Int)) (n m : Nat) (c : Nat → Nat → Int) (X Y : List Nat) (hf tf : Nat → Int) (th : Addr), ds = [cmD cm, .dil (tabI X hf), .ptr th] ∧ Rect cm n m c ∧ 0 < n ∧ n ≤ 12 ∧ 0 < m ∧ m ≤ 12 ∧ X.Nodup ∧ Y.Nodup ∧ (∀ x ∈ X, x < n) ∧ (∀ y ∈ Y, y < m) ∧ X ≠ [] ∧ μ th = some (.dK (tabI Y tf)) ∧
  ∀ (μ' : Mu) (pf qf : Nat → Int), (∀ a z, a ≠ th → μ a = some z → μ' a = some z) → Pr c n m X Y hf tf pf qf → P (.tup [.lst ((List.range n).map fun x => .int (pf x)), .lst ((List.range m).map fun y => .int (qf y))]) μ'
theorem len_all_prices {T : Cfg} : ∀ ds μ P XP, c_all_prices T ds μ P XP → ds.length = 3 := by
  rintro ds μ P XP ⟨cm, n, m, c, X, Y, hf, tf, th, rfl, _⟩; rfl
def t_all_prices (T : Cfg) (E : XK) : TS := (tSeq (tFor (iRng1 (tCons (tCB (Pw.rLen T.K) (tCons (tOp (rIxL T.K) (tVar 0) (tC (.int 0))) tNil)) tNil)) (gName 3) (tIfS (tB (tDNotIn (tVar 3) (tVar 2))) (sDPut (tVar 2) (tVar 3) (tCB (rMax T.K) (tCons (tLc (iKeys (tVar 1)) (gName 5) tYes (tOp (rI0 fun i j => .int (i - j)) (tDGet (tVar 1) (tVar 5)) (tOp (rIxL T.K) (tOp (rIxL T.K) (tVar 0) (tVar 5)) (tVar 3))) [5]) tNil))) tNext))
    (tSeq (tAsg (tCB rDictD (tCons (tVar 1) tNil)) (gName 4))
    (tSeq (tFor (iEnum T.K (tCons (tVar 0) tNil)) (gTup T.K 2 (gCons (gName 5) (gCons (gName 6) gNil))) (tIfS (tB (tDNotIn (tVar 5) (tVar 1))) (sDPut (tVar 4) (tVar 5) (tCB (rMin T.K) (tCons (tLc (iEnum T.K (tCons (tVar 6) tNil)) (gTup T.K 2 (gCons (gName 3) (gCons (gName 7) gNil))) tYes (tOp (rI0 fun i j => .int (i + j)) (tVar 7) (tDGet (tVar 2) (tVar 3))) [3, 7]) tNil))) tNext))
    (tRet (tTup (tCons (tLc (iRng1 (tCons (tCB (Pw.rLen T.K) (tCons (tVar 0) tNil)) tNil)) (gName 5) tYes (tDGet (tVar 4) (tVar 5)) [5]) (tCons (tLc (iRng1 (tCons (tCB (Pw.rLen T.K) (tCons (tOp (rIxL T.K) (tVar 0) (tC (.int 0))) tNil)) tNil)) (gName 3) tYes (tDGet (tVar 2) (tVar 3)) [3]) tNil)))))))
def more (Y : List Nat) (k : Nat) : List Nat := Y ++ (List.range k).filter fun y => decide (y ∉ Y)
theorem mem_more {Y : List Nat} {k y : Nat} : y ∈ more Y k ↔ y ∈ Y ∨ y < k := by
  unfold more
  rw [List.mem_append, List.mem_filter, List.mem_range]
  constructor
  · rintro (h | h)
    · exact .inl h
    · exact .inr h.1
  · intro h
    by_cases q : y ∈ Y
    · exact .inl q
    · exact .inr ⟨h.resolve_left q, decide_eq_true q⟩
theorem more_s {Y : List Nat} {k : Nat} : more Y (k + 1) = if k ∈ Y then more Y k else more Y k ++ [k] := by
  unfold more
  rw [List.range_succ, List.filter_append]
  by_cases h : k ∈ Y
  · rw [if_pos h]
    simp [h]
  · rw [if_neg h]
    simp [h]
theorem more_len {Y : List Nat} {k n : Nat} (hn : Y.Nodup) (hy : ∀ y ∈ Y, y < n) (hk : k ≤ n) : (more Y k).length ≤ n + n := by
  unfold more
  rw [List.length_append]
  have h1 := nodup_len (ks := List.range n) hn fun x hx => List.mem_range.2 (hy x hx)
  rw [List.length_range] at h1
  have h2 := List.length_filter_le (fun y => decide (y ∉ Y)) (List.range k)
  rw [List.length_range] at h2
  omega
theorem tabI_new {X : List Nat} (f : Nat → Int) {x : Nat} (hx : x ∉ X) (v : Int) : putD (tabI X f) (kI x) (.int v) = tabI (X ++ [x]) (upN f x v) := by
  unfold putD
  have hn : ¬ kI x ∈ (tabI X f).map Prod.fst := fun h => by
    unfold tabI at h
    rw [tab_keys] at h
    obtain ⟨z, hz, e⟩ := List.mem_map.1 h
    exact hx (by rw [← kI_inj _ _ e]; exact hz)
  rw [if_neg hn]
  unfold tabI tab
  rw [List.map_append]
  congr 1
  · refine List.map_congr_left fun a ha => ?_
    have : ¬ a = x := fun e => hx (by rw [← e]; exact ha)
    show (kI a, D.int (f a)) = (kI a, D.int (upN f x v a))
    unfold upN
    rw [if_neg this]
  · show [(kI x, D.int v)] = [(kI x, D.int (upN f x v x))]
    unfold upN
    rw [if_pos rfl]
theorem tabI_some (X : List Nat) (f : Nat → Int) (x : Nat) : (lookD (tabI X f) (kI x)).isSome = decide (x ∈ X) := by
  unfold tabI
  rw [tab_look kI_inj]
  by_cases h : x ∈ X
  · rw [if_pos h]; simp [h]
  · rw [if_neg h]; simp [h]
theorem le8c {a0 a1 a2 : D} : ∀ {ρ : List (Option D)}, leR [some a0, some a1, some a2, none, none, none, none, none] ρ → ∃ p q r s t, ρ = [some a0, some a1, some a2, p, q, r, s, t] := by
  intro ρ h
  match ρ, h.len with
  | [p0, p1, p2, p, q, r, s, t], _ =>
    obtain ⟨rfl, rfl, rfl, _⟩ := h
    exact ⟨p, q, r, s, t, rfl⟩
theorem le8d {a0 a1 a2 a4 : D} : ∀ {ρ : List (Option D)}, leR [some a0, some a1, some a2, none, some a4, none, none, none] ρ → ∃ p q r s, ρ = [some a0, some a1, some a2, p, some a4, q, r, s] := by
  intro ρ h
  match ρ, h.len with
  | [p0, p1, p2, p, p4, q, r, s], _ =>
    obtain ⟨rfl, rfl, rfl, rfl, _⟩ := h
    exact ⟨p, q, r, s, rfl⟩
theorem pure_all_prices {T : Cfg} (hT : ShOk T) : ∀ E ds μ P XP, c_all_prices T ds μ P XP → SV T (t_all_prices T E) (fun cls dd _ H => E cls dd H) ⟨slots 8 ds, μ⟩ (fnK P XP) := by
  rintro E ds μ P XP ⟨cm, n, m, c, X, Y, hf, tf, th, rfl, ⟨rc1, rc2⟩, n0, n12, m0, m12, xn, yn, xl, yl, xe, hth, hP⟩
  have lx := nd_lenH xn fun x hx => Nat.lt_of_lt_of_le (xl x hx) n12
  obtain ⟨row0, z1, z2, z3⟩ := rc2 0 n0
  unfold t_all_prices
  refine sv_seq (sv_forX (X := Nat → Int) (fun k _ => [some (cmD cm), some (.dil (tabI X hf)), some (.ptr th), none, none, none, none, none]) (fun k f μ' => (∀ a z, a ≠ th → μ a = some z → μ' a = some z) ∧ μ' th = some (.dK (tabI (more Y k) f)) ∧ (∀ y ∈ Y, f y = tf y) ∧ ∀ y, y < k → y ∉ Y → (∀ x ∈ X, hf x - c x y ≤ f y) ∧ ∃ x ∈ X, f y = hf x - c x y) (iv_rng1 ?_))
  walk_at "pks"
  refine ov_ixL (.inl rfl) (at_n (k := 0) (a := .lst (row0.map D.int)) (by rw [List.getElem?_map, z1]; rfl)) ?_
  walk_at "pks"
  refine cv_len (.inl rfl) ?_
  walk_at "pks"
  rw [List.length_map, z2]
  refine ⟨by omega, by omega, tf, by walk_at "le", ⟨fun a z _ h => h, ?_, fun y _ => rfl, fun y hy => absurd hy (by omega)⟩, fun k f μ1 hk hJ => ?_, fun s' f hr hJ => ?_⟩
  · rw [hth]
    unfold more
    simp
  · have hk : k < m := by omega
    obtain ⟨j1, j2, j3, j4⟩ := hJ
    have e0 : (0 : Int) + (k : Int) = (k : Int) := by omega
    dsimp only
    rw [e0]
    have hml := more_len yn yl (Nat.le_of_lt hk)
    refine sv_if (tv_B (ev_dninO ?_))
    walk_at "pks"
    refine ⟨th, _, kI k, rfl, j2, rfl, ?_⟩
    rw [tabI_some]
    walk_at "pks"
    refine ⟨fun hb => ?_, fun hb => ?_⟩
    · have hb : k ∉ more Y k := by simpa using hb
      have hkY : k ∉ Y := fun q => hb (mem_more.2 (.inl q))
      refine sv_dputU ?_
      walk_at "pks"
      refine ev_lcX (iv_keysL ?_)
      walk_at "pks"
      refine ⟨_, rfl, by rw [tabI_len]; omega, fun i => (X[i]?).map fun x => .int (hf x - c x k), fun i hi => ?_, ?_⟩
      · have hi : i < X.length := by rw [tabI_len] at hi; exact hi
        dsimp only
        rw [tabI_at hi, List.getElem?_eq_getElem hi]
        refine tv_yes ⟨rfl, fun _ => ?_, fun h => (by cases h)⟩
        obtain ⟨row, r1, r2, r3⟩ := rc2 _ (xl _ (List.getElem_mem hi))
        refine ev_op (ev_dgetL ?_)
        walk_at "pks"
        refine ⟨_, kI X[i], _, rfl, rfl, tabI_look hf (List.getElem_mem hi), ?_⟩
        walk_at "pks"
        refine ov_ixL (.inl rfl) (at_n (k := X[i]) (a := .lst (row.map D.int)) (by rw [List.getElem?_map, r1]; rfl)) ?_
        walk_at "pks"
        refine ov_ixL (.inl rfl) (at_n (k := k) (a := .int (c X[i] k)) (by rw [List.getElem?_map, r3 k hk]; rfl)) ?_
        walk_at "pks"
        exact ⟨rfl, rfl⟩
      rw [tabI_len]
      have e1 : (List.range X.length).filterMap (fun i => (X[i]?).map fun x => D.int (hf x - c x k)) = (X.map fun x => hf x - c x k).map D.int := by
        rw [range_fm X (fun x => some (D.int (hf x - c x k))) _ fun k hk => by rw [List.getElem?_eq_getElem hk]; rfl, List.map_map]
        exact fm_mapH (fun x => D.int (hf x - c x k)) X
      rw [e1]
      walk_at "pks"
      refine cv_maxI (.inl rfl) (by rw [List.length_map]; exact List.length_pos_iff.2 xe) fun v hv hmx => ?_
      walk_at "pks"
      refine ⟨th, _, kI k, rfl, j2, rfl, by rw [tabI_len]; omega, ?_⟩
      rw [tabI_new _ hb]
      refine ⟨upN f k v, by walk_at "le", fun a z ne h => (put_ne ne).trans (j1 a z ne h), ?_, fun y hy => ?_, fun y hy hyY => ?_⟩
      · have := more_s (Y := Y) (k := k)
        rw [if_neg hkY] at this
        rw [this]
        exact put_same
      · rw [← j3 y hy]
        unfold upN
        rw [if_neg (fun e => hkY (by rw [← e]; exact hy))]
      · unfold upN
        by_cases e : y = k
        · rw [if_pos e, e]
          refine ⟨fun x hx => hmx _ (List.mem_map.2 ⟨x, hx, rfl⟩), ?_⟩
          obtain ⟨x, hx, q⟩ := List.mem_map.1 hv
          exact ⟨x, hx, q.symm⟩
        · rw [if_neg e]
          exact j4 y (by omega) hyY
    · have hb : k ∈ more Y k := by simpa using hb
      have hkY : k ∈ Y := (mem_more.1 hb).resolve_right (by omega)
      walk_at "pks"
      refine ⟨f, by walk_at "le", j1, ?_, j3, fun y hy hyY => j4 y ?_ hyY⟩
      · have := more_s (Y := Y) (k := k)
        rw [if_pos hkY] at this
        rw [this]
        exact j2
      · have : y ≠ k := fun e => hyY (by rw [e]; exact hkY)
        omega
  · have em : ((m : Int)).toNat = m := by omega
    rw [em] at hJ
    obtain ⟨j1, j2, j3, j4⟩ := hJ
    obtain ⟨ρ, μ1⟩ := s'
    obtain ⟨x3, x4, x5, x6, x7, rfl⟩ := le8c hr
    refine seqK_nx (sv_seq (sv_asg ?_))
    walk_at "pks"
    refine cv_dictDL fun so hso => ?_
    have j1 : ∀ a z, a ≠ th → μ a = some z → μ1 a = some z := j1
    have j2 : μ1 th = some (.dK (tabI (more Y m) f)) := j2
    have nts : th ≠ so := fun e => by rw [← e, j2] at hso; cases hso
    refine seqK_nx (sv_seq (sv_forX2 (X := Nat → Int) (fun k _ => [some (cmD cm), some (.dil (tabI X hf)), some (.ptr th), none, some (.ptr so), none, none, none]) (fun k p μ' => (∀ a z, a ≠ th → μ a = some z → μ' a = some z) ∧ μ' th = some (.dK (tabI (more Y m) f)) ∧ μ' so = some (.dK (tabI (more X k) p)) ∧ (∀ x ∈ X, p x = hf x) ∧ ∀ x, x < k → x ∉ X → (∀ y, y < m → p x ≤ c x y + f y) ∧ ∃ y, y < m ∧ p x = c x y + f y) (iv_enum ?_)))
    walk_at "pks"
    have hcl : (cm.map fun r => D.lst (r.map D.int)).length = n := by rw [List.length_map, rc1]
    refine ⟨_, _, rfl, .inl rfl, hf, by walk_at "le", ⟨fun a z ne h => ?_, (put_ne nts).trans j2, ?_, fun x _ => rfl, fun x hx => absurd hx (by omega)⟩, fun k p μ2 hk hJ => ?_, fun s' p hr hJ => ?_⟩
    · have nas : a ≠ so := fun e => by rw [← e, j1 a z ne h] at hso; cases hso
      exact (put_ne nas).trans (j1 a z ne h)
    · rw [put_same]
      unfold more
      simp
    · have hk : k < n := by rw [hcl] at hk; exact hk
      obtain ⟨i1, i2, i3, i4, i5⟩ := hJ
      obtain ⟨row, r1, r2, r3⟩ := rc2 k hk
      refine ⟨.int (k : Int), .lst (row.map D.int), ?_, ?_⟩
      · dsimp only
        rw [nth_of (d := .lst (row.map D.int)) (by rw [List.getElem?_map, r1]; rfl)]
      have hml := more_len xn xl (Nat.le_of_lt hk)
      refine sv_if (tv_B (ev_dninL ?_))
      walk_at "pks"
      refine ⟨_, kI k, rfl, rfl, ?_⟩
      rw [tabI_some]
      walk_at "pks"
      refine ⟨fun hb => ?_, fun hb => ?_⟩
      · have hkX : k ∉ X := by simpa using hb
        have hkm : k ∉ more X k := fun q => (mem_more.1 q).elim hkX (by omega)
        refine sv_dputU ?_
        walk_at "pks"
        refine ev_lcX2 (iv_enum ?_)
        walk_at "pks"
        refine ⟨_, _, rfl, .inl rfl, by rw [List.length_map, r2]; omega, fun y => some (.int (c k y + f y)), fun y hy => ?_, ?_⟩
        · have hy : y < m := by rw [List.length_map, r2] at hy; exact hy
          refine ⟨.int (y : Int), .int (c k y), ?_, ?_⟩
          · dsimp only
            rw [nth_of (d := .int (c k y)) (by rw [List.getElem?_map, r3 y hy]; rfl)]
          refine tv_yes ⟨rfl, fun _ => ?_, fun h => (by cases h)⟩
          walk_at "pks"
          refine ev_dgetO ?_
          walk_at "pks"
          refine ⟨th, _, kI y, _, rfl, i2, rfl, tabI_look f (mem_more.2 (.inr hy)), ?_⟩
          walk_at "pks"
          exact ⟨rfl, rfl⟩
        rw [List.length_map, r2]
        have e1 : (List.range m).filterMap (fun y => some (D.int (c k y + f y))) = ((List.range m).map fun y => c k y + f y).map D.int := by
          rw [List.map_map]
          exact fm_mapH (fun y => D.int (c k y + f y)) (List.range m)
        rw [e1]
        walk_at "pks"
        refine cv_minI (.inl rfl) (by rw [List.length_map, List.length_range]; exact m0) fun v hv hmx => ?_
        walk_at "pks"
        refine ⟨so, _, kI k, rfl, i3, rfl, by rw [tabI_len]; omega, ?_⟩
        rw [tabI_new _ hkm]
        refine ⟨upN p k v, by walk_at "le", fun a z ne h => ?_, (put_ne nts).trans i2, ?_, fun y hy => ?_, fun y hy hyY => ?_⟩
        · have nas : a ≠ so := fun e => by rw [← e, j1 a z ne h] at hso; cases hso
          exact (put_ne nas).trans (i1 a z ne h)
        · have := more_s (Y := X) (k := k)
          rw [if_neg hkX] at this
          rw [this]
          exact put_same
        · rw [← i4 y hy]
          unfold upN
          rw [if_neg (fun e => hkX (by rw [← e]; exact hy))]
        · unfold upN
          by_cases e : y = k
          · rw [if_pos e, e]
            refine ⟨fun x hx => hmx _ (List.mem_map.2 ⟨x, List.mem_range.2 hx, rfl⟩), ?_⟩
            obtain ⟨x, hx, q⟩ := List.mem_map.1 hv
            exact ⟨x, List.mem_range.1 hx, q.symm⟩
          · rw [if_neg e]
            exact i5 y (by omega) hyY
      · have hkX : k ∈ X := by simpa using hb
        walk_at "pks"
        refine ⟨p, by walk_at "le", i1, i2, ?_, i4, fun y hy hyY => i5 y ?_ hyY⟩
        · have := more_s (Y := X) (k := k)
          rw [if_pos hkX] at this
          rw [this]
          exact i3
        · have : y ≠ k := fun e => hyY (by rw [e]; exact hkX)
          omega
    · rw [hcl] at hJ
      obtain ⟨i1, i2, i3, i4, i5⟩ := hJ
      obtain ⟨ρ, μ2⟩ := s'
      obtain ⟨x3, x5, x6, x7, rfl⟩ := le8d hr
      have i1 : ∀ a z, a ≠ th → μ a = some z → μ2 a = some z := i1
      have i2 : μ2 th = some (.dK (tabI (more Y m) f)) := i2
      have i3 : μ2 so = some (.dK (tabI (more X n) p)) := i3
      refine seqK_nx (sv_ret (ev_tup (ea_cons (ev_lcX (iv_rng1 ?_)))))
      walk_at "pks"
      refine cv_len (.inl rfl) ?_
      walk_at "pks"
      rw [hcl]
      refine ⟨by omega, by omega, by omega, fun x => some (.int (p x)), fun x hx => ?_, ?_⟩
      · have hx : x < n := by omega
        have e0 : (0 : Int) + (x : Int) = (x : Int) := by omega
        dsimp only
        rw [e0]
        refine tv_yes ⟨rfl, fun _ => ?_, fun h => (by cases h)⟩
        refine ev_dgetO ?_
        walk_at "pks"
        exact ⟨so, _, kI x, _, rfl, i3, rfl, tabI_look p (mem_more.2 (.inr hx)), rfl, rfl⟩
      have en : ((n : Int)).toNat = n := by omega
      have e1 : (List.range n).filterMap (fun x => some (D.int (p x))) = (List.range n).map fun x => D.int (p x) := fm_mapH (fun x => D.int (p x)) (List.range n)
      rw [en, e1]
      refine ea_cons (ev_lcX (iv_rng1 ?_))
      walk_at "pks"
      refine ov_ixL (.inl rfl) (at_n (k := 0) (a := .lst (row0.map D.int)) (by rw [List.getElem?_map, z1]; rfl)) ?_
      walk_at "pks"
      refine cv_len (.inl rfl) ?_
      walk_at "pks"
      rw [List.length_map, z2]
      refine ⟨by omega, by omega, by omega, fun x => some (.int (f x)), fun x hx => ?_, ?_⟩
      · have hx : x < m := by omega
        have e0 : (0 : Int) + (x : Int) = (x : Int) := by omega
        dsimp only
        rw [e0]
        refine tv_yes ⟨rfl, fun _ => ?_, fun h => (by cases h)⟩
        refine ev_dgetO ?_
        walk_at "pks"
        exact ⟨th, _, kI x, _, rfl, i2, rfl, tabI_look f (mem_more.2 (.inr hx)), rfl, rfl⟩
      have e2 : (List.range m).filterMap (fun x => some (D.int (f x))) = (List.range m).map fun x => D.int (f x) := fm_mapH (fun x => D.int (f x)) (List.range m)
      rw [em, e2]
      walk_at "pks"
      exact hP _ p f i1 ⟨i4, j3, j4, i5⟩
end Far
namespace Far
open PySem PySem.Spec PyProof.Rows L2 Pw
open FM (Bq)
structure FS where
  hr : List Nat
  wr : List Nat
  rows : List (List Nat)
  sp : List (Nat × Nat)
def FS.amt (s : FS) (x y : Nat) : Nat := min (s.hr.getD x 0) (s.wr.getD y 0)
def FS.step (s : FS) (k x y : Nat) : FS := ⟨s.hr.set x (s.hr.getD x 0 - s.amt x y), s.wr.set y (s.wr.getD y 0 - s.amt x y), s.rows.set x ((s.rows.getD x []).set y (s.amt x y)), s.sp.eraseIdx k⟩
inductive FS.To (s : FS) : FS → Prop
  | refl : FS.To s s
  | step {t : FS} {k x y : Nat} (h : FS.To s t) (hk : t.sp[k]? = some (x, y)) : FS.To s (t.step k x y)
def grid (n m : Nat) : List (Nat × Nat) := (List.range n).flatMap fun x => (List.range m).map fun y => (x, y)
def FS.start (hs ws : List Nat) : FS := ⟨hs, ws, List.replicate hs.length (List.replicate ws.length 0), grid hs.length ws.length⟩
structure FS.Wk (n m N : Nat) (s : FS) : Prop where
  lh : s.hr.length = n
  lw : s.wr.length = m
  bh : ∀ h ∈ s.hr, h ≤ N
  bw : ∀ h ∈ s.wr, h ≤ N
  lr : s.rows.length = n
  br : ∀ r ∈ s.rows, r.length = m ∧ ∀ h ∈ r, h ≤ N
  bs : ∀ z ∈ s.sp, z.1 < n ∧ z.2 < m
theorem mem_setD {α : Type} {l : List α} {i : Nat} {v x : α} (h : x ∈ l.set i v) : x = v ∨ x ∈ l := by
  rcases List.mem_or_eq_of_mem_set h with h | h
  · exact .inr h
  · exact .inl h
theorem getD_memH {l : List Nat} {i : Nat} (h : i < l.length) : l.getD i 0 ∈ l := by
  rw [List.getD_eq_getElem?_getD, List.getElem?_eq_getElem h]
  exact List.getElem_mem h
theorem FS.Wk.step {n m N : Nat} {s : FS} (h : s.Wk n m N) {k x y : Nat} (hk : s.sp[k]? = some (x, y)) : (s.step k x y).Wk n m N := by
  have hxy := h.bs _ (List.mem_of_getElem? hk)
  have hx : x < n := hxy.1
  have hy : y < m := hxy.2
  have h1 : s.hr.getD x 0 ≤ N := h.bh _ (getD_memH (by rw [h.lh]; exact hx))
  have h2 : s.wr.getD y 0 ≤ N := h.bw _ (getD_memH (by rw [h.lw]; exact hy))
  have ha : s.amt x y ≤ N := by unfold FS.amt; omega
  refine ⟨by simp [FS.step, h.lh], by simp [FS.step, h.lw], fun z hz => ?_, fun z hz => ?_, by simp [FS.step, h.lr], fun r hr => ?_, fun z hz => ?_⟩
  · rcases mem_setD hz with e | e
    · omega
    · exact h.bh z e
  · rcases mem_setD hz with e | e
    · omega
    · exact h.bw z e
  · rcases mem_setD hr with e | e
    · have hr0 : s.rows.getD x [] ∈ s.rows := by
        rw [List.getD_eq_getElem?_getD, List.getElem?_eq_getElem (by rw [h.lr]; exact hx)]
        exact List.getElem_mem _
      have := h.br _ hr0
      subst e
      refine ⟨by rw [List.length_set]; exact this.1, fun z hz => ?_⟩
      rcases mem_setD hz with e | e
      · omega
      · exact this.2 z e
    · exact h.br r e
  · exact h.bs z (List.mem_of_mem_eraseIdx hz)
theorem FS.To.wk {n m N : Nat} {s t : FS} (h : s.Wk n m N) (k : s.To t) : t.Wk n m N := by
  induction k with
  | refl => exact h
  | step _ hk ih => exact ih.step hk
theorem FS.To.len {s t : FS} (k : s.To t) : t.sp.length ≤ s.sp.length := by
  induction k with
  | refl => exact Nat.le_refl _
  | @step t k x y _ hk ih =>
    have : (t.sp.eraseIdx k).length ≤ t.sp.length := List.length_eraseIdx_le _ _
    exact Nat.le_trans this ih
section
variable {T : Cfg} {μ : Mu} {P : D → Mu → Prop}
end
end Far
namespace Far
open PySem PySem.Spec PyProof.Rows L2 Pw
theorem getD_set {l : List Nat} {i j v : Nat} (h : i < l.length) : (l.set i v).getD j 0 = if j = i then v else l.getD j 0 := by
  rw [List.getD_eq_getElem?_getD, List.getElem?_set]
  by_cases e : i = j
  · subst e
    simp [h]
  · rw [if_neg e, if_neg (fun z => e z.symm), ← List.getD_eq_getElem?_getD]
theorem getD_setR {l : List (List Nat)} {i j : Nat} {v : List Nat} (h : i < l.length) : (l.set i v).getD j [] = if j = i then v else l.getD j [] := by
  rw [List.getD_eq_getElem?_getD, List.getElem?_set]
  by_cases e : i = j
  · subst e
    simp [h]
  · rw [if_neg e, if_neg (fun z => e z.symm), ← List.getD_eq_getElem?_getD]
theorem sum_setD {l : List Nat} {i v : Nat} (h : i < l.length) : (l.set i v).sum + l.getD i 0 = l.sum + v := by
  have := sum_setH (v := v) h
  rw [List.getD_eq_getElem?_getD, List.getElem?_eq_getElem h]
  exact this
def colN (rows : List (List Nat)) (j : Nat) : Nat := (rows.map fun r => r.getD j 0).sum
theorem col_set {rows : List (List Nat)} {i j : Nat} {v : List Nat} (h : i < rows.length) : colN (rows.set i v) j + (rows.getD i []).getD j 0 = colN rows j + v.getD j 0 := by
  unfold colN
  rw [List.map_set]
  have := sum_setD (l := rows.map fun r => r.getD j 0) (v := v.getD j 0) (by rw [List.length_map]; exact h)
  have e : (rows.map fun r => r.getD j 0).getD i 0 = (rows.getD i []).getD j 0 := by
    rw [List.getD_eq_getElem?_getD (l := rows.map _), List.getElem?_map, List.getD_eq_getElem?_getD (l := rows), List.getElem?_eq_getElem h]
    rfl
  rw [e] at this
  exact this
structure FS.Iv (hs ws : List Nat) (s : FS) : Prop where
  nd : s.sp.Nodup
  ri : ∀ i, i < hs.length → (s.rows.getD i []).sum + s.hr.getD i 0 = hs.getD i 0
  ci : ∀ j, j < ws.length → colN s.rows j + s.wr.getD j 0 = ws.getD j 0
  ze : ∀ x y, (x, y) ∈ s.sp → (s.rows.getD x []).getD y 0 = 0
  vi : ∀ x y, x < hs.length → y < ws.length → (x, y) ∉ s.sp → s.hr.getD x 0 = 0 ∨ s.wr.getD y 0 = 0
  eq : s.hr.sum = s.wr.sum
theorem FS.Iv.step {hs ws : List Nat} {N : Nat} {s : FS} (h : s.Iv hs ws) (wk : s.Wk hs.length ws.length N) {k x y : Nat} (hk : s.sp[k]? = some (x, y)) : (s.step k x y).Iv hs ws := by
  have hxy := wk.bs _ (List.mem_of_getElem? hk)
  have hx : x < hs.length := hxy.1
  have hy : y < ws.length := hxy.2
  have lx : x < s.hr.length := by rw [wk.lh]; exact hx
  have ly : y < s.wr.length := by rw [wk.lw]; exact hy
  have lr : x < s.rows.length := by rw [wk.lr]; exact hx
  have lry : y < (s.rows.getD x []).length := by
    have : s.rows.getD x [] ∈ s.rows := by
      rw [List.getD_eq_getElem?_getD, List.getElem?_eq_getElem lr]
      exact List.getElem_mem _
    rw [(wk.br _ this).1]
    exact hy
  have hz := h.ze x y (List.mem_of_getElem? hk)
  have a1 : s.amt x y ≤ s.hr.getD x 0 := Nat.min_le_left _ _
  have a2 : s.amt x y ≤ s.wr.getD y 0 := Nat.min_le_right _ _
  have a3 : s.amt x y = s.hr.getD x 0 ∨ s.amt x y = s.wr.getD y 0 := by unfold FS.amt; omega
  have mem : ∀ z, z ∈ s.sp.eraseIdx k → z ∈ s.sp ∧ z ≠ (x, y) := fun z hz => by
    rw [List.mem_eraseIdx_iff_getElem?] at hz
    obtain ⟨i, hi, e⟩ := hz
    refine ⟨List.mem_of_getElem? e, fun ez => hi ?_⟩
    subst ez
    exact (List.getElem?_inj (List.getElem?_eq_some_iff.mp e).1 h.nd).mp (e.trans hk.symm)
  have nmem : ∀ z, z ∉ s.sp.eraseIdx k → z ≠ (x, y) → z ∉ s.sp := fun z hz hne hm => by
    obtain ⟨i, hi⟩ := List.getElem?_of_mem hm
    refine hz (List.mem_eraseIdx_iff_getElem?.mpr ⟨i, fun e => ?_, hi⟩)
    subst e
    rw [hk] at hi
    exact hne (Option.some.inj hi).symm
  refine ⟨h.nd.sublist (List.eraseIdx_sublist _ _), fun i hi => ?_, fun j hj => ?_, fun x' y' hm => ?_, fun x' y' hx' hy' hm => ?_, ?_⟩
  · show ((s.rows.set x _).getD i []).sum + (s.hr.set x _).getD i 0 = _
    rw [getD_setR lr, getD_set lx]
    have := h.ri i hi
    by_cases e : i = x
    · subst e
      rw [if_pos rfl, if_pos rfl]
      have hs' := sum_setD (v := s.amt i y) lry
      omega
    · rw [if_neg e, if_neg e]
      exact this
  · show colN (s.rows.set x _) j + (s.wr.set y _).getD j 0 = _
    have := h.ci j hj
    have hc := col_set (j := j) (v := (s.rows.getD x []).set y (s.amt x y)) lr
    rw [getD_set lry] at hc
    rw [getD_set ly]
    by_cases e : j = y
    · subst e
      rw [if_pos rfl] at hc ⊢
      omega
    · rw [if_neg e] at hc ⊢
      omega
  · obtain ⟨hm', hne⟩ := mem _ hm
    show ((s.rows.set x _).getD x' []).getD y' 0 = 0
    rw [getD_setR lr]
    by_cases e : x' = x
    · subst e
      rw [if_pos rfl, getD_set lry, if_neg (fun z => hne (by rw [z]))]
      exact h.ze x' y' hm'
    · rw [if_neg e]
      exact h.ze x' y' hm'
  · show (s.hr.set x _).getD x' 0 = 0 ∨ (s.wr.set y _).getD y' 0 = 0
    rw [getD_set lx, getD_set ly]
    by_cases e : (x', y') = (x, y)
    · cases e
      rw [if_pos rfl, if_pos rfl]
      omega
    · have := h.vi x' y' hx' hy' (nmem _ hm e)
      rcases this with q | q
      · left
        split
        · rename_i e; subst e; omega
        · exact q
      · right
        split
        · rename_i e; subst e; omega
        · exact q
  · show (s.hr.set x _).sum = (s.wr.set y _).sum
    have e1 := sum_setD (v := s.hr.getD x 0 - s.amt x y) lx
    have e2 := sum_setD (v := s.wr.getD y 0 - s.amt x y) ly
    have := h.eq
    omega
end Far
namespace Far
open PySem PySem.Spec PyProof.Rows L2 Pw
open FM (Bq)
def Od.val : Od → Rat
  | .pr q => q
  | _ => 0
abbrev plS (rows : List (List Od)) : D := .lst (rows.map fun r => .lst (r.map odS))
def OkP (rows : List (List Od)) (fs ss : List Rat) : Prop := rows.length = fs.length ∧ (∀ r ∈ rows, r.length = ss.length ∧ ∀ o ∈ r, o.isP = true ∧ 0 ≤ o.val) ∧
  (∀ (k : Nat) (r : List Od) (f : Rat), rows[k]? = some r → fs[k]? = some f → (r.map Od.val).sum = f) ∧ ∀ (j : Nat) (s : Rat), ss[j]? = some s → (rows.map fun r => (r.getD j .zero).val).sum = s
def PlOk (n l : Nat) (rows : List (List Od)) : Prop := rows.length ≤ l ∧ ∀ r ∈ rows, r.length ≤ l ∧ ∀ o ∈ r, o.bq n
def rowB (long : Nat) : D → Bool
  | .lst es => es.all isSh && (decide ((es.length : Int) = (long : Int)) && (es.map unSh).all fun q => decide (0 ≤ q))
  | _ => false
inductive RowT (T : Cfg) : D → Prop
  | od (os : List Od) (h : os.length ≤ 100) : RowT T (.lst (os.map odS))
  | no {d : D} {t : Value} (h : Thing T d t) (k : kindOf d "list" = false) : RowT T d
def c_none_below (T : Cfg) : PC := fun ds P _ => ∃ qs : List Rat, ds = [shL qs] ∧ qs.length ≤ 1000 ∧ P (.bl (qs.all fun q => decide (0 ≤ q)))
def c_are_rows (T : Cfg) : PC := fun ds P _ => ∃ (d : D) (many long : Nat), ds = [d, .int many, .int long] ∧ ((∃ t, Thing T d t ∧ kindOf d "list" = false ∧ P (.bl false)) ∨ ∃ es : List D, d = .lst es ∧ es.length ≤ 1000 ∧ (∀ e ∈ es, RowT T e) ∧ P (.bl (decide ((es.length : Int) = (many : Int)) && es.all (rowB long))))
inductive PlT (T : Cfg) (fs ss : List Rat) : D → Prop → Prop
  | od (rows : List (List Od)) (h : PlOk 60 16 rows) : PlT T fs ss (plS rows) (OkP rows fs ss)
  | no1 {d : D} {t : Value} (h : Thing T d t) (k : kindOf d "list" = false) : PlT T fs ss d False
  | no2 {es : List D} (h : es ≠ []) (hl : es.length ≤ 100) (k : ∀ e ∈ es, ∃ t, Thing T e t ∧ kindOf e "list" = false) : PlT T fs ss (.lst es) False
def c_is_plan (T : Cfg) : PC := fun ds P _ => ∃ (d : D) (fs ss : List Rat) (pp : Prop), ds = [d, shL fs, shL ss] ∧ fs.length ≤ 12 ∧ ss.length ≤ 12 ∧ PlT T fs ss d pp ∧ ∀ b : Bool, (b = true ↔ pp) → P (.bl b)
theorem len_none_below {T : Cfg} : ∀ ds μ P XP, pu (c_none_below T) ds μ P XP → ds.length = 1 := by
  rintro ds μ P XP ⟨rfl, Pf, Xf, ⟨d, rfl, _⟩, _⟩; rfl
theorem len_are_rows {T : Cfg} : ∀ ds μ P XP, pu (c_are_rows T) ds μ P XP → ds.length = 3 := by
  rintro ds μ P XP ⟨rfl, Pf, Xf, ⟨d, m, l, rfl, _⟩, _⟩; rfl
theorem len_is_plan {T : Cfg} : ∀ ds μ P XP, pu (c_is_plan T) ds μ P XP → ds.length = 3 := by
  rintro ds μ P XP ⟨rfl, Pf, Xf, ⟨d, f, s, p, rfl, _⟩, _⟩; rfl
def t_none_below (T : Cfg) (E : XK) : TS := (tRet (tCB (rAll T.K) (tCons (tLc (iList T.K (tVar 0)) (gName 1) tYes (tOp (rI0 fun i j => .bl (decide (j ≤ i))) (tFld T.K (tVar 1) "top") (tC (.int 0))) [1]) tNil)))
def t_are_rows (T : Cfg) (E : XK) : TS := (tSeq (tIfS (tOr (tNot (tB (tCB (rIsi T.K) (tCons (tVar 0) (tCons (tC (.ty "list")) tNil))))) (tTest (tOp rNe (tCB (Pw.rLen T.K) (tCons (tVar 0) tNil)) (tVar 1)))) (tRet (tC (.bl false))) tNext)
    (tRet (tCB (rAll T.K) (tCons (tLc (iList T.K (tVar 0)) (gName 3) tYes (tAndV (tCall (spOf T (pu (c_are_shares T))) [] E0 (tCons (tVar 3) tNil)) (tAndV (tOp rEq (tCB (Pw.rLen T.K) (tCons (tVar 3) tNil)) (tVar 2)) (tCall (spOf T (pu (c_none_below T))) [] E0 (tCons (tVar 3) tNil)))) [3]) tNil))))
def t_is_plan (T : Cfg) (E : XK) : TS := (tSeq (tIfS (tNot (tB (tCall (spOf T (pu (c_are_rows T))) [] E0 (tCons (tVar 0) (tCons (tCB (Pw.rLen T.K) (tCons (tVar 1) tNil)) (tCons (tCB (Pw.rLen T.K) (tCons (tVar 2) tNil)) tNil)))))) (tRet (tC (.bl false))) tNext)
    (tSeq (tIfS (tNot (tB (tCB (rAll T.K) (tCons (tLc (iZip T.K (tCons (tVar 0) (tCons (tVar 1) tNil))) (gTup T.K 2 (gCons (gName 5) (gCons (gName 4) gNil))) tYes (tOp (rOwnEq T.K (T.cls 0) (spOf T (pu (c_Share___eq__ T))) E0) (tCall (spOf T (pu (c_sum_of T))) [] E0 (tCons (tVar 5) tNil)) (tVar 4)) [5, 4]) tNil)))) (tRet (tC (.bl false))) tNext)
    (tRet (tCB (rAll T.K) (tCons (tLc (iEnum T.K (tCons (tVar 2) tNil)) (gTup T.K 2 (gCons (gName 3) (gCons (gName 4) gNil))) tYes (tOp (rOwnEq T.K (T.cls 0) (spOf T (pu (c_Share___eq__ T))) E0) (tCall (spOf T (pu (c_sum_of T))) [] E0 (tCons (tLc (iList T.K (tVar 0)) (gName 5) tYes (tOp (rIxL T.K) (tVar 5) (tVar 3)) [5]) tNil)) (tVar 4)) [3, 4]) tNil)))))
theorem num_ge (q : Rat) : decide (0 ≤ q.num) = decide (0 ≤ q) := decide_eq_decide.mpr Rat.num_nonneg
theorem pure_none_below {T : Cfg} (hT : ShOk T) : ∀ E ds μ P XP, pu (c_none_below T) ds μ P XP → SV T (t_none_below T E) (fun cls dd _ H => E cls dd H) ⟨slots 2 ds, μ⟩ (fnK P XP) := by
  rintro E ds μ P XP ⟨rfl, Pf, Xf, ⟨qs, rfl, hl, p⟩, hP, hX⟩
  unfold t_none_below
  walk_at "pks"
  refine ev_lcF ?_
  walk_at "pks"
  refine ⟨_, fun d => .bl (decide (0 ≤ unSh d)), .inl rfl, by rw [List.length_map]; omega, fun e he => ?_, ?_⟩
  · obtain ⟨q, hq, rfl⟩ := List.mem_map.1 he
    walk_at "pks"
    refine ⟨?_, rfl⟩
    show D.bl (decide (0 ≤ q.num)) = D.bl (decide (0 ≤ unSh (shD q)))
    rw [unSh_sh, num_ge]
  walk_at "pks"
  refine cv_all (bs := qs.map fun q => decide (0 ≤ q)) (.inl ?_) ?_
  · rw [List.map_map, List.map_map]
    exact congrArg D.lst (List.map_congr_left fun q _ => by show D.bl (decide (0 ≤ unSh (shD q))) = _; rw [unSh_sh]; rfl)
  rw [List.all_map]
  exact hP _ p
theorem rowB_no {long : Nat} {d : D} (k : kindOf d "list" = false) : rowB long d = false := by
  cases d <;> first | rfl | (simp [kindOf, kk, tagOf] at k)
theorem val_sh (qs : List Rat) : (qs.map shD).map unSh = qs := by
  rw [List.map_map]
  exact (List.map_congr_left fun q _ => unSh_sh q).trans (List.map_id _)
theorem pure_are_rows {T : Cfg} (hT : ShOk T) : ∀ E ds μ P XP, pu (c_are_rows T) ds μ P XP → SV T (t_are_rows T E) (fun cls dd _ H => E cls dd H) ⟨slots 4 ds, μ⟩ (fnK P XP) := by
  rintro E ds μ P XP ⟨rfl, Pf, Xf, ⟨d, many, long, rfl, h⟩, hP, hX⟩
  unfold t_are_rows
  rcases h with ⟨t, ht, hk, p⟩ | ⟨es, rfl, hl, hr, p⟩
  · walk_at "pks"
    refine isi_t ht (by simp [tys]) ?_
    rw [hk]
    walk_at "pks"
    exact hP _ p
  · walk_at "pks"
    refine isi_t (th_lst hT _) (by simp [tys]) ?_
    refine ex_bl (bF' (by rfl) ?_)
    walk_at "pks"
    refine cv_len (.inl rfl) ?_
    walk_at "pks"
    refine ⟨fun hA => ?_, fun hA => ?_⟩
    · walk_at "pks"
      have : decide ((es.length : Int) = (many : Int)) = false := by simpa using hA
      rw [this] at p
      exact hP _ p
    have hA : decide ((es.length : Int) = (many : Int)) = true := by simpa using hA
    rw [hA, Bool.true_and] at p
    walk_at "pks"
    refine ev_lcF ?_
    walk_at "pks"
    refine ⟨es, fun e => .bl (rowB long e), .inl rfl, by omega, fun e he => ?_, ?_⟩
    · cases hr e he with
      | od os ho =>
        walk_at "pks"
        refine shs_i hT ho ?_
        refine ⟨_, rfl, fun hB => ?_, fun hB => ?_⟩
        · obtain ⟨qs, rfl⟩ := allPr (List.all_eq_true.mp hB)
          have e1 : (qs.map Od.pr).map odS = qs.map shD := by rw [List.map_map]; rfl
          rw [e1]
          rw [List.length_map] at ho
          have e2 : (qs.map shD).all isSh = true := by
            rw [List.all_map, List.all_eq_true]; intro q _; rfl
          walk_at "pks"
          refine cv_len (.inl rfl) ?_
          walk_at "pks"
          refine ⟨fun hC => ?_, fun hC => ?_⟩
          · walk_at "pks"
            refine ⟨qs, rfl, by omega, ?_, rfl⟩
            show _ = D.bl ((qs.map shD).all isSh && (decide (((qs.map shD).length : Int) = (long : Int)) && ((qs.map shD).map unSh).all fun q => decide (0 ≤ q)))
            rw [e2, hC, val_sh]
            rfl
          · refine ⟨?_, rfl⟩
            show _ = D.bl ((qs.map shD).all isSh && (decide (((qs.map shD).length : Int) = (long : Int)) && ((qs.map shD).map unSh).all fun q => decide (0 ≤ q)))
            rw [e2, hC]
            rfl
        · refine ⟨?_, rfl⟩
          show _ = D.bl ((os.map odS).all isSh && _)
          rw [allS, hB]
          rfl
      | no h k =>
        walk_at "pks"
        refine shs_n h k ?_
        walk_at "pks"
        refine ⟨?_, rfl⟩
        show D.bl false = D.bl (rowB long _)
        rw [rowB_no k]
    walk_at "pks"
    refine cv_all (bs := es.map (rowB long)) (.inl ?_) ?_
    · rw [List.map_map]; rfl
    rw [List.all_map]
    exact hP _ p
theorem rowB_od {long : Nat} {os : List Od} : rowB long (.lst (os.map odS)) = true ↔ os.length = long ∧ ∀ o ∈ os, o.isP = true ∧ 0 ≤ o.val := by
  show ((os.map odS).all isSh && (decide (((os.map odS).length : Int) = (long : Int)) && ((os.map odS).map unSh).all fun q => decide (0 ≤ q))) = true ↔ _
  rw [allS, Bool.and_eq_true, Bool.and_eq_true, List.length_map, decide_eq_true_iff, List.all_eq_true]
  constructor
  · rintro ⟨h1, h2, h3⟩
    obtain ⟨qs, rfl⟩ := allPr h1
    refine ⟨by omega, fun o ho => ⟨h1 o ho, ?_⟩⟩
    have e1 : (qs.map Od.pr).map odS = qs.map shD := by rw [List.map_map]; rfl
    rw [e1, val_sh, List.all_eq_true] at h3
    obtain ⟨q, hq, rfl⟩ := List.mem_map.1 ho
    exact of_decide_eq_true (h3 q hq)
  · rintro ⟨h1, h2⟩
    have hp : ∀ o ∈ os, o.isP = true := fun o ho => (h2 o ho).1
    refine ⟨hp, by omega, ?_⟩
    obtain ⟨qs, rfl⟩ := allPr hp
    have e1 : (qs.map Od.pr).map odS = qs.map shD := by rw [List.map_map]; rfl
    rw [e1, val_sh, List.all_eq_true]
    intro q hq
    exact decide_eq_true (h2 (.pr q) (List.mem_map.2 ⟨q, hq, rfl⟩)).2
theorem allRows : ∀ {rows : List (List Od)}, (∀ r ∈ rows, ∀ o ∈ r, o.isP = true) → ∃ qrs : List (List Rat), rows = qrs.map fun r => r.map Od.pr
  | [], _ => ⟨[], rfl⟩
  | r :: rows, h => by
    obtain ⟨qs, e⟩ := allPr (h r (by simp))
    obtain ⟨qrs, e2⟩ := allRows (rows := rows) fun r hr => h r (List.mem_cons_of_mem _ hr)
    exact ⟨qs :: qrs, by rw [e, e2]; rfl⟩
theorem pl_sh (qrs : List (List Rat)) : plS (qrs.map fun r => r.map Od.pr) = shR qrs := by
  show D.lst _ = D.lst _
  rw [List.map_map]
  exact congrArg D.lst (List.map_congr_left fun r _ => by
    show D.lst ((r.map Od.pr).map odS) = _
    rw [List.map_map]; rfl)
def unL : D → List Rat
  | .lst es => es.map unSh
  | _ => []
theorem unL_sh (qs : List Rat) : unL (.lst (qs.map shD)) = qs := val_sh qs
theorem val_pr (qs : List Rat) : (qs.map Od.pr).map Od.val = qs := by
  rw [List.map_map]
  exact (List.map_congr_left fun q _ => rfl).trans (List.map_id _)
def colQ (qrs : List (List Rat)) (j : Nat) : Rat := (qrs.map fun r => r.getD j 0).sum
theorem col_od (qrs : List (List Rat)) (j : Nat) : ((qrs.map fun r => r.map Od.pr).map fun r => (r.getD j .zero).val).sum = colQ qrs j := by
  unfold colQ
  rw [List.map_map]
  congr 1
  refine List.map_congr_left fun r _ => ?_
  show ((r.map Od.pr).getD j .zero).val = _
  rw [List.getD_eq_getElem?_getD, List.getElem?_map, List.getD_eq_getElem?_getD]
  cases r[j]? <;> rfl
theorem pure_is_plan {T : Cfg} (hT : ShOk T) : ∀ E ds μ P XP, pu (c_is_plan T) ds μ P XP → SV T (t_is_plan T E) (fun cls dd _ H => E cls dd H) ⟨slots 6 ds, μ⟩ (fnK P XP) := by
  rintro E ds μ P XP ⟨rfl, Pf, Xf, ⟨d, fs, ss, pp, rfl, lf, ls, hp, p⟩, hP, hX⟩
  unfold t_is_plan
  walk_at "pks"
  refine cv_len (.inl rfl) ?_
  walk_at "pks"
  refine cv_len (.inl rfl) ?_
  rw [List.length_map, List.length_map]
  walk_at "pks"
  cases hp with
  | no1 h k =>
    refine ⟨_, _, _, rfl, .inl ⟨_, h, k, ?_⟩⟩
    walk_at "pks"
    exact hP _ (p false (by simp))
  | @no2 es hne hl k =>
    refine ⟨_, _, _, rfl, .inr ⟨es, rfl, by omega, fun e he => by obtain ⟨t, h1, h2⟩ := k e he; exact .no h1 h2, ?_⟩⟩
    refine ex_bl (bT ?_ ?_)
    · cases es with
      | nil => exact absurd rfl hne
      | cons e es =>
        obtain ⟨t, h1, h2⟩ := k e (by simp)
        rw [List.all_cons, rowB_no h2]
        simp
    walk_at "pks"
    exact hP _ (p false (by simp))
  | od rows ho =>
    have hR : ∀ e ∈ rows.map (fun r => D.lst (r.map odS)), RowT T e := fun e he => by
      obtain ⟨r, hr, rfl⟩ := List.mem_map.1 he
      exact .od r (Nat.le_trans (ho.2 r hr).1 (by decide))
    have hl16 := ho.1
    refine ⟨_, _, _, rfl, .inr ⟨_, rfl, by rw [List.length_map]; omega, hR, ?_⟩⟩
    have key : (decide (((rows.map fun r => D.lst (r.map odS)).length : Int) = (fs.length : Int)) && (rows.map fun r => D.lst (r.map odS)).all (rowB ss.length)) = true ↔ rows.length = fs.length ∧ ∀ r ∈ rows, r.length = ss.length ∧ ∀ o ∈ r, o.isP = true ∧ 0 ≤ o.val := by
      rw [Bool.and_eq_true, decide_eq_true_iff, List.length_map, List.all_map, List.all_eq_true]
      constructor
      · rintro ⟨h1, h2⟩
        exact ⟨by omega, fun r hr => rowB_od.mp (h2 r hr)⟩
      · rintro ⟨h1, h2⟩
        exact ⟨by omega, fun r hr => rowB_od.mpr (h2 r hr)⟩
    refine ⟨_, rfl, fun hA => ?_, fun hA => ?_⟩
    · walk_at "pks"
      refine hP _ (p false ⟨fun z => (nomatch z), fun z => ?_⟩)
      rw [key.mpr ⟨z.1, z.2.1⟩] at hA
      cases hA
    have hA' := key.mp (by simpa using hA)
    obtain ⟨hlen, hrows⟩ := hA'
    clear hA key hR
    obtain ⟨qrs, rfl⟩ := allRows fun r hr o hor => ((hrows r hr).2 o hor).1
    rw [pl_sh]
    rw [List.length_map] at hlen hl16
    have bq : ∀ r ∈ qrs, r.length = ss.length ∧ ∀ q ∈ r, Bq 60 q := fun r hr => by
      have h1 := hrows _ (List.mem_map.2 ⟨r, hr, rfl⟩)
      have h2 := ho.2 _ (List.mem_map.2 ⟨r, hr, rfl⟩)
      exact ⟨by simpa using h1.1, fun q hq => h2.2 (.pr q) (List.mem_map.2 ⟨q, hq, rfl⟩)⟩
    walk_at "pks"
    refine ev_lcZ ?_
    walk_at "pks"
    refine ⟨_, _, _, _, rfl, .inl rfl, .inl rfl, by rw [List.length_map]; omega, fun r f => some (.bl (decide ((unL r).sum = unSh f))), fun x y hx hy => ?_, ?_⟩
    · obtain ⟨r, hr, rfl⟩ := List.mem_map.1 hx
      obtain ⟨f, hf, rfl⟩ := List.mem_map.1 hy
      refine tv_yes ⟨rfl, fun _ => ?_, fun e => (nomatch e)⟩
      walk_at "pks"
      refine sum_i (bq r hr).2 ?_ ?_
      · have := (bq r hr).1
        have : (r.length + 1) * (60 + 2) ≤ 13 * 62 := Nat.mul_le_mul_right _ (by omega)
        omega
      walk_at "pks"
      refine ⟨?_, rfl⟩
      show some (D.bl (decide ((unL (.lst (r.map shD))).sum = unSh (shD f)))) = _
      rw [unL_sh, unSh_sh]
    have ez : ((qrs.map fun r => D.lst (r.map shD)).zip (fs.map shD)).filterMap (fun p => some (D.bl (decide ((unL p.1).sum = unSh p.2)))) = ((qrs.zip fs).map fun z => decide (z.1.sum = z.2)).map D.bl := by
      rw [fm_mapH, List.zip_map, List.map_map, List.map_map]
      refine List.map_congr_left fun z _ => ?_
      show D.bl (decide ((unL (.lst (z.1.map shD))).sum = unSh (shD z.2))) = _
      rw [unL_sh, unSh_sh]
      rfl
    rw [ez]
    walk_at "pks"
    refine cv_all (.inl rfl) ?_
    have keyR : ((qrs.zip fs).map fun z => decide (z.1.sum = z.2)).all id = true ↔ ∀ (k : Nat) (r : List Od) (f : Rat), (qrs.map fun r => r.map Od.pr)[k]? = some r → fs[k]? = some f → (r.map Od.val).sum = f := by
      rw [List.all_map, List.all_eq_true]
      constructor
      · intro h k r f hr hf
        rw [List.getElem?_map, Option.map_eq_some_iff] at hr
        obtain ⟨q, hq, rfl⟩ := hr
        rw [val_pr]
        have := h (q, f) (List.mem_of_getElem? (i := k) (by rw [List.getElem?_zip_eq_some]; exact ⟨hq, hf⟩))
        simpa using this
      · intro h z hz
        obtain ⟨k, hk⟩ := List.getElem?_of_mem hz
        rw [List.getElem?_zip_eq_some] at hk
        have := h k (z.1.map Od.pr) z.2 (by rw [List.getElem?_map, hk.1]; rfl) hk.2
        rw [val_pr] at this
        simpa using this
    refine ⟨_, rfl, fun hB => ?_, fun hB => ?_⟩
    · walk_at "pks"
      refine hP _ (p false ⟨fun z => (nomatch z), fun z => ?_⟩)
      rw [keyR.mpr z.2.2.1] at hB
      cases hB
    have hB' := keyR.mp (by simpa using hB)
    clear hB keyR
    walk_at "pks"
    refine ev_lcE ?_
    walk_at "pks"
    refine ⟨_, _, fun n => .bl (decide (colQ qrs n = ss.getD n 0)), rfl, .inl rfl, by rw [List.length_map]; omega, fun n x hx => ?_, ?_⟩
    · rw [List.getElem?_map, Option.map_eq_some_iff] at hx
      obtain ⟨s, hs, rfl⟩ := hx
      have hn : n < ss.length := (List.getElem?_eq_some_iff.mp hs).1
      walk_at "pks"
      refine ev_lcF ?_
      walk_at "pks"
      refine ⟨_, fun r => shD ((unL r).getD n 0), .inl rfl, by rw [List.length_map]; omega, fun e he => ?_, ?_⟩
      · obtain ⟨r, hr, rfl⟩ := List.mem_map.1 he
        have hnr : n < r.length := by rw [(bq r hr).1]; exact hn
        walk_at "pks"
        refine ov_ixL (.inl rfl) (at_natH (d := shD (r.getD n 0)) ?_) ⟨?_, rfl⟩
        · rw [List.getElem?_map, List.getD_eq_getElem?_getD, List.getElem?_eq_getElem hnr]; rfl
        · show _ = shD ((unL (.lst (r.map shD))).getD n 0)
          rw [unL_sh]
      have ec : (qrs.map fun r => D.lst (r.map shD)).map (fun r => shD ((unL r).getD n 0)) = (qrs.map fun r => r.getD n 0).map shD := by
        rw [List.map_map, List.map_map]
        refine List.map_congr_left fun r _ => ?_
        show shD ((unL (.lst (r.map shD))).getD n 0) = _
        rw [unL_sh]
        rfl
      rw [ec]
      walk_at "pks"
      refine sum_i (n := 60) (fun q hq => ?_) ?_ ?_
      · obtain ⟨r, hr, rfl⟩ := List.mem_map.1 hq
        have hnr : n < r.length := by rw [(bq r hr).1]; exact hn
        refine (bq r hr).2 _ ?_
        rw [List.getD_eq_getElem?_getD, List.getElem?_eq_getElem hnr]
        exact List.getElem_mem hnr
      · rw [List.length_map]
        have : (qrs.length + 1) * (60 + 2) ≤ 17 * 62 := Nat.mul_le_mul_right _ (by omega)
        omega
      walk_at "pks"
      refine ⟨?_, rfl⟩
      have es : ss.getD n 0 = s := by
        rw [List.getD_eq_getElem?_getD, hs]
        rfl
      show _ = D.bl (decide (colQ qrs n = ss.getD n 0))
      rw [es]
      rfl
    walk_at "pks"
    rw [List.length_map]
    refine cv_all (bs := (List.range ss.length).map fun n => decide (colQ qrs n = ss.getD n 0)) (.inl (by rw [List.map_map]; rfl)) ?_
    refine hP _ (p _ ?_)
    rw [List.all_map, List.all_eq_true]
    constructor
    · intro h
      refine ⟨by rw [List.length_map]; exact hlen, hrows, hB', fun j s hs => ?_⟩
      rw [col_od]
      have hj : j < ss.length := (List.getElem?_eq_some_iff.mp hs).1
      have := h j (List.mem_range.mpr hj)
      have this : colQ qrs j = ss.getD j 0 := by simpa using this
      rw [this, List.getD_eq_getElem?_getD, hs]
      rfl
    · intro z j hj
      have hj := List.mem_range.mp hj
      have := z.2.2.2 j ss[j] (List.getElem?_eq_getElem hj)
      rw [col_od] at this
      show decide (colQ qrs j = ss.getD j 0) = true
      rw [this, List.getD_eq_getElem?_getD, List.getElem?_eq_getElem hj]
      simp
end Far
namespace Far
open PySem PySem.Spec PyProof.Rows L2 Pw
open FM (Bq)
def wh (q : Rat) (k : Nat) : Int := q.num * ((k / q.den : Nat) : Int)
def c_multiple_of (T : Cfg) : PC := fun ds P _ => ∃ (qs : List Rat) (N : Nat), ds = [shL qs] ∧ qs.length ≤ 1000 ∧ (∀ q ∈ qs, q.den ∣ N) ∧ 0 < N ∧ N < 2 ^ 4000 ∧ ∀ k : Nat, 0 < k → k ∣ N → (∀ q ∈ qs, q.den ∣ k) → P (.int (k : Int))
def c_in_whole (T : Cfg) : PC := fun ds P _ => ∃ (qs : List Rat) (k : Nat), ds = [shL qs, .int (k : Int)] ∧ qs.length ≤ 1000 ∧ 0 < k ∧ k < 2 ^ 4000 ∧ (∀ q ∈ qs, q.den ∣ k ∧ Bq 4000 q) ∧ P (.lst (qs.map fun q => .int (wh q k)))
def c_is_heap (T : Cfg) : PC := fun ds P _ => ∃ qs : List Rat, ds = [shL qs] ∧ 1 ≤ qs.length ∧ qs.length ≤ 12 ∧ (∀ q ∈ qs, 0 ≤ q ∧ Bq 600 q) ∧ qs.sum = 1 ∧ P (.bl true)
theorem len_multiple_of {T : Cfg} : ∀ ds μ P XP, pu (c_multiple_of T) ds μ P XP → ds.length = 1 := by
  rintro ds μ P XP ⟨rfl, Pf, Xf, ⟨qs, N, rfl, _⟩, _⟩; rfl
theorem len_in_whole {T : Cfg} : ∀ ds μ P XP, pu (c_in_whole T) ds μ P XP → ds.length = 2 := by
  rintro ds μ P XP ⟨rfl, Pf, Xf, ⟨qs, N, rfl, _⟩, _⟩; rfl
theorem len_is_heap {T : Cfg} : ∀ ds μ P XP, pu (c_is_heap T) ds μ P XP → ds.length = 1 := by
  rintro ds μ P XP ⟨rfl, Pf, Xf, ⟨qs, rfl, _⟩, _⟩; rfl
def t_multiple_of (T : Cfg) (E : XK) : TS := (tSeq (tAsg (tC (.int 1)) (gName 1))
    (tSeq (tFor (iList T.K (tVar 0)) (gName 2) (tAsg (tOp (rI IntMulOk fun i j => .int (i * j)) (tOp (rI CFd fun i j => .int (i.fdiv j)) (tVar 1) (tCall (spOf T (pu (c_common T))) [] E0 (tCons (tVar 1) (tCons (tFld T.K (tVar 2) "bottom") tNil)))) (tFld T.K (tVar 2) "bottom")) (gName 1)))
    (tRet (tVar 1))))
def t_in_whole (T : Cfg) (E : XK) : TS := (tRet (tLc (iList T.K (tVar 0)) (gName 2) tYes (tOp (rI IntMulOk fun i j => .int (i * j)) (tFld T.K (tVar 2) "top") (tOp (rI CFd fun i j => .int (i.fdiv j)) (tVar 1) (tFld T.K (tVar 2) "bottom"))) [2]))
def t_is_heap (T : Cfg) (E : XK) : TS := (tSeq (tIfS (tOr (tNot (tB (tCall (spOf T (pu (c_are_shares T))) [] E0 (tCons (tVar 0) tNil)))) (tNot (tTest (tChain (rI0 fun i j => .bl (decide (i ≤ j))) (rI0 fun i j => .bl (decide (i ≤ j))) (tC (.int 1)) (tCB (Pw.rLen T.K) (tCons (tVar 0) tNil)) (tC (.int 12)))))) (tRet (tC (.bl false))) tNext)
    (tRet (tAndV (tCall (spOf T (pu (c_none_below T))) [] E0 (tCons (tVar 0) tNil)) (tOp (rOwnEq T.K (T.cls 0) (spOf T (pu (c_Share___eq__ T))) E0) (tCall (spOf T (pu (c_sum_of T))) [] E0 (tCons (tVar 0) tNil)) (tMake (T.cls 0) (spOf T (ini 0 (c_Share___init__ T))) [.int 1] E0 (tCons (tC (.int 1)) tNil))))))
theorem pl_one (r : List Rat) : (r.map Od.pr).map odS = r.map shD := by rw [List.map_map]; rfl
theorem lcm_step (b d : Nat) : b / Nat.gcd b d * d = Nat.lcm b d := by
  unfold Nat.lcm
  exact Nat.div_mul_right_comm (Nat.gcd_dvd_left b d) d
theorem bt_nat {k n : Nat} (h : k < 2 ^ n) : Bt n (k : Int) := by
  unfold Bt
  rw [Int.natAbs_natCast]
  exact h
theorem pure_multiple_of {T : Cfg} (hT : ShOk T) : ∀ E ds μ P XP, pu (c_multiple_of T) ds μ P XP → SV T (t_multiple_of T E) (fun cls dd _ H => E cls dd H) ⟨slots 3 ds, μ⟩ (fnK P XP) := by
  rintro E ds μ P XP ⟨rfl, Pf, Xf, ⟨qs, N, rfl, hl, hd, hN, hNb, p⟩, hP, hX⟩
  unfold t_multiple_of
  walk_at "pks"
  refine sv_forX (X := Nat) (fun k b => [some (shL qs), some (.int (b : Int)), none]) (fun k b μ => μ = mu0 ∧ 0 < b ∧ b ∣ N ∧ ∀ q ∈ qs.take k, q.den ∣ b) (iv_list ?_)
  walk_at "pks"
  refine ⟨_, .inl rfl, 1, by walk_at "le", ⟨rfl, by decide, Nat.one_dvd N, fun q hq => by simp at hq⟩, fun k b μ hk hJ => ?_, fun s' b hr hJ => ?_⟩
  · have hk : k < qs.length := by simpa using hk
    obtain ⟨rfl, b0, bN, bq⟩ := hJ
    rw [nth_of (d := shD qs[k]) (by rw [List.getElem?_map, List.getElem?_eq_getElem hk]; rfl)]
    have hq := hd _ (List.getElem_mem hk)
    have hg0 : 0 < Nat.gcd b qs[k].den := Nat.gcd_pos_of_pos_left _ b0
    have hbN := Nat.le_of_dvd hN bN
    have hqN := Nat.le_of_dvd hN hq
    have hgN : Nat.gcd b qs[k].den ≤ N := Nat.le_trans (Nat.gcd_le_left _ b0) hbN
    walk_at "pks"
    refine ⟨b, qs[k].den, rfl, ?_⟩
    walk_at "pks"
    refine ov_fdiv ⟨by omega, Nat.lt_trans (Bt.log (n := 4000) (bt_nat (Nat.lt_of_le_of_lt hgN hNb)) (by decide)) (by decide)⟩ ?_
    have e1 : ((b : Int)).fdiv ((Nat.gcd b qs[k].den : Nat) : Int) = ((b / Nat.gcd b qs[k].den : Nat) : Int) := by
      rw [Int.fdiv_eq_ediv_of_nonneg _ (by omega)]
      exact (Int.natCast_ediv _ _).symm
    rw [e1]
    walk_at "pks"
    have hdN : b / Nat.gcd b qs[k].den ≤ N := Nat.le_trans (Nat.div_le_self _ _) hbN
    refine ov_mul ((bt_nat (Nat.lt_of_le_of_lt hdN hNb)).ok (bt_nat (Nat.lt_of_le_of_lt hqN hNb)) (by decide)) ?_
    have e2 : ((b / Nat.gcd b qs[k].den : Nat) : Int) * (qs[k].den : Int) = ((Nat.lcm b qs[k].den : Nat) : Int) := by
      rw [← lcm_step, Int.natCast_mul]
    rw [e2]
    refine ⟨Nat.lcm b qs[k].den, by walk_at "le", rfl, Nat.lcm_pos b0 qs[k].den_pos, Nat.lcm_dvd bN hq, fun q hq => ?_⟩
    rw [List.take_succ, List.getElem?_eq_getElem hk, Option.toList_some, List.mem_append, List.mem_singleton] at hq
    rcases hq with h | h
    · exact Nat.dvd_trans (bq q h) (Nat.dvd_lcm_left _ _)
    · rw [h]; exact Nat.dvd_lcm_right _ _
  · obtain ⟨e, b0, bN, bq⟩ := hJ
    rw [List.length_map, List.take_length] at bq
    obtain ⟨ρ, μ⟩ := s'
    obtain rfl : μ = mu0 := e
    match ρ, hr.len with
    | [x0, x1, x2], _ =>
      obtain ⟨rfl, rfl, _⟩ := hr
      walk_at "pks"
      exact hP _ (p b b0 bN bq)
theorem pure_in_whole {T : Cfg} (hT : ShOk T) : ∀ E ds μ P XP, pu (c_in_whole T) ds μ P XP → SV T (t_in_whole T E) (fun cls dd _ H => E cls dd H) ⟨slots 3 ds, μ⟩ (fnK P XP) := by
  rintro E ds μ P XP ⟨rfl, Pf, Xf, ⟨qs, k, rfl, hl, k0, kb, hq, p⟩, hP, hX⟩
  unfold t_in_whole
  walk_at "pks"
  refine ev_lcF ?_
  walk_at "pks"
  refine ⟨_, fun d => .int (wh (unSh d) k), .inl rfl, by rw [List.length_map]; omega, fun e he => ?_, ?_⟩
  · obtain ⟨q, hm, rfl⟩ := List.mem_map.1 he
    obtain ⟨h1, h2⟩ := hq q hm
    have hqk := Nat.le_of_dvd k0 h1
    walk_at "pks"
    have := q.den_pos
    refine ov_fdiv ⟨by omega, Nat.lt_trans (Bt.log (n := 4000) (bt_nat (Nat.lt_of_le_of_lt hqk kb)) (by decide)) (by decide)⟩ ?_
    have e1 : ((k : Int)).fdiv (q.den : Int) = ((k / q.den : Nat) : Int) := by
      rw [Int.fdiv_eq_ediv_of_nonneg _ (by omega)]
      exact (Int.natCast_ediv _ _).symm
    rw [e1]
    walk_at "pks"
    refine ov_mul (Bt.ok (n := 4000) (m := 4000) h2.1 (bt_nat (Nat.lt_of_le_of_lt (Nat.div_le_self _ _) kb)) (by decide)) ?_
    refine ⟨?_, rfl⟩
    show D.int _ = D.int (wh (unSh (shD q)) k)
    rw [unSh_sh]
    rfl
  · have e : (qs.map shD).map (fun d => D.int (wh (unSh d) k)) = qs.map fun q => D.int (wh q k) := by
      rw [List.map_map]
      exact List.map_congr_left fun q _ => by show D.int (wh (unSh (shD q)) k) = _; rw [unSh_sh]
    rw [e]
    exact hP _ p
theorem pure_is_heap {T : Cfg} (hT : ShOk T) : ∀ E ds μ P XP, pu (c_is_heap T) ds μ P XP → SV T (t_is_heap T E) (fun cls dd _ H => E cls dd H) ⟨slots 1 ds, μ⟩ (fnK P XP) := by
  rintro E ds μ P XP ⟨rfl, Pf, Xf, ⟨qs, rfl, l1, l2, hq, hs, p⟩, hP, hX⟩
  unfold t_is_heap
  walk_at "pks"
  refine ⟨_, _, rfl, th_lst hT _, .inl ⟨_, rfl, by rw [List.length_map]; omega, fun e he => ?_, ?_⟩⟩
  · obtain ⟨q, _, rfl⟩ := List.mem_map.1 he
    exact ⟨_, th_sh hT q⟩
  have ea : (qs.map shD).all isSh = true := by
    rw [List.all_map, List.all_eq_true]
    intro q _
    rfl
  rw [ea]
  walk_at "pks"
  refine ev_chain ?_
  walk_at "pks"
  refine cv_len (.inl rfl) ?_
  walk_at "pks"
  refine ⟨fun _ => ?_, fun h => ?_⟩
  · walk_at "pks"
    refine ⟨fun h => ?_, fun h => ?_⟩
    · rw [List.length_map] at h
      have : ((qs.length : Int)) ≤ 12 := by omega
      rw [decide_eq_true this] at h
      cases h
    · walk_at "pks"
      refine ⟨qs, rfl, by omega, ?_⟩
      have en : (qs.all fun q => decide (0 ≤ q)) = true := by
        rw [List.all_eq_true]
        exact fun q hm => decide_eq_true (hq q hm).1
      rw [en]
      walk_at "pks"
      refine sum_i (n := 600) (fun q hm => (hq q hm).2) ?_ ?_
      · have : (qs.length + 1) * (600 + 2) ≤ 13 * 602 := Nat.mul_le_mul_right _ (by omega)
        omega
      walk_at "pks"
      rw [hs, cast1, decide_eq_true rfl]
      exact hP _ p
  · rw [List.length_map] at h
    have : (1 : Int) ≤ (qs.length : Int) := by omega
    rw [decide_eq_true this] at h
    cases h
def c_check_carrying (T : Cfg) : PC := fun ds P _ => ∃ (costs : List (List Rat)) (fs ss : List Rat), ds = [shR costs, shL fs, shL ss] ∧ 1 ≤ fs.length ∧ fs.length ≤ 12 ∧ 1 ≤ ss.length ∧ ss.length ≤ 12 ∧ (∀ q ∈ fs, 0 ≤ q ∧ Bq 600 q) ∧ (∀ q ∈ ss, 0 ≤ q ∧ Bq 600 q) ∧ fs.sum = 1 ∧ ss.sum = 1 ∧ costs.length = fs.length ∧ (∀ r ∈ costs, r.length = ss.length ∧ ∀ q ∈ r, 0 ≤ q) ∧ P .non
theorem len_check_carrying {T : Cfg} : ∀ ds μ P XP, pu (c_check_carrying T) ds μ P XP → ds.length = 3 := by
  rintro ds μ P XP ⟨rfl, Pf, Xf, ⟨c, f, s, rfl, _⟩, _⟩; rfl
def t_check_carrying (T : Cfg) (E : XK) : TS := (tSeq (tIfS (tOr (tNot (tB (tCall (spOf T (pu (c_is_heap T))) [] E0 (tCons (tVar 1) tNil)))) (tNot (tB (tCall (spOf T (pu (c_is_heap T))) [] E0 (tCons (tVar 2) tNil))))) tNevS tNext)
    (tIfS (tNot (tB (tCall (spOf T (pu (c_are_rows T))) [] E0 (tCons (tVar 0) (tCons (tCB (Pw.rLen T.K) (tCons (tVar 1) tNil)) (tCons (tCB (Pw.rLen T.K) (tCons (tVar 2) tNil)) tNil)))))) tNevS tNext))
theorem pure_check_carrying {T : Cfg} (hT : ShOk T) : ∀ E ds μ P XP, pu (c_check_carrying T) ds μ P XP → SV T (t_check_carrying T E) (fun cls dd _ H => E cls dd H) ⟨slots 3 ds, μ⟩ (fnK P XP) := by
  rintro E ds μ P XP ⟨rfl, Pf, Xf, ⟨costs, fs, ss, rfl, f1, f2, s1, s2, fq, sq, fsum, ssum, cl, cr, p⟩, hP, hX⟩
  unfold t_check_carrying
  walk_at "pks"
  refine ⟨fs, rfl, f1, f2, fq, fsum, ?_⟩
  walk_at "pks"
  refine ⟨ss, rfl, s1, s2, sq, ssum, ?_⟩
  walk_at "pks"
  refine cv_len (.inl rfl) ?_
  walk_at "pks"
  refine cv_len (.inl rfl) ?_
  walk_at "pks"
  rw [List.length_map, List.length_map]
  refine ⟨_, _, _, rfl, .inr ⟨_, rfl, by rw [List.length_map]; omega, fun e he => ?_, ?_⟩⟩
  · obtain ⟨r, hr, rfl⟩ := List.mem_map.1 he
    rw [← pl_one]
    refine .od _ ?_
    rw [List.length_map, (cr r hr).1]
    omega
  have key : (decide (((costs.map fun r => D.lst (r.map shD)).length : Int) = (fs.length : Int)) && (costs.map fun r => D.lst (r.map shD)).all (rowB ss.length)) = true := by
    rw [Bool.and_eq_true, decide_eq_true_iff, List.length_map, List.all_map, List.all_eq_true]
    refine ⟨by omega, fun r hr => ?_⟩
    show rowB ss.length (D.lst (r.map shD)) = true
    rw [← pl_one]
    refine rowB_od.mpr ⟨by rw [List.length_map]; exact (cr r hr).1, fun o ho => ?_⟩
    obtain ⟨q, hq, rfl⟩ := List.mem_map.1 ho
    exact ⟨rfl, (cr r hr).2 q hq⟩
  rw [key]
  walk_at "pks"
  exact hP _ p
end Far
namespace Far
open PySem PySem.Spec PyProof.Rows L2 Pw Cg
open FM (Bq)
structure HandB (costs : List (List Rat)) (fs ss : List Rat) (b hb mb N M : Nat) : Prop where
  b80 : b ≤ 1500
  h60 : hb ≤ 600
  h1 : 1 ≤ hb
  m15 : mb ≤ 1500
  f1 : 1 ≤ fs.length
  f2 : fs.length ≤ 12
  s1 : 1 ≤ ss.length
  s2 : ss.length ≤ 12
  fq : ∀ q ∈ fs, 0 ≤ q ∧ Bq hb q ∧ q.den ∣ N
  sq : ∀ q ∈ ss, 0 ≤ q ∧ Bq hb q ∧ q.den ∣ N
  fsum : fs.sum = 1
  ssum : ss.sum = 1
  cl : costs.length = fs.length
  cr : ∀ r ∈ costs, r.length = ss.length ∧ ∀ q ∈ r, 0 ≤ q ∧ Bq b q ∧ q.den ∣ M
  n0 : 0 < N
  n1 : N < 2 ^ hb
  m0 : 0 < M
  m1 : M < 2 ^ mb
abbrev Hand (costs : List (List Rat)) (fs ss : List Rat) (b N M : Nat) : Prop := HandB costs fs ss b 16 16 N M
def amt (fs : List Rat) (k : Nat) (x : Nat) : Int := wh (fs.getD x 0) k
def plc (fs : List Rat) (k : Nat) : List Nat := (List.range fs.length).filter fun x => decide (0 < amt fs k x)
def cst (costs : List (List Rat)) (j : Nat) (x y : Nat) : Int := wh ((costs.getD x []).getD y 0) j
def cmW (costs : List (List Rat)) (j : Nat) : List (List Int) := costs.map fun r => r.map fun q => wh q j
theorem plc_mem {fs : List Rat} {k x : Nat} : x ∈ plc fs k ↔ x < fs.length ∧ 0 < amt fs k x := by
  unfold plc
  rw [List.mem_filter, List.mem_range, decide_eq_true_iff]
theorem plc_nd (fs : List Rat) (k : Nat) : (plc fs k).Nodup := List.nodup_range.sublist List.filter_sublist
theorem cm_rect {costs : List (List Rat)} {fs ss : List Rat} {b hb mb N M : Nat} (hd : HandB costs fs ss b hb mb N M) (j : Nat) : Rect (cmW costs j) fs.length ss.length (cst costs j) := by
  refine ⟨by unfold cmW; rw [List.length_map, hd.cl], fun x hx => ?_⟩
  have hx' : x < costs.length := by rw [hd.cl]; exact hx
  refine ⟨(costs[x]).map fun q => wh q j, by unfold cmW; rw [List.getElem?_map, List.getElem?_eq_getElem hx']; rfl, ?_, fun y hy => ?_⟩
  · rw [List.length_map]
    exact (hd.cr _ (List.getElem_mem hx')).1
  · have hy' : y < costs[x].length := by rw [(hd.cr _ (List.getElem_mem hx')).1]; exact hy
    rw [List.getElem?_map, List.getElem?_eq_getElem hy']
    unfold cst
    rw [List.getD_eq_getElem?_getD, List.getD_eq_getElem?_getD, List.getElem?_eq_getElem hx']
    show some (wh costs[x][y] j) = some (wh ((costs[x][y]?).getD 0) j)
    rw [List.getElem?_eq_getElem hy']
    rfl
theorem cm_cs {costs : List (List Rat)} {fs ss : List Rat} {b hb mb N M k j : Nat} (hd : HandB costs fs ss b hb mb N M) (f : Nat → Nat → Int) : CS (cmW costs j) ⟨cst costs j, plc fs k, plc ss k, f⟩ := by
  refine ⟨plc_nd _ _, plc_nd _ _, fun x hx => ?_, fun y hy => ?_, fun x y hx hy => ?_⟩
  · exact Nat.lt_of_lt_of_le (plc_mem.1 hx).1 hd.f2
  · exact Nat.lt_of_lt_of_le (plc_mem.1 hy).1 hd.s2
  · obtain ⟨row, r1, r2, r3⟩ := (cm_rect hd j).2 x (plc_mem.1 hx).1
    exact ⟨row, r1, r3 y (plc_mem.1 hy).1⟩
theorem wh_nn {q : Rat} {k : Nat} (h : 0 ≤ q) : 0 ≤ wh q k := Int.mul_nonneg (Rat.num_nonneg.2 h) (Int.natCast_nonneg _)
theorem wh_rat {q : Rat} {k : Nat} (h : q.den ∣ k) : ((wh q k : Int) : Rat) = q * (k : Rat) := by
  obtain ⟨m, rfl⟩ := h
  unfold wh
  rw [Nat.mul_div_cancel_left _ q.den_pos]
  have hd : (q.den : Rat) ≠ 0 := by
    intro h
    have : q.den = 0 := by exact_mod_cast h
    exact q.den_nz this
  have e : (q.num : Rat) = q * (q.den : Rat) := by
    have h1 : (q.num : Rat) / (q.den : Rat) = q := by
      have := Rat.divInt_eq_div q.num (q.den : Int)
      rw [Rat.num_divInt_den, Rat.intCast_natCast] at this
      exact this.symm
    have h2 : (q.num : Rat) / (q.den : Rat) * (q.den : Rat) = (q.num : Rat) := Rat.div_mul_cancel hd
    rw [h1] at h2
    exact h2.symm
  rw [Rat.intCast_mul, Rat.intCast_natCast, e, Rat.natCast_mul, Rat.mul_assoc]
theorem sum_wh {k : Nat} : ∀ {fs : List Rat}, (∀ q ∈ fs, q.den ∣ k) → (((fs.map fun q => wh q k).sum : Int) : Rat) = fs.sum * (k : Rat) := by
  intro fs
  induction fs with
  | nil => intro _; simp
  | cons q fs ih =>
    intro h
    rw [List.map_cons, List.sum_cons, List.sum_cons, Rat.intCast_add, wh_rat (h q (by simp)), ih fun q hq => h q (by simp [hq]), Rat.add_mul]
theorem getD_map (fs : List Rat) (k : Nat) : (List.range fs.length).map (amt fs k) = fs.map fun q => wh q k := by
  refine List.ext_getElem (by simp) fun i h1 h2 => ?_
  have hi : i < fs.length := by simpa using h1
  rw [List.getElem_map, List.getElem_range, List.getElem_map]
  unfold amt
  rw [List.getD_eq_getElem?_getD, List.getElem?_eq_getElem hi]
  rfl
theorem sum_flt {f : Nat → Int} : ∀ {l : List Nat}, (∀ x ∈ l, 0 ≤ f x) → ((l.filter fun x => decide (0 < f x)).map f).sum = (l.map f).sum := by
  intro l
  induction l with
  | nil => intro _; rfl
  | cons a l ih =>
    intro h
    have h1 := h a (by simp)
    rw [List.filter_cons, List.map_cons, List.sum_cons, ← ih fun x hx => h x (by simp [hx])]
    split
    · rw [List.map_cons, List.sum_cons]
    · rename_i q
      have : ¬ 0 < f a := by simpa using q
      omega
theorem amt_nn {fs : List Rat} (h : ∀ q ∈ fs, 0 ≤ q) (k x : Nat) : 0 ≤ amt fs k x := by
  unfold amt
  refine wh_nn ?_
  rw [List.getD_eq_getElem?_getD]
  by_cases hx : x < fs.length
  · rw [List.getElem?_eq_getElem hx]
    exact h _ (List.getElem_mem hx)
  · rw [List.getElem?_eq_none (by omega)]
    exact Rat.le_refl
theorem plc_sum {fs : List Rat} {k : Nat} (h : ∀ q ∈ fs, 0 ≤ q) (hd : ∀ q ∈ fs, q.den ∣ k) (hs : fs.sum = 1) : ((plc fs k).map (amt fs k)).sum = (k : Int) := by
  unfold plc
  rw [sum_flt fun x _ => amt_nn h k x, getD_map]
  have := sum_wh hd
  rw [hs, Rat.one_mul] at this
  have e : (((k : Nat) : Int) : Rat) = ((k : Nat) : Rat) := Rat.intCast_natCast k
  rw [← e] at this
  exact Rat.intCast_inj.1 this
theorem ci0 {costs : List (List Rat)} {fs ss : List Rat} {b hb mb N M k j : Nat} (hd : HandB costs fs ss b hb mb N M) (hf : ∀ q ∈ fs, q.den ∣ k) (hs : ∀ q ∈ ss, q.den ∣ k) : CI ⟨cst costs j, plc fs k, plc ss k, fun _ _ => 0⟩ (amt fs k) (amt ss k) (amt fs k) (amt ss k) := by
  have z : ∀ l : List Nat, (l.map fun _ => (0 : Int)).sum = 0 := fun l => by induction l with
    | nil => rfl
    | cons a l ih => rw [List.map_cons, List.sum_cons, ih]; rfl
  refine ⟨plc_nd _ _, plc_nd _ _, fun _ _ _ _ => Int.le_refl _, fun x _ => amt_nn (fun q h => (hd.fq q h).1) k x, fun x _ => amt_nn (fun q h => (hd.sq q h).1) k x, fun x _ => ?_, fun x hx => (plc_mem.1 hx).2, fun y _ => ?_, ?_, fun _ => 0, fun u v c hu hc => ?_⟩
  · unfold rowS
    show amt fs k x + ((plc ss k).map fun _ => (0 : Int)).sum = _
    rw [z]
    omega
  · unfold colS
    show amt ss k y + ((plc fs k).map fun _ => (0 : Int)).sum = _
    rw [z]
    omega
  · show ((plc fs k).map (amt fs k)).sum = ((plc ss k).map (amt ss k)).sum
    rw [plc_sum (fun q h => (hd.fq q h).1) hf hd.fsum, plc_sum (fun q h => (hd.sq q h).1) hs hd.ssum]
  · show (0 : Int) ≤ 0 + c
    rcases way_cases hc with ⟨_, _, _, q⟩ | ⟨_, _, _, q, _⟩
    · have q : c = cst costs j u.2 v.2 := q
      rw [q]
      have : 0 ≤ cst costs j u.2 v.2 := by
        unfold cst
        refine wh_nn ?_
        rw [List.getD_eq_getElem?_getD, List.getD_eq_getElem?_getD]
        by_cases hx : u.2 < costs.length
        · rw [List.getElem?_eq_getElem hx]
          show 0 ≤ ((costs[u.2])[v.2]?).getD 0
          by_cases hy : v.2 < (costs[u.2]).length
          · rw [List.getElem?_eq_getElem hy]
            exact ((hd.cr _ (List.getElem_mem hx)).2 _ (List.getElem_mem hy)).1
          · rw [List.getElem?_eq_none (by omega)]
            exact Rat.le_refl
        · have hn : costs[u.2]? = none := List.getElem?_eq_none (by omega)
          rw [hn]
          show 0 ≤ (([] : List Rat)[v.2]?).getD 0
          rw [List.getElem?_nil]
          exact Rat.le_refl
      omega
    · exact absurd q (show ¬ (0 : Int) < 0 by decide)
end Far
namespace Far
open PySem PySem.Spec PyProof.Rows L2 Pw Cg
open FM (Bq)
structure Done (costs : List (List Rat)) (fs ss : List Rat) (N M k j : Nat) (f : Nat → Nat → Int) (hv wv : Nat → Int) (st : L) (pf qf : Nat → Int) : Prop where
  k0 : 0 < k
  kN : k ∣ N
  kf : ∀ q ∈ fs, q.den ∣ k
  ks : ∀ q ∈ ss, q.den ∣ k
  j0 : 0 < j
  jM : j ∣ M
  jc : ∀ r ∈ costs, ∀ q ∈ r, q.den ∣ j
  ci : CI ⟨cst costs j, plc fs k, plc ss k, f⟩ hv wv (amt fs k) (amt ss k)
  hz : ∀ x ∈ plc fs k, hv x = 0
  fin : Fin ⟨cst costs j, plc fs k, plc ss k, f⟩ (Vl ⟨cst costs j, plc fs k, plc ss k, f⟩) st
  pr : Pr (cst costs j) fs.length ss.length (plc fs k) (plc ss k) (fun x => 0 - lab st (0, x)) (fun y => 0 - lab st (1, y)) pf qf
def pqD (n m : Nat) (pf qf : Nat → Int) : D := .tup [.lst ((List.range n).map fun x => .int (pf x)), .lst ((List.range m).map fun y => .int (qf y))]
def R0 (costs : List (List Rat)) (fs ss : List Rat) (k j : Nat) (s : Addr) (pf qf : Nat → Int) : List (Option D) := [some (shR costs), some (shL fs), some (shL ss), some (.int (k : Int)), none, none, some (.int (j : Int)), none, none, some (.ptr s), some (pqD fs.length ss.length pf qf), none, none, none, none, none, none, none, none, none]
theorem plc_fm (fs : List Rat) (k : Nat) : (List.range fs.length).filterMap (fun x => if 0 < amt fs k x then some (D.tup [.int (x : Int), .int (amt fs k x)]) else none) = (tabI (plc fs k) (amt fs k)).map fun kd => .tup [kD kd.1, kd.2] := by
  unfold tabI tab plc
  rw [fm_filter]
  refine fm_congr fun x _ => ?_
  by_cases h : 0 < amt fs k x
  · rw [if_pos h, if_pos (decide_eq_true h)]; rfl
  · rw [if_neg h, if_neg (by simpa using h)]
theorem amt_nth {fs : List Rat} {k x : Nat} (h : x < fs.length) : nth (fs.map fun q => D.int (wh q k)) x = .int (amt fs k x) := nth_of (by
  rw [List.getElem?_map, List.getElem?_eq_getElem h]
  unfold amt
  rw [List.getD_eq_getElem?_getD, List.getElem?_eq_getElem h]
  rfl)
theorem den_one {b : Nat} (h : 0 < b) : (Rat.divInt 1 (b : Int)).den = b := by
  have := Rat.den_divInt 1 (b : Int)
  rw [this]
  rw [if_neg (by omega)]
  simp
theorem up4 {N h : Nat} (k : N < 2 ^ h) (hh : h ≤ 4000) : N < 2 ^ 4000 := FM.up k hh
section
variable {T : Cfg} {W : WX} {K : Out → Prop} {XP : XW} {P : D → Mu → Prop} {ρ : List (Option D)}
theorem ev_amt {i j : Nat} {te : TE} {fs : List Rat} {k : Nat} (hij : (((wipeD ρ [i, j]).set i (some (.int 0))).set j (some (.int 0))).length = ρ.length) (l12 : fs.length ≤ 12)
    (hi : ∀ x y : D, (((wipeD ρ [i, j]).set i (some x)).set j (some y))[i]? = some (some x)) (hj : ∀ x y : D, (((wipeD ρ [i, j]).set i (some x)).set j (some y))[j]? = some (some y))
    (he : EV T te W ⟨ρ, mu0⟩ (fun d μ => d = .lst (fs.map fun q => .int (wh q k)) ∧ μ = mu0) XP) (p : P (.dil (tabI (plc fs k) (amt fs k))) mu0) :
    EV T (tLk (tCB (rDictP T.K) (tCons (tLc (iEnum T.K (tCons te tNil)) (gTup T.K 2 (gCons (gName i) (gCons (gName j) gNil))) (tTest (tOp (rI0 fun i j => .bl (decide (j < i))) (tVar j) (tC (.int 0)))) (tTup (tCons (tVar i) (tCons (tVar j) tNil))) [i, j]) tNil))) W ⟨ρ, mu0⟩ P XP := by
  refine ev_lk (ev_cb (ea_cons (ev_lcX2 (iv_enum (ea_cons (ev_imp he ?_))))))
  rintro d μ ⟨rfl, rfl⟩
  refine ea_nil ⟨_, _, rfl, .inl rfl, by rw [List.length_map]; omega, fun x => if 0 < amt fs k x then some (D.tup [.int (x : Int), .int (amt fs k x)]) else none, fun x hx => ?_, ?_⟩
  · have hx : x < fs.length := by simpa using hx
    refine ⟨.int (x : Int), .int (amt fs k x), congrArg (fun d => D.tup [.int (x : Int), d]) (amt_nth hx), ?_⟩
    refine tv_test (ev_op (ev_var (hj _ _) (ev_int (ov_gt ⟨_, rfl, rfl, fun hp => ?_, fun hp => ?_⟩))))
    · have hp := of_decide_eq_true hp
      refine ev_tup (ea_cons (ev_var (hi _ _) (ea_cons (ev_var (hj _ _) (ea_nil ⟨by simp, ?_, rfl⟩)))))
      exact if_pos hp
    · have hp := of_decide_eq_false hp
      exact if_neg hp
  rw [List.length_map, plc_fm]
  refine ea_nil (cv_dictPM (.inl rfl) (tabI_nd (plc_nd fs k)) fun a ha => ⟨a, _, rfl, put_same, ?_⟩)
  rw [del_put ha]
  exact p
end
theorem cheap_head {T : Cfg} (hT : CaOk T) {W : WX} {K : Out → Prop} {tail : TS} {costs : List (List Rat)} {fs ss : List Rat} {bb hb mb N M : Nat} (hd : HandB costs fs ss bb hb mb N M)
    (hK : ∀ (μ' : Mu) (s h w c : Addr) (k j : Nat) (f : Nat → Nat → Int) (hv wv : Nat → Int) (st : L) (pf qf : Nat → Int), Done costs fs ss N M k j f hv wv st pf qf → CM μ' s h w c (cmW costs j) ⟨cst costs j, plc fs k, plc ss k, f⟩ hv wv → SV T tail W ⟨R0 costs fs ss k j s pf qf, μ'⟩ K) :
    SV T (tSeq (tDrop (tCall (spOf T (pu (c_check_carrying T))) [] E0 (tCons (tVar 0) (tCons (tVar 1) (tCons (tVar 2) tNil))))) (tSeq (tAsg (tCall (spOf T (pu (c_multiple_of T))) [] E0 (tCons (tOp rCat (tVar 1) (tVar 2)) tNil)) (gName 3)) (tSeq (tAsg (tLk (tCB (rDictP T.K) (tCons (tLc (iEnum T.K (tCons (tCall (spOf T (pu (c_in_whole T))) [] E0 (tCons (tVar 1) (tCons (tVar 3) tNil))) tNil)) (gTup T.K 2 (gCons (gName 15) (gCons (gName 18) gNil))) (tTest (tOp (rI0 fun i j => .bl (decide (j < i))) (tVar 18) (tC (.int 0)))) (tTup (tCons (tVar 15) (tCons (tVar 18) tNil))) [15, 18]) tNil))) (gName 4)) (tSeq (tAsg (tLk (tCB (rDictP T.K) (tCons (tLc (iEnum T.K (tCons (tCall (spOf T (pu (c_in_whole T))) [] E0 (tCons (tVar 2) (tCons (tVar 3) tNil))) tNil)) (gTup T.K 2 (gCons (gName 16) (gCons (gName 18) gNil))) (tTest (tOp (rI0 fun i j => .bl (decide (j < i))) (tVar 18) (tC (.int 0)))) (tTup (tCons (tVar 16) (tCons (tVar 18) tNil))) [16, 18]) tNil))) (gName 5)) (tSeq (tAsg (tC (.int 1)) (gName 6)) (tSeq (tFor (iList T.K (tVar 0)) (gName 7) (tAsg (tCall (spOf T (pu (c_multiple_of T))) [] E0 (tCons (tOp rCat (tVar 7) (tLst (tCons (tMake (T.cls 0) (spOf T (ini 0 (c_Share___init__ T))) [] E0 (tCons (tC (.int 1)) (tCons (tVar 6) tNil))) tNil))) tNil)) (gName 6))) (tSeq (tAsg (tLc (iList T.K (tVar 0)) (gName 7) tYes (tCall (spOf T (pu (c_in_whole T))) [] E0 (tCons (tVar 7) (tCons (tVar 6) tNil))) [7]) (gName 8)) (tSeq (tAsg (tMake (T.cls 2) (spOf T (c_Carrying___init__ T)) [] E0 (tCons (tVar 8) (tCons (tVar 4) (tCons (tVar 5) tNil)))) (gName 9)) (tSeq (tDrop (tMeth (T.cls 2) "carry_all" (spOf T (c_Carrying_carry_all T)) [] E0 (tVar 9) tNil)) (tSeq (tAsg (tMeth (T.cls 2) "prices" (spOf T (c_Carrying_prices T)) [] E0 (tVar 9) tNil) (gTup T.K 2 (gCons (gName 13) (gCons (gName 14) gNil)))) (tSeq (tAsg (tCall (spOf T (c_all_prices T)) [] E0 (tCons (tVar 8) (tCons (tVar 13) (tCons (tVar 14) tNil)))) (gName 10)) tail))))))))))) W ⟨slots 20 [shR costs, shL fs, shL ss], mu0⟩ K := by
  have hS := hT.sh
  have hf1 := hd.f1
  have hf2 := hd.f2
  have hs1 := hd.s1
  have hs2 := hd.s2
  have hh6 := hd.h60
  have hm15 := hd.m15
  walk_at "pks"
  refine ⟨costs, fs, ss, rfl, hf1, hf2, hs1, hs2, fun q h => ⟨(hd.fq q h).1, (hd.fq q h).2.1.mono (by omega)⟩, fun q h => ⟨(hd.sq q h).1, (hd.sq q h).2.1.mono (by omega)⟩, hd.fsum, hd.ssum, hd.cl, fun r hr => ⟨(hd.cr r hr).1, fun q hq => ((hd.cr r hr).2 q hq).1⟩, ?_⟩
  walk_at "pks"
  refine ov_cat (by rw [List.length_map, List.length_map]; omega) ?_
  rw [← List.map_append]
  walk_at "pks"
  refine ⟨fs ++ ss, N, rfl, by rw [List.length_append]; omega, fun q hq => ?_, hd.n0, up4 hd.n1 (by omega), fun k k0 kN kq => ?_⟩
  · rcases List.mem_append.1 hq with h | h
    · exact (hd.fq q h).2.2
    · exact (hd.sq q h).2.2
  have kf : ∀ q ∈ fs, q.den ∣ k := fun q h => kq q (List.mem_append_left _ h)
  have ks : ∀ q ∈ ss, q.den ∣ k := fun q h => kq q (List.mem_append_right _ h)
  have k16 : k < 2 ^ hb := Nat.lt_of_le_of_lt (Nat.le_of_dvd hd.n0 kN) hd.n1
  refine seqK_nx (sv_seq (sv_asg (ev_amt (fs := fs) (k := k) rfl hf2 (fun _ _ => rfl) (fun _ _ => rfl) ?_ ?_)))
  · walk_at "pks"
    exact ⟨fs, k, rfl, by omega, k0, up4 k16 (by omega), fun q h => ⟨kf q h, (hd.fq q h).2.1.mono (by omega)⟩, rfl, rfl⟩
  refine seqK_nx (sv_seq (sv_asg (ev_amt (fs := ss) (k := k) rfl hs2 (fun _ _ => rfl) (fun _ _ => rfl) ?_ ?_)))
  · walk_at "pks"
    exact ⟨ss, k, rfl, by omega, k0, up4 k16 (by omega), fun q h => ⟨ks q h, (hd.sq q h).2.1.mono (by omega)⟩, rfl, rfl⟩
  walk_at "pks"
  refine sv_forX (X := Nat) (fun i b => [some (shR costs), some (shL fs), some (shL ss), some (.int (k : Int)), some (.dil (tabI (plc fs k) (amt fs k))), some (.dil (tabI (plc ss k) (amt ss k))), some (.int (b : Int)), none, none, none, none, none, none, none, none, none, none, none, none, none]) (fun i b μ => μ = mu0 ∧ 0 < b ∧ b ∣ M ∧ ∀ r ∈ costs.take i, ∀ q ∈ r, q.den ∣ b) (iv_list ?_)
  walk_at "pks"
  refine ⟨_, .inl rfl, 1, by walk_at "le", ⟨rfl, by decide, Nat.one_dvd M, fun r hr => by simp at hr⟩, fun i b μ hi hJ => ?_, fun s' b hr hJ => ?_⟩
  · have hi : i < costs.length := by simpa using hi
    obtain ⟨rfl, b0, bM, bq⟩ := hJ
    rw [nth_of (d := shL costs[i]) (by rw [List.getElem?_map, List.getElem?_eq_getElem hi]; rfl)]
    obtain ⟨c1, c2⟩ := hd.cr _ (List.getElem_mem hi)
    have bM16 : b < 2 ^ mb := Nat.lt_of_le_of_lt (Nat.le_of_dvd hd.m0 bM) hd.m1
    walk_at "pks"
    refine ⟨by omega, (bt_nat bM16).mono (by omega), ?_⟩
    walk_at "pks"
    refine ov_cat (by rw [List.length_map]; simp only [List.length_cons, List.length_nil]; omega) ?_
    have ec : (costs[i].map shD) ++ [shD (Rat.divInt 1 (b : Int))] = (costs[i] ++ [Rat.divInt 1 (b : Int)]).map shD := by rw [List.map_append]; rfl
    rw [ec]
    walk_at "pks"
    refine ⟨_, M, rfl, by rw [List.length_append]; simp only [List.length_cons, List.length_nil]; omega, fun q hq => ?_, hd.m0, up4 hd.m1 (by omega), fun b' b0' bM' bq' => ?_⟩
    · rcases List.mem_append.1 hq with h | h
      · exact (c2 q h).2.2
      · rw [List.mem_singleton] at h
        rw [h, den_one b0]
        exact bM
    refine ⟨b', by walk_at "le", rfl, b0', bM', fun r hr q hq => ?_⟩
    rw [List.take_succ, List.getElem?_eq_getElem hi, Option.toList_some, List.mem_append, List.mem_singleton] at hr
    rcases hr with h | h
    · have h1 := bq' (Rat.divInt 1 (b : Int)) (by simp)
      rw [den_one b0] at h1
      exact Nat.dvd_trans (bq r h q hq) h1
    · rw [h] at hq
      exact bq' q (List.mem_append_left _ hq)
  obtain ⟨e, j0, jM, jc⟩ := hJ
  rw [List.length_map, List.take_length] at jc
  obtain ⟨ρ, μ⟩ := s'
  obtain rfl : μ = mu0 := e
  have j16 : b < 2 ^ mb := Nat.lt_of_le_of_lt (Nat.le_of_dvd hd.m0 jM) hd.m1
  refine sv_wkR (s := ⟨ρ, mu0⟩) hr ?_
  refine seqK_nx (sv_seq (sv_asg (ev_lcF ?_)))
  walk_at "pks"
  refine ⟨_, fun d => .lst ((unL d).map fun q => .int (wh q b)), .inl rfl, by rw [List.length_map, hd.cl]; omega, fun e he => ?_, ?_⟩
  · obtain ⟨r, hr, rfl⟩ := List.mem_map.1 he
    obtain ⟨c1, c2⟩ := hd.cr r hr
    walk_at "pks"
    refine ⟨r, b, rfl, by omega, j0, up4 j16 (by omega), fun q h => ⟨jc r hr q h, (c2 q h).2.1.mono (by have := hd.b80; omega)⟩, ?_, rfl⟩
    show D.lst (r.map fun q => .int (wh q b)) = D.lst ((unL (D.lst (r.map shD))).map fun q => .int (wh q b))
    rw [unL_sh]
  have ew : D.lst ((costs.map fun r => D.lst (r.map shD)).map fun d => .lst ((unL d).map fun q => .int (wh q b))) = cmD (cmW costs b) := by
    unfold cmD cmW
    rw [List.map_map, List.map_map]
    refine congrArg D.lst (List.map_congr_left fun r _ => ?_)
    show D.lst ((unL (D.lst (r.map shD))).map fun q => .int (wh q b)) = D.lst ((r.map fun q => wh q b).map D.int)
    rw [unL_sh, List.map_map]
    rfl
  rw [ew]
  refine seqK_nx (sv_seq (sv_asg (ev_makA ?_)))
  walk_at "pks"
  intro s hs
  refine ⟨s, cmW costs b, plc fs k, plc ss k, amt fs k, amt ss k, cst costs b, rfl, put_same, plc_nd _ _, plc_nd _ _, fun x hx => Nat.lt_of_lt_of_le (plc_mem.1 hx).1 hf2, fun x hx => Nat.lt_of_lt_of_le (plc_mem.1 hx).1 hs2, fun μ1 h w c m1 => ⟨rfl, ?_⟩⟩
  have ci1 := ci0 (j := b) hd kf ks
  refine seqK_nx (sv_seq (sv_drop (ev_meth ?_)))
  walk_at "pks"
  refine ⟨s, _, rfl, m1.self, rfl, ?_⟩
  walk_at "pks"
  refine ⟨s, h, w, c, _, _, _, _, _, _, rfl, m1, cm_cs hd _, ci1, fun μ2 f hv wv m2 ci2 hz => ?_⟩
  refine seqK_nx (sv_seq (sv_asg2 (ev_meth ?_)))
  walk_at "pks"
  refine ⟨s, _, rfl, m2.self, rfl, ?_⟩
  walk_at "pks"
  refine ⟨s, h, w, c, _, _, _, _, rfl, m2, cm_cs hd _, ci2.pot, fun μ3 st th m3 fin ht th1 th2 => ?_⟩
  refine ⟨_, _, rfl, ?_⟩
  refine seqK_nx (sv_seq (sv_asg (ev_calA ?_)))
  walk_at "pks"
  refine ⟨_, fs.length, ss.length, _, _, _, _, _, th, rfl, cm_rect hd b, by omega, hf2, by omega, hs2, plc_nd _ _, plc_nd _ _, fun x hx => (plc_mem.1 hx).1, fun x hx => (plc_mem.1 hx).1, fun e => ?_, ht, fun μ4 pf qf hm4 pr => ?_⟩
  · have e : plc fs k = [] := e
    have := plc_sum (fun q h => (hd.fq q h).1) kf hd.fsum
    rw [e] at this
    simp at this
    omega
  have sth : s ≠ th := fun e => by have := m3.self; rw [e, ht] at this; cases this
  have cth : c ≠ th := fun e => by have := m3.car; rw [e, ht] at this; cases this
  have m4 : CM μ4 s h w c (cmW costs b) ⟨cst costs b, plc fs k, plc ss k, f⟩ hv wv := ⟨hm4 _ _ sth m3.self, hm4 _ _ th1.symm m3.hav, hm4 _ _ th2.symm m3.wan, hm4 _ _ cth m3.car, m3.hw⟩
  refine seqK_nx (sv_wkR ?_ (hK μ4 s h w c k b f hv wv st pf qf ⟨k0, kN, kf, ks, j0, jM, jc, ci2, hz, fin, pr⟩ m4))
  unfold R0 pqD
  walk_at "le"
end Far
namespace Far
open PySem PySem.Spec PyProof.Rows L2 Pw Cg
open FM (Bq)
def sm (n : Nat) (f : Nat → Rat) : Rat := ((List.range n).map f).sum
theorem sum_app (l m : List Rat) : (l ++ m).sum = l.sum + m.sum := by
  induction l with
  | nil => rw [List.nil_append, List.sum_nil, Rat.zero_add]
  | cons a l ih => rw [List.cons_append, List.sum_cons, List.sum_cons, ih, Rat.add_assoc]
theorem sm_zero (f : Nat → Rat) : sm 0 f = 0 := rfl
theorem sm_succ (n : Nat) (f : Nat → Rat) : sm (n + 1) f = sm n f + f n := by
  unfold sm
  rw [List.range_succ, List.map_append, sum_app]
  show _ + (f n + 0) = _
  rw [Rat.add_zero]
theorem sm_congr {n : Nat} {f g : Nat → Rat} (h : ∀ x, x < n → f x = g x) : sm n f = sm n g := by
  induction n with
  | zero => rfl
  | succ n ih => rw [sm_succ, sm_succ, ih fun x hx => h x (by omega), h n (by omega)]
theorem sm_add (n : Nat) (f g : Nat → Rat) : sm n (fun x => f x + g x) = sm n f + sm n g := by
  induction n with
  | zero => rw [sm_zero, sm_zero, sm_zero, Rat.add_zero]
  | succ n ih => rw [sm_succ, sm_succ, sm_succ, ih]; grind
theorem sm_sub (n : Nat) (f g : Nat → Rat) : sm n (fun x => f x - g x) = sm n f - sm n g := by
  induction n with
  | zero => rw [sm_zero, sm_zero, sm_zero]; grind
  | succ n ih => rw [sm_succ, sm_succ, sm_succ, ih]; grind
theorem sm_mul (n : Nat) (a : Rat) (f : Nat → Rat) : sm n (fun x => a * f x) = a * sm n f := by
  induction n with
  | zero => rw [sm_zero, sm_zero, Rat.mul_zero]
  | succ n ih => rw [sm_succ, sm_succ, ih, Rat.mul_add]
theorem sm_0 (n : Nat) : sm n (fun _ => 0) = 0 := by
  induction n with
  | zero => rfl
  | succ n ih => rw [sm_succ, ih, Rat.add_zero]
theorem sm_swap (n m : Nat) (f : Nat → Nat → Rat) : sm n (fun x => sm m fun y => f x y) = sm m fun y => sm n fun x => f x y := by
  induction n with
  | zero => rw [sm_zero]; exact (sm_0 m).symm
  | succ n ih =>
    rw [sm_succ, ih, ← sm_add]
    exact sm_congr fun y _ => (sm_succ n fun x => f x y).symm
theorem sm_le {n : Nat} {f g : Nat → Rat} (h : ∀ x, x < n → f x ≤ g x) : sm n f ≤ sm n g := by
  induction n with
  | zero => exact Rat.le_refl
  | succ n ih =>
    rw [sm_succ, sm_succ]
    have h1 := ih fun x hx => h x (by omega)
    have h2 := h n (by omega)
    grind
theorem sm_int (n : Nat) (f : Nat → Int) : sm n (fun x => ((f x : Int) : Rat)) = ((((List.range n).map f).sum : Int) : Rat) := by
  induction n with
  | zero => rfl
  | succ n ih =>
    rw [sm_succ, ih, List.range_succ, List.map_append, List.sum_append, Rat.intCast_add]
    simp
structure Opt (n m : Nat) (c : Nat → Nat → Rat) (f s : Nat → Rat) (π : Nat → Nat → Rat) (p q : Nat → Rat) : Prop where
  nn : ∀ x y, x < n → y < m → 0 ≤ π x y
  row : ∀ x, x < n → sm m (π x) = f x
  col : ∀ y, y < m → sm n (fun x => π x y) = s y
  le : ∀ x y, x < n → y < m → p x - q y ≤ c x y
  tight : ∀ x y, x < n → y < m → π x y ≠ 0 → p x - q y = c x y
theorem Opt.eq {n m : Nat} {c : Nat → Nat → Rat} {f s : Nat → Rat} {π : Nat → Nat → Rat} {p q : Nat → Rat} (h : Opt n m c f s π p q) : sm n (fun x => sm m fun y => c x y * π x y) = sm n (fun x => p x * f x) - sm m fun y => q y * s y := by
  have e1 : sm n (fun x => sm m fun y => c x y * π x y) = sm n fun x => sm m fun y => p x * π x y - q y * π x y := by
    refine sm_congr fun x hx => sm_congr fun y hy => ?_
    by_cases z : π x y = 0
    · rw [z]; grind
    · rw [← h.tight x y hx hy z]; grind
  have e2 : sm n (fun x => sm m fun y => p x * π x y - q y * π x y) = sm n (fun x => p x * f x - sm m fun y => q y * π x y) := by
    refine sm_congr fun x hx => ?_
    rw [sm_sub, sm_mul, h.row x hx]
  rw [e1, e2, sm_sub, sm_swap]
  congr 1
  refine sm_congr fun y hy => ?_
  rw [sm_mul, h.col y hy]
def rng (n : Nat) (f : Nat → Rat) : List Rat := (List.range n).map f
def rngR (n m : Nat) (π : Nat → Nat → Rat) : List (List Rat) := (List.range n).map fun x => rng m (π x)
theorem rng_len (n : Nat) (f : Nat → Rat) : (rng n f).length = n := by simp [rng]
theorem rng_self (fs : List Rat) : rng fs.length (fun x => fs.getD x 0) = fs := by
  unfold rng
  refine List.ext_getElem (by simp) fun i h1 h2 => ?_
  rw [List.getElem_map, List.getElem_range, List.getD_eq_getElem?_getD, List.getElem?_eq_getElem h2]
  rfl
theorem zip_rng {α β : Type} (n : Nat) (f : Nat → α) (g : Nat → β) : ((List.range n).map f).zip ((List.range n).map g) = (List.range n).map fun i => (f i, g i) := by
  generalize List.range n = l
  induction l with
  | nil => rfl
  | cons a l ih => rw [List.map_cons, List.map_cons, List.zip_cons_cons, ih, List.map_cons]
theorem dot_rng (n : Nat) (f g : Nat → Rat) : dot (rng n f) (rng n g) = sm n fun i => f i * g i := by
  unfold dot rng sm
  rw [zip_rng, List.map_map]
  rfl
theorem dots_rng (n m : Nat) (f g : Nat → Nat → Rat) : dots (rngR n m f) (rngR n m g) = sm n fun x => sm m fun y => f x y * g x y := by
  unfold dots rngR
  rw [zip_rng, List.map_map]
  unfold sm
  congr 1
  exact List.map_congr_left fun x _ => dot_rng m (f x) (g x)
def cq (costs : List (List Rat)) (x y : Nat) : Rat := (costs.getD x []).getD y 0
section
variable {costs : List (List Rat)} {fs ss : List Rat} {b hb mb N M k j : Nat} {f : Nat → Nat → Int} {hv wv : Nat → Int} {st : L} {pf qf : Nat → Int}
def Fi (fs ss : List Rat) (k : Nat) (f : Nat → Nat → Int) (x y : Nat) : Int := if x ∈ plc fs k ∧ y ∈ plc ss k then f x y else 0
theorem sum_flt2 (p : Nat → Bool) (g : Nat → Int) : ∀ l : List Nat, ((l.filter p).map g).sum = (l.map fun a => if p a = true then g a else 0).sum := by
  intro l
  induction l with
  | nil => rfl
  | cons a l ih =>
    rw [List.filter_cons, List.map_cons, List.sum_cons, ← ih]
    split
    · rw [List.map_cons, List.sum_cons]
    · omega
theorem sum_z {g : Nat → Int} : ∀ {l : List Nat}, (∀ x ∈ l, g x = 0) → (l.map g).sum = 0 := by
  intro l
  induction l with
  | nil => intro _; rfl
  | cons a l ih => intro h; rw [List.map_cons, List.sum_cons, ih fun x hx => h x (by simp [hx]), h a (by simp)]; rfl
theorem plc_if (fs : List Rat) (k : Nat) (g : Nat → Int) : ((plc fs k).map g).sum = ((List.range fs.length).map fun x => if x ∈ plc fs k then g x else 0).sum := by
  unfold plc
  rw [sum_flt2]
  congr 1
  refine List.map_congr_left fun x hx => ?_
  have : (x ∈ (List.range fs.length).filter fun x => decide (0 < amt fs k x)) ↔ decide (0 < amt fs k x) = true := by
    rw [List.mem_filter]
    exact ⟨fun h => h.2, fun h => ⟨hx, h⟩⟩
  simp only [this]
theorem Done.wz (d : Done costs fs ss N M k j f hv wv st pf qf) : ∀ y ∈ plc ss k, wv y = 0 := fun y hy => by
  have h1 := d.ci.tot
  have h2 : ((plc fs k).map hv).sum = 0 := sum_z d.hz
  have h1 : ((plc fs k).map hv).sum = ((plc ss k).map wv).sum := h1
  have h3 := sum_gt d.ci.w0 hy
  have h3 : wv y ≤ ((plc ss k).map wv).sum := h3
  have h4 := d.ci.w0 y hy
  omega
theorem amt_z (hd : ∀ q ∈ fs, 0 ≤ q) {x : Nat} (hx : x < fs.length) (h : x ∉ plc fs k) : amt fs k x = 0 := by
  have h1 := amt_nn hd k x
  have h2 : ¬ 0 < amt fs k x := fun q => h (plc_mem.2 ⟨hx, q⟩)
  omega
theorem Done.row (hd : HandB costs fs ss b hb mb N M) (d : Done costs fs ss N M k j f hv wv st pf qf) {x : Nat} (hx : x < fs.length) : ((List.range ss.length).map (Fi fs ss k f x)).sum = amt fs k x := by
  by_cases h : x ∈ plc fs k
  · have h1 := d.ci.row x h
    have h1 : hv x + ((plc ss k).map fun y => f x y).sum = amt fs k x := h1
    rw [d.hz x h, plc_if] at h1
    rw [← h1, Int.zero_add]
    congr 1
    refine List.map_congr_left fun y _ => ?_
    unfold Fi
    simp only [h, true_and]
  · rw [amt_z (fun q h => (hd.fq q h).1) hx h]
    refine sum_z fun y _ => ?_
    unfold Fi
    rw [if_neg fun q => h q.1]
theorem Done.col (hd : HandB costs fs ss b hb mb N M) (d : Done costs fs ss N M k j f hv wv st pf qf) {y : Nat} (hy : y < ss.length) : ((List.range fs.length).map fun x => Fi fs ss k f x y).sum = amt ss k y := by
  by_cases h : y ∈ plc ss k
  · have h1 := d.ci.col y h
    have h1 : wv y + ((plc fs k).map fun x => f x y).sum = amt ss k y := h1
    rw [d.wz y h, plc_if] at h1
    rw [← h1, Int.zero_add]
    congr 1
    refine List.map_congr_left fun x _ => ?_
    unfold Fi
    simp only [h, and_true]
  · rw [amt_z (fun q h => (hd.sq q h).1) hy h]
    refine sum_z fun x _ => ?_
    unfold Fi
    rw [if_neg fun q => h q.2]
theorem Done.fi0 (d : Done costs fs ss N M k j f hv wv st pf qf) (x y : Nat) : 0 ≤ Fi fs ss k f x y := by
  unfold Fi
  split
  · rename_i h; exact d.ci.f0 x y h.1 h.2
  · exact Int.le_refl _
theorem Done.le (d : Done costs fs ss N M k j f hv wv st pf qf) {x y : Nat} (hx : x < fs.length) (hy : y < ss.length) : pf x - qf y ≤ cst costs j x y := by
  by_cases h1 : x ∈ plc fs k
  · rw [d.pr.px x h1]
    by_cases h2 : y ∈ plc ss k
    · rw [d.pr.qy y h2]
      exact (price_ok d.fin h1 h2).1
    · have := (d.pr.qn y hy h2).1 x h1
      omega
  · have := (d.pr.pn x hx h1).1 y hy
    omega
theorem Done.tight (d : Done costs fs ss N M k j f hv wv st pf qf) {x y : Nat} (h : Fi fs ss k f x y ≠ 0) : pf x - qf y = cst costs j x y := by
  have h0 := d.fi0 x y
  unfold Fi at h h0
  split at h
  · rename_i q
    rw [if_pos q] at h0
    rw [d.pr.px x q.1, d.pr.qy y q.2]
    exact (price_ok d.fin q.1 q.2).2 (show 0 < f x y by omega)
  · exact absurd rfl h
end
end Far
namespace Far
open PySem PySem.Spec PyProof.Rows L2 Pw Cg
open FM (Bq)
theorem natR_ne {j : Nat} (h : 0 < j) : (j : Rat) ≠ 0 := by
  intro e
  have : j = 0 := by exact_mod_cast e
  omega
theorem natR_pos {j : Nat} (h : 0 < j) : (0 : Rat) < (j : Rat) := by
  have h1 : (0 : Rat) ≤ (j : Rat) := by exact_mod_cast Nat.zero_le j
  have := natR_ne h
  grind
theorem inv_nn {j : Nat} (h : 0 < j) : (0 : Rat) ≤ (j : Rat)⁻¹ := Rat.le_of_lt (Rat.inv_pos.2 (natR_pos h))
theorem di {a : Int} {j : Nat} : Rat.divInt a (j : Int) = (j : Rat)⁻¹ * (a : Rat) := by
  rw [Rat.divInt_eq_div, Rat.intCast_natCast, Rat.div_def, Rat.mul_comm]
theorem inv_mul {j : Nat} (h : 0 < j) (q : Rat) : (j : Rat)⁻¹ * (q * (j : Rat)) = q := by
  rw [Rat.mul_comm q, ← Rat.mul_assoc, Rat.inv_mul_cancel _ (natR_ne h), Rat.one_mul]
def piQ (fs ss : List Rat) (k : Nat) (f : Nat → Nat → Int) (x y : Nat) : Rat := Rat.divInt (Fi fs ss k f x y) (k : Int)
def prQ (j : Nat) (pf : Nat → Int) (x : Nat) : Rat := Rat.divInt (pf x) (j : Int)
section
variable {costs : List (List Rat)} {fs ss : List Rat} {b hb mb N M k j : Nat} {f : Nat → Nat → Int} {hv wv : Nat → Int} {st : L} {pf qf : Nat → Int}
theorem amt_rat (h : ∀ q ∈ fs, q.den ∣ k) {x : Nat} (hx : x < fs.length) : ((amt fs k x : Int) : Rat) = fs.getD x 0 * (k : Rat) := by
  unfold amt
  refine wh_rat ?_
  rw [List.getD_eq_getElem?_getD, List.getElem?_eq_getElem hx]
  exact h _ (List.getElem_mem hx)
theorem HandB.cq_at (hd : HandB costs fs ss b hb mb N M) {x y : Nat} (hx : x < fs.length) (hy : y < ss.length) : ∃ r ∈ costs, cq costs x y ∈ r := by
  have hx' : x < costs.length := by rw [hd.cl]; exact hx
  have hy' : y < costs[x].length := by rw [(hd.cr _ (List.getElem_mem hx')).1]; exact hy
  refine ⟨costs[x], List.getElem_mem hx', ?_⟩
  unfold cq
  rw [List.getD_eq_getElem?_getD, List.getD_eq_getElem?_getD, List.getElem?_eq_getElem hx']
  show ((costs[x])[y]?).getD 0 ∈ costs[x]
  rw [List.getElem?_eq_getElem hy']
  exact List.getElem_mem hy'
theorem cst_rat (hd : HandB costs fs ss b hb mb N M) (d : Done costs fs ss N M k j f hv wv st pf qf) {x y : Nat} (hx : x < fs.length) (hy : y < ss.length) : ((cst costs j x y : Int) : Rat) = cq costs x y * (j : Rat) := by
  obtain ⟨r, hr, hq⟩ := hd.cq_at hx hy
  exact wh_rat (d.jc r hr _ hq)
theorem Done.opt (hd : HandB costs fs ss b hb mb N M) (d : Done costs fs ss N M k j f hv wv st pf qf) : Opt fs.length ss.length (cq costs) (fun x => fs.getD x 0) (fun y => ss.getD y 0) (piQ fs ss k f) (prQ j pf) (prQ j qf) := by
  refine ⟨fun x y hx hy => ?_, fun x hx => ?_, fun y hy => ?_, fun x y hx hy => ?_, fun x y hx hy hz => ?_⟩
  · unfold piQ
    rw [di]
    refine Rat.mul_nonneg (inv_nn d.k0) ?_
    have := d.fi0 x y
    exact_mod_cast this
  · show sm ss.length (fun y => Rat.divInt (Fi fs ss k f x y) (k : Int)) = _
    rw [sm_congr (g := fun y => (k : Rat)⁻¹ * ((Fi fs ss k f x y : Int) : Rat)) fun y _ => di, sm_mul, sm_int, d.row hd hx, amt_rat d.kf hx]
    exact inv_mul d.k0 _
  · show sm fs.length (fun x => Rat.divInt (Fi fs ss k f x y) (k : Int)) = _
    rw [sm_congr (g := fun x => (k : Rat)⁻¹ * ((Fi fs ss k f x y : Int) : Rat)) fun y _ => di, sm_mul, sm_int, d.col hd hy, amt_rat d.ks hy]
    exact inv_mul d.k0 _
  · unfold prQ
    rw [di, di]
    have h1 := d.le hx hy
    have h2 : ((pf x : Int) : Rat) - ((qf y : Int) : Rat) ≤ cq costs x y * (j : Rat) := by
      rw [← cst_rat hd d hx hy, ← Rat.intCast_sub]
      exact Rat.intCast_le_intCast.2 h1
    have h3 := Rat.mul_le_mul_of_nonneg_left h2 (inv_nn d.j0)
    rw [inv_mul d.j0] at h3
    grind
  · have hF : Fi fs ss k f x y ≠ 0 := fun e => hz (by unfold piQ; rw [e, di]; simp)
    have h1 := d.tight hF
    unfold prQ
    rw [di, di]
    have h2 : ((pf x : Int) : Rat) - ((qf y : Int) : Rat) = cq costs x y * (j : Rat) := by
      rw [← cst_rat hd d hx hy, ← Rat.intCast_sub, h1]
    have h3 : (j : Rat)⁻¹ * (((pf x : Int) : Rat) - ((qf y : Int) : Rat)) = cq costs x y := by rw [h2, inv_mul d.j0]
    grind
theorem sum_one {l : List Nat} {g : Nat → Int} (h : ∀ x ∈ l, 0 ≤ g x) {x : Nat} (hx : x ∈ l) : g x ≤ (l.map g).sum := sum_gt h hx
theorem Done.k16 (hd : HandB costs fs ss b hb mb N M) (d : Done costs fs ss N M k j f hv wv st pf qf) : k < 2 ^ hb := Nat.lt_of_le_of_lt (Nat.le_of_dvd hd.n0 d.kN) hd.n1
theorem Done.j16 (hd : HandB costs fs ss b hb mb N M) (d : Done costs fs ss N M k j f hv wv st pf qf) : j < 2 ^ mb := Nat.lt_of_le_of_lt (Nat.le_of_dvd hd.m0 d.jM) hd.m1
theorem Done.piB (hd : HandB costs fs ss b hb mb N M) (d : Done costs fs ss N M k j f hv wv st pf qf) {x y : Nat} (hx : x < fs.length) (hy : y < ss.length) : Bq hb (piQ fs ss k f x y) := by
  have h1 : Fi fs ss k f x y ≤ amt fs k x := by
    rw [← d.row hd hx]
    exact sum_one (fun y _ => d.fi0 x y) (List.mem_range.2 hy)
  have h2 : amt fs k x ≤ (k : Int) := by
    by_cases h : x ∈ plc fs k
    · rw [← plc_sum (fun q h => (hd.fq q h).1) d.kf hd.fsum]
      exact sum_gt (fun x _ => amt_nn (fun q h => (hd.fq q h).1) k x) h
    · rw [amt_z (fun q h => (hd.fq q h).1) hx h]
      omega
  have h3 := d.fi0 x y
  have h4 := d.k16 hd
  exact FM.bq_divInt (by omega) (by omega) hd.h1
def CB (b mb : Nat) : Int := 2 ^ b * 2 ^ mb
theorem CB_0 (b mb : Nat) : 0 ≤ CB b mb := Int.mul_nonneg (Int.pow_nonneg (by decide)) (Int.pow_nonneg (by decide))
theorem cst_bd (hd : HandB costs fs ss b hb mb N M) (d : Done costs fs ss N M k j f hv wv st pf qf) {x y : Nat} (hx : x < fs.length) (hy : y < ss.length) : 0 ≤ cst costs j x y ∧ cst costs j x y ≤ CB b mb := by
  obtain ⟨r, hr, hq⟩ := hd.cq_at hx hy
  obtain ⟨q1, q2, q3⟩ := (hd.cr r hr).2 _ hq
  refine ⟨wh_nn q1, ?_⟩
  show wh (cq costs x y) j ≤ CB b mb
  unfold wh
  have h0 : 0 ≤ (cq costs x y).num := Rat.num_nonneg.2 q1
  have h1 : (cq costs x y).num ≤ 2 ^ b := by
    have h2 : ((cq costs x y).num.natAbs : Int) < ((2 ^ b : Nat) : Int) := Int.ofNat_lt.2 q2.1
    rw [Int.natAbs_of_nonneg h0] at h2
    have h3 : ((2 ^ b : Nat) : Int) = 2 ^ b := by simp
    omega
  have h2 : ((j / (cq costs x y).den : Nat) : Int) ≤ 2 ^ mb := by
    have := Nat.div_le_self j (cq costs x y).den
    have h5 := d.j16 hd
    have h3 : ((2 ^ mb : Nat) : Int) = 2 ^ mb := by simp
    omega
  exact Int.mul_le_mul h1 h2 (Int.natCast_nonneg _) (Int.pow_nonneg (by decide))
theorem Done.labB (hd : HandB costs fs ss b hb mb N M) (d : Done costs fs ss N M k j f hv wv st pf qf) {v : Nat × Nat} (hv' : In st v) : lab st v ≤ 24 * CB b mb ∧ -(24 * CB b mb) ≤ lab st v := by
  have h := lab_bd (C := CB b mb) d.fin (CB_0 b mb) (fun x y hx hy => cst_bd hd d (plc_mem.1 hx).1 (plc_mem.1 hy).1) hv'
  have l1 : (plc fs k).length ≤ 12 := nd_lenH (plc_nd fs k) fun x hx => Nat.lt_of_lt_of_le (plc_mem.1 hx).1 hd.f2
  have l2 : (plc ss k).length ≤ 12 := nd_lenH (plc_nd ss k) fun x hx => Nat.lt_of_lt_of_le (plc_mem.1 hx).1 hd.s2
  have h : lab st v ≤ (((plc fs k).length + (plc ss k).length : Nat) : Int) * CB b mb ∧ -((((plc fs k).length + (plc ss k).length : Nat) : Int) * CB b mb) ≤ lab st v := h
  have h2 : (((plc fs k).length + (plc ss k).length : Nat) : Int) * CB b mb ≤ 24 * CB b mb := Int.mul_le_mul_of_nonneg_right (by omega) (CB_0 b mb)
  omega
theorem Done.qB (hd : HandB costs fs ss b hb mb N M) (d : Done costs fs ss N M k j f hv wv st pf qf) {y : Nat} (hy : y < ss.length) : qf y ≤ 25 * CB b mb ∧ -(25 * CB b mb) ≤ qf y := by
  have := CB_0 b mb
  by_cases h : y ∈ plc ss k
  · have h1 := d.labB hd (v := (1, y)) (d.fin.beg (1, y) (mem_Vl.2 (.inr ⟨rfl, h⟩))).1
    rw [d.pr.qy y h]
    omega
  · obtain ⟨x, hx, e⟩ := (d.pr.qn y hy h).2
    have h1 := d.labB hd (v := (0, x)) (d.fin.beg (0, x) (mem_Vl.2 (.inl ⟨rfl, hx⟩))).1
    have h2 := cst_bd hd d (plc_mem.1 hx).1 hy
    rw [e]
    omega
theorem Done.pB (hd : HandB costs fs ss b hb mb N M) (d : Done costs fs ss N M k j f hv wv st pf qf) {x : Nat} (hx : x < fs.length) : pf x ≤ 26 * CB b mb ∧ -(26 * CB b mb) ≤ pf x := by
  have := CB_0 b mb
  by_cases h : x ∈ plc fs k
  · have h1 := d.labB hd (v := (0, x)) (d.fin.beg (0, x) (mem_Vl.2 (.inl ⟨rfl, h⟩))).1
    rw [d.pr.px x h]
    omega
  · obtain ⟨y, hy, e⟩ := (d.pr.pn x hx h).2
    have h1 := d.qB hd hy
    have h2 := cst_bd hd d hx hy
    rw [e]
    omega
theorem bq_CB {a : Int} {j b mb : Nat} (h1 : a ≤ 26 * CB b mb) (h2 : -(26 * CB b mb) ≤ a) (h3 : j < 2 ^ mb) : Bq (b + mb + 6) (Rat.divInt a (j : Int)) := by
  have e : ((2 ^ (b + mb + 6) : Nat) : Int) = 64 * CB b mb := by
    unfold CB
    rw [Nat.pow_add, Nat.pow_add]
    simp
    exact Int.mul_comm _ _
  have p0 : (1 : Int) ≤ CB b mb := by
    unfold CB
    have : (0 : Int) < 2 ^ b * 2 ^ mb := Int.mul_pos (Int.pow_pos (by decide)) (Int.pow_pos (by decide))
    omega
  refine FM.bq_divInt ?_ ?_ (by omega)
  · have : ((a.natAbs : Nat) : Int) < ((2 ^ (b + mb + 6) : Nat) : Int) := by rw [e]; omega
    exact Int.ofNat_lt.1 this
  · rw [Int.natAbs_natCast]
    exact FM.up h3 (by omega)
theorem Done.prB (hd : HandB costs fs ss b hb mb N M) (d : Done costs fs ss N M k j f hv wv st pf qf) {x : Nat} (hx : x < fs.length) : Bq (b + mb + 6) (prQ j pf x) := bq_CB (d.pB hd hx).1 (d.pB hd hx).2 (d.j16 hd)
theorem Done.qrB (hd : HandB costs fs ss b hb mb N M) (d : Done costs fs ss N M k j f hv wv st pf qf) {y : Nat} (hy : y < ss.length) : Bq (b + mb + 6) (prQ j qf y) := by
  have := d.qB hd hy
  have := CB_0 b mb
  exact bq_CB (by omega) (by omega) (d.j16 hd)
end
end Far
namespace Far
open PySem PySem.Spec PyProof.Rows L2 Pw
open FM (Bq)
def Bd (D : Nat) (B : Nat) (q : Rat) : Prop := ∃ z : Int, q = Rat.divInt z (D : Int) ∧ z.natAbs ≤ B
theorem Bd.bq {D B n : Nat} {q : Rat} (h : Bd D B q) (hB : B < 2 ^ n) (hD : D < 2 ^ n) (h0 : 0 < n) : Bq n q := by
  obtain ⟨z, rfl, hz⟩ := h
  exact FM.bq_divInt (Nat.lt_of_le_of_lt hz hB) (by rw [Int.natAbs_natCast]; exact hD) h0
theorem Bd.add {D B C : Nat} {p q : Rat} (h : Bd D B p) (k : Bd D C q) : Bd D (B + C) (p + q) := by
  obtain ⟨z, rfl, hz⟩ := h
  obtain ⟨w, rfl, hw⟩ := k
  refine ⟨z + w, ?_, by omega⟩
  rw [di, di, di, Rat.intCast_add, Rat.mul_add]
theorem Bd.zero (D : Nat) : Bd D 0 0 := ⟨0, by rw [di]; simp, by simp⟩
theorem Bd.mono {D B C : Nat} {q : Rat} (h : Bd D B q) (k : B ≤ C) : Bd D C q := by
  obtain ⟨z, e, hz⟩ := h
  exact ⟨z, e, Nat.le_trans hz k⟩
theorem Bd.sum {D B : Nat} : ∀ {qs : List Rat}, (∀ q ∈ qs, Bd D B q) → Bd D (qs.length * B) qs.sum := by
  intro qs
  induction qs with
  | nil => intro _; simpa using Bd.zero D
  | cons q qs ih =>
    intro h
    rw [List.sum_cons, List.length_cons, Nat.succ_mul, Nat.add_comm]
    exact (h q (by simp)).add (ih fun q hq => h q (by simp [hq]))
theorem Bd.mul {D E B C : Nat} {p q : Rat} (h : Bd D B p) (k : Bd E C q) : Bd (D * E) (B * C) (p * q) := by
  obtain ⟨z, rfl, hz⟩ := h
  obtain ⟨w, rfl, hw⟩ := k
  refine ⟨z * w, ?_, by rw [Int.natAbs_mul]; exact Nat.mul_le_mul hz hw⟩
  rw [Int.natCast_mul, Rat.divInt_mul_divInt]
theorem Bd.of {D b : Nat} {q : Rat} (h : Bq b q) (hd : q.den ∣ D) (h0 : 0 < D) : Bd D (2 ^ b * D) q := by
  refine ⟨wh q D, ?_, ?_⟩
  · rw [di, wh_rat hd, inv_mul h0]
  · unfold wh
    rw [Int.natAbs_mul, Int.natAbs_natCast]
    exact Nat.mul_le_mul (Nat.le_of_lt h.1) (Nat.div_le_self _ _)
def Dv2 (M : Nat) (rows : List (List Rat)) : Prop := ∀ r ∈ rows, ∀ q ∈ r, q.den ∣ M
def c_costW (T : Cfg) : PC := fun ds P _ => ∃ (rs ss : List (List Rat)) (n m b hb mb N M : Nat), ds = [shR rs, shR ss] ∧ Rows n m b rs ∧ Rows n m hb ss ∧ Dv2 M rs ∧ Dv2 N ss ∧ b ≤ 1500 ∧ hb ≤ 600 ∧ mb ≤ 1500 ∧ 0 < M ∧ M < 2 ^ mb ∧ 0 < N ∧ N < 2 ^ hb ∧ n ≤ 12 ∧ m ≤ 12 ∧ P (shD (dots rs ss))
theorem len_costW {T : Cfg} : ∀ ds μ P XP, pu (c_costW T) ds μ P XP → ds.length = 2 := by
  rintro ds μ P XP ⟨rfl, Pf, Xf, ⟨r, s, n, m, b, hb, mb, N, M, rfl, _⟩, _⟩; rfl
def t_costW (T : Cfg) (E : XK) : TS := (tSeq (tAsg (tMake (T.cls 0) (spOf T (ini 0 (c_Share___init__ T))) [.int 1] E0 (tCons (tC (.int 0)) tNil)) (gName 2))
    (tSeq (tFor (iZip T.K (tCons (tVar 0) (tCons (tVar 1) tNil))) (gTup T.K 2 (gCons (gName 3) (gCons (gName 4) gNil))) (tAsg (tCall (spOf T (pu (c_plus T))) [] E0 (tCons (tVar 2) (tCons (tCall (spOf T (pu (c_sum_of T))) [] E0 (tCons (tLc (iZip T.K (tCons (tVar 3) (tCons (tVar 4) tNil))) (gTup T.K 2 (gCons (gName 5) (gCons (gName 6) gNil))) tYes (tCall (spOf T (pu (c_times T))) [] E0 (tCons (tVar 5) (tCons (tVar 6) tNil))) [5, 6]) tNil)) tNil))) (gName 2)))
    (tRet (tVar 2))))
theorem dot_bd {r s : List Rat} {D B : Nat} (h : ∀ x ∈ r, ∀ y ∈ s, Bd D B (x * y)) (k : Nat) : Bd D (k * B) (((r.zip s).map fun z => z.1 * z.2).take k).sum := by
  refine (Bd.sum (B := B) fun q hq => ?_).mono (Nat.mul_le_mul_right _ (List.length_take_le _ _))
  have hq := List.mem_of_mem_take hq
  obtain ⟨z, hz, rfl⟩ := List.mem_map.1 hq
  exact h _ (List.of_mem_zip hz).1 _ (List.of_mem_zip hz).2
theorem dots_bd {rs ss : List (List Rat)} {D B m : Nat} (h : ∀ r ∈ rs, ∀ s ∈ ss, r.length ≤ m ∧ ∀ x ∈ r, ∀ y ∈ s, Bd D B (x * y)) (k : Nat) : Bd D (k * (m * B)) (dots (rs.take k) (ss.take k)) := by
  unfold dots
  refine (Bd.sum (B := m * B) fun q hq => ?_).mono (Nat.mul_le_mul_right _ ?_)
  · obtain ⟨z, hz, rfl⟩ := List.mem_map.1 hq
    have h1 := List.mem_of_mem_take (List.of_mem_zip hz).1
    have h2 := List.mem_of_mem_take (List.of_mem_zip hz).2
    have hb := dot_bd (h _ h1 _ h2).2 ((z.1.zip z.2).map fun z => z.1 * z.2).length
    rw [List.take_length] at hb
    refine hb.mono (Nat.mul_le_mul_right _ ?_)
    rw [List.length_map, List.length_zip]
    have := (h _ h1 _ h2).1
    omega
  · rw [List.length_map, List.length_zip, List.length_take]
    omega
theorem pure_costW {T : Cfg} (hT : ShOk T) : ∀ E ds μ P XP, pu (c_costW T) ds μ P XP → SV T (t_costW T E) (fun cls dd _ H => E cls dd H) ⟨slots 7 ds, μ⟩ (fnK P XP) := by
  rintro E ds μ P XP ⟨rfl, Pf, Xf, ⟨rs, ss, n, m, b, hb, mb, N, M, rfl, h1, h2, dM, dN, hbb, hh6, hm15, M0, M16, N0, N16, hn, hm, p⟩, hP, hX⟩
  have hD : M * N < 2 ^ (mb + hb) := Nat.lt_of_lt_of_le (Nat.mul_lt_mul'' M16 N16) (by rw [Nat.pow_add]; exact Nat.le_refl _)
  have hDb : M * N < 2 ^ (b + mb + hb + hb + 8) := FM.up hD (by omega)
  have hB : 2 ^ b * M * (2 ^ hb * N) ≤ 2 ^ (b + mb + hb + hb) := by
    have h1 : 2 ^ b * M ≤ 2 ^ b * 2 ^ mb := Nat.mul_le_mul_left _ (Nat.le_of_lt M16)
    have h2 : 2 ^ hb * N ≤ 2 ^ hb * 2 ^ hb := Nat.mul_le_mul_left _ (Nat.le_of_lt N16)
    have h3 := Nat.mul_le_mul h1 h2
    have e : 2 ^ b * 2 ^ mb * (2 ^ hb * 2 ^ hb) = 2 ^ (b + mb + hb + hb) := by rw [Nat.pow_add, Nat.pow_add, Nat.pow_add, Nat.mul_assoc, Nat.mul_assoc, Nat.mul_assoc]
    rw [e] at h3
    exact h3
  have key : ∀ r ∈ rs, ∀ s ∈ ss, r.length ≤ 12 ∧ ∀ x ∈ r, ∀ y ∈ s, Bd (M * N) (2 ^ (b + mb + hb + hb)) (x * y) := fun r hr s hs => ⟨by rw [(h1.2 r hr).1]; exact hm, fun x hx y hy => ((Bd.of ((h1.2 r hr).2 x hx) (dM r hr x hx) M0).mul (Bd.of ((h2.2 s hs).2 y hy) (dN s hs y hy) N0)).mono hB⟩
  have e144 : ∀ k, k ≤ 144 → k * 2 ^ (b + mb + hb + hb) < 2 ^ (b + mb + hb + hb + 8) := fun k hk => by
    have e : 2 ^ (b + mb + hb + hb + 8) = 256 * 2 ^ (b + mb + hb + hb) := by rw [show b + mb + hb + hb + 8 = 8 + (b + mb + hb + hb) by omega, Nat.pow_add]
    rw [e]
    exact Nat.mul_lt_mul_of_pos_right (by omega) (Nat.pow_pos (by decide))
  unfold t_costW
  walk_at "pks"
  refine sv_forZ ?_
  walk_at "pks"
  refine ⟨_, _, _, _, fun k => [some (shR rs), some (shR ss), some (shD (dots (rs.take k) (ss.take k))), none, none, none, none], fun _ μ => μ = mu0, rfl, .inl rfl, .inl rfl, ?_, rfl, fun k x y μ' hx hy em => ?_, fun s' hs em => ?_⟩
  · walk_at "le"
  · subst em
    obtain ⟨r, hr, rfl⟩ := row_getH hx
    obtain ⟨s, hs, rfl⟩ := row_getH hy
    have mr := List.mem_of_getElem? hr
    have ms := List.mem_of_getElem? hs
    have r1 := h1.2 _ mr
    have r2 := h2.2 _ ms
    have hk : k < 12 := by
      have := (List.getElem?_eq_some_iff.mp hr).1
      have := h1.1
      omega
    have kb := (key r mr s ms).2
    walk_at "pks"
    refine ev_zipS ?_
    walk_at "pks"
    refine ⟨r, s, fun x y => shD (x * y), rfl, by omega, fun x y hx hy => ?_, ?_⟩
    · walk_at "pks"
      exact times_i (r1.2 _ hx) (r2.2 _ hy) (by omega) ⟨rfl, rfl⟩
    walk_at "pks"
    have ez : ((r.zip s).map fun z => shD (z.1 * z.2)) = ((r.zip s).map fun z => z.1 * z.2).map shD := by rw [List.map_map]; rfl
    have hz : ((r.zip s).map fun z => z.1 * z.2).length ≤ 12 := by
      rw [List.length_map, List.length_zip]
      have := r1.1
      omega
    rw [ez]
    refine ⟨_, _, b + mb + hb + hb + 8, b + mb + hb + hb + 8, rfl, .inl rfl, fun q hq => ?_, fun i hi => ?_, by omega, ?_⟩
    · obtain ⟨z, hz, rfl⟩ := List.mem_map.1 hq
      exact (kb _ (List.of_mem_zip hz).1 _ (List.of_mem_zip hz).2).bq (by have := e144 1 (by decide); omega) hDb (by omega)
    · exact (dot_bd kb i).bq (e144 i (by omega)) hDb (by omega)
    have hd1 : Bq (b + mb + hb + hb + 8) (dots (rs.take k) (ss.take k)) := (dots_bd key k).bq (by
      rw [← Nat.mul_assoc]
      exact e144 _ (by omega)) hDb (by omega)
    have hd2 : Bq (b + mb + hb + hb + 8) (dot r s) := by
      have := dot_bd kb ((r.zip s).map fun z => z.1 * z.2).length
      rw [List.take_length] at this
      exact this.bq (e144 _ (by omega)) hDb (by omega)
    walk_at "pks"
    refine plus_i hd1 hd2 (by omega) ?_
    have et : dots (rs.take k) (ss.take k) + dot r s = dots (rs.take (k + 1)) (ss.take (k + 1)) := (dots_take hr hs).symm
    show _
    have et' : dots (rs.take k) (ss.take k) + ((r.zip s).map fun z => z.1 * z.2).sum = dots (rs.take (k + 1)) (ss.take (k + 1)) := et
    first | rw [et'] | rw [et]
    walk_at "pks"
    refine ⟨?_, rfl⟩
    walk_at "le"
  · refine seqK_res hs ?_
    dsimp only
    have e : dots (rs.take (min (rs.map fun r => D.lst (r.map shD)).length (ss.map fun r => D.lst (r.map shD)).length)) (ss.take (min (rs.map fun r => D.lst (r.map shD)).length (ss.map fun r => D.lst (r.map shD)).length)) = dots rs ss := by
      rw [List.length_map, List.length_map, h1.1, h2.1, Nat.min_self, List.take_of_length_le (by rw [h1.1]; exact Nat.le_refl _), List.take_of_length_le (by rw [h2.1]; exact Nat.le_refl _)]
    rw [e]
    walk_at "pks"
    exact hP _ p
end Far
namespace Far
open PySem PySem.Spec PyProof.Rows L2 Pw Cg
open FM (Bq)
theorem HandB.rows {costs : List (List Rat)} {fs ss : List Rat} {b hb mb N M : Nat} (hd : HandB costs fs ss b hb mb N M) : Rows fs.length ss.length b costs := ⟨hd.cl, fun r hr => ⟨(hd.cr r hr).1, fun q hq => ((hd.cr r hr).2 q hq).2.1⟩⟩
theorem rows_rng {n m b : Nat} {π : Nat → Nat → Rat} (h : ∀ x y, x < n → y < m → Bq b (π x y)) : Rows n m b (rngR n m π) := by
  refine ⟨by simp [rngR], fun r hr => ?_⟩
  unfold rngR at hr
  obtain ⟨x, hx, rfl⟩ := List.mem_map.1 hr
  refine ⟨rng_len _ _, fun q hq => ?_⟩
  unfold rng at hq
  obtain ⟨y, hy, rfl⟩ := List.mem_map.1 hq
  exact h x y (List.mem_range.1 hx) (List.mem_range.1 hy)
theorem dv_rng {n m N : Nat} {π : Nat → Nat → Rat} (h : ∀ x y, x < n → y < m → (π x y).den ∣ N) : Dv2 N (rngR n m π) := by
  intro r hr q hq
  unfold rngR at hr
  obtain ⟨x, hx, rfl⟩ := List.mem_map.1 hr
  unfold rng at hq
  obtain ⟨y, hy, rfl⟩ := List.mem_map.1 hq
  exact h x y (List.mem_range.1 hx) (List.mem_range.1 hy)
theorem den_di (a : Int) {k : Nat} (h : 0 < k) : (Rat.divInt a (k : Int)).den ∣ k := by
  rw [Rat.den_divInt, if_neg (by omega), Int.natAbs_natCast]
  exact Nat.div_dvd_of_dvd (by first | exact Nat.gcd_dvd_left _ _ | exact Nat.gcd_dvd_right _ _ | (have := Int.gcd_dvd_natAbs_left (k : Int) a; simpa using this))
theorem Done.piD {costs : List (List Rat)} {fs ss : List Rat} {N M k j : Nat} {f : Nat → Nat → Int} {hv wv : Nat → Int} {st : L} {pf qf : Nat → Int} (d : Done costs fs ss N M k j f hv wv st pf qf) (x y : Nat) : (piQ fs ss k f x y).den ∣ N := Nat.dvd_trans (den_di _ d.k0) d.kN
theorem look_Fi {costs : List (List Rat)} {fs ss : List Rat} {k j : Nat} {f : Nat → Nat → Int} (x y : Nat) : (lookD (tab2 ⟨cst costs j, plc fs k, plc ss k, f⟩) (k2 (x, y))).getD (.int 0) = .int (Fi fs ss k f x y) := by
  unfold tab2
  rw [tab_look k2_inj']
  unfold Fi
  by_cases h : x ∈ plc fs k ∧ y ∈ plc ss k
  · rw [if_pos h, if_pos (mem_prs.2 h)]
    rfl
  · rw [if_neg h, if_neg (fun q => h (mem_prs.1 q))]
    rfl
end Far
namespace Pw
open PySem PySem.Spec PyProof.Rows L2
open Evl (Ex ex_l ex_t fresh_back)
section
variable {T : Cfg} {W : WX} {ρ : List (Option D)} {m0 : Mu} {XP : XW} {K : Out → Prop} {te te' : TE} {P : D → Mu → Prop} {u : TS} {μ : Mu} {E : XK} {ta : TA} {Hb H : Hp}
theorem nol_bl {T : Cfg} (b : Bool) : NoLst T (.bl b) := fun _ _ _ _ r => by cases r; exact .bl b
theorem ev_calLp {c : List D → (D → Prop) → (XD → Prop) → Prop} (h : EA T ta W ⟨ρ, m0⟩ (fun ds μ => (∀ a m, μ a = some m → ∃ xs, m = .lst xs) ∧ ∃ es, StlL μ ds es ∧ c es (fun d => NoLst T d ∧ P d μ) (fun _ => False)) XP) : EV T (tCall (spOf T (pu c)) [] E ta) W ⟨ρ, m0⟩ P XP := fun σ Hb H Q S q x =>
  h σ Hb H _ S (fun ds μ vs Hb1 H1 g r p => by
    obtain ⟨hl, es, st, hc⟩ := p
    refine ⟨es, mu0, frzA μ Hb1 H1, fun d μ' => μ' = mu0 ∧ NoLst T d ∧ P d μ, fun _ _ => False, frzA_sub g.sub, g.mu.up (fun _ _ _ q => q) (frzA_iff g.mu) (fun _ _ h => nomatch h), by simpa using st.repA g.sub g.mu r, ⟨rfl, _, _, hc, fun d hd => ⟨rfl, hd⟩, fun x hx => hx⟩, fun d μ' v Hb' H' g' r' k => ?_, fun y μ' cls dd Hb' H' g' r' k => k.elim⟩
    obtain ⟨rfl, hn, k⟩ := k
    -- what was lent is taken back
    let Hc : Hp := fun b => match μ b with
      | some _ => none
      | none => Hb' b
    have hcS : ∀ b m, μ b = some m → Hc b = none := fun b m e => by
      show (match μ b with | some _ => none | none => Hb' b) = none
      rw [e]
    have hcN : ∀ b, μ b = none → Hc b = Hb' b := fun b e => by
      show (match μ b with | some _ => none | none => Hb' b) = Hb' b
      rw [e]
    have fS : ∀ b m, μ b = some m → frzA μ Hb1 H1 b = H1 b := fun b m e => by
      unfold frzA
      rw [e]
    have fN : ∀ b, μ b = none → frzA μ Hb1 H1 b = Hb1 b := fun b e => by
      unfold frzA
      rw [e]
    have exc : Ex Hb1 Hc := fun b o e => by
      have hm : μ b = none := by
        cases em : μ b with
        | none => rfl
        | some m =>
          have := (g.mu b m em).1
          rw [e] at this
          cases this
      rw [hcN b hm]
      exact g'.ex b o (frzA_ex g.sub b o e)
    have gw : Go T μ Hb1 H1 μ Hc H' := by
      refine ⟨exc, fun b o e1 e2 e3 e4 => ?_, fun b m e1 => .inl (by rw [e1]; simp), fun b o e1 => g'.alive b o e1, fun b o e1 => ?_, g'.mu.up (fun _ _ _ q => q) (fun b u hu => by
        cases em : μ b with
        | none => rw [hcN b em]
        | some m =>
          obtain ⟨_, o, ho, ro⟩ := g.mu b m em
          have e5 := g'.ex b o (by rw [fS b m em]; exact ho)
          rw [hcS b m em, e5]
          exact ⟨fun q => (nomatch q), fun q => by cases q; exact absurd ro.ntc hu⟩) fun b m e1 => ?_⟩
      · obtain ⟨k1, k2⟩ := g'.keep b o e1 (by rw [fN b e3]; exact e2) rfl e4
        exact ⟨k1, fun nt => by rw [hcN b e3]; exact k2 nt⟩
      · cases em : μ b with
        | none => rw [hcN b em] at e1; exact g'.sub b o e1
        | some m => rw [hcS b m em] at e1; cases e1
      · obtain ⟨n, o, ho, ro⟩ := g.mu b m e1
        exact ⟨hcS b m e1, o, g'.sub b o (g'.ex b o (by rw [fS b m e1]; exact ho)), ro.mono exc⟩
    refine q d μ v Hc H' (g.trans gw) (hn Hb' Hc v (fun b o e ho => ?_) r') k
    cases em : μ b with
    | none => rw [hcN b em]; exact e
    | some m =>
      obtain ⟨xs, rfl⟩ := hl b m em
      obtain ⟨_, o2, ho2, ro⟩ := g.mu b _ em
      have e5 := g'.ex b o2 (by rw [fS b _ em]; exact ho2)
      rw [e] at e5
      cases e5
      cases o with
      | lst ys => exact absurd rfl (ho ys)
      | _ => exact ro.elim) x
end
end Pw
namespace Pw
open PySem PySem.Spec PyProof.Rows L2
open Evl (Ex ex_l ex_t fresh_back)
section
variable {T : Cfg} {P : D → Mu → Prop} {μ : Mu}
theorem cv_tupX {a : Addr} {ds : List D} (hm : μ a = some (.lst ds)) (p : P (.tup ds) μ) : CV T (rTupOf T.K) [.ptr a] μ P := fun xs Hb H Q ex sm r q => by
  obtain ⟨v, rfl, r1⟩ := one_inv r
  cases r1
  obtain ⟨hb, o, ho, ro⟩ := sm a _ hm
  cases o with
  | lst ys =>
    have ro : RepL T Hb ds ys := ro
    refine ⟨a, ys, rfl, .inl ⟨.inl (.inl ho), fun l hl => ?_⟩⟩
    have g := Go.lay ex sm (o := .tup ys) hl
    have rl := ro.mono g.ex
    exact q _ _ _ _ _ g (.tup (.inl (.inl upd_same)) rl.1 rl.2) p
  | _ => exact ro.elim
end
end Pw
namespace Far
open PySem PySem.Spec PyProof.Rows L2 Pw Cg
open FM (Bq)
def rwL (n m : Nat) (t : Nat → Nat → Rat) : List (List D) := (rngR n m t).map fun vs => vs.map shD
structure Told (ν : Mu) (n m : Nat) (π : Nat → Nat → Rat) (p q : Nat → Rat) (pl : Addr) (qs : List Addr) (a b : Addr) : Prop where
  nest : Nest ν pl qs (rwL n m π)
  fa : ν a = some (.lst ((rng n p).map shD))
  fb : ν b = some (.lst ((rng m q).map shD))
  ab : a ≠ b
  bpl : b ≠ pl
  bqs : b ∉ qs
  lists : ∀ c m, ν c = some m → ∃ xs, m = .lst xs
def c_cheapestN (T : Cfg) : Ct := fun ds μ P _ => μ = mu0 ∧ ∃ (costs : List (List Rat)) (fs ss : List Rat) (b hb mb N M : Nat), ds = [shR costs, shL fs, shL ss] ∧ HandB costs fs ss b hb mb N M ∧
  ∀ (π : Nat → Nat → Rat) (p q : Nat → Rat), Opt fs.length ss.length (cq costs) (fun x => fs.getD x 0) (fun y => ss.getD y 0) π p q → (∀ x y, x < fs.length → y < ss.length → Bq hb (π x y) ∧ (π x y).den ∣ N) → (∀ x, x < fs.length → Bq (b + mb + 6) (p x)) → (∀ y, y < ss.length → Bq (b + mb + 6) (q y)) →
    ∀ (pl : Addr) (qs : List Addr) (a b' : Addr) (ν : Mu), Told ν fs.length ss.length π p q pl qs a b' → P (.tup [shD (dots costs (rngR fs.length ss.length π)), .ptr pl, .tup [.ptr a, .ptr b']]) ν
theorem len_cheapestN {T : Cfg} : ∀ ds μ P XP, c_cheapestN T ds μ P XP → ds.length = 3 := by
  rintro ds μ P XP ⟨rfl, c, f, s, b, hb, mb, N, M, rfl, _⟩; rfl
def t_cheapestN (T : Cfg) (E : XK) : TS := (tSeq (tDrop (tCall (spOf T (pu (c_check_carrying T))) [] E0 (tCons (tVar 0) (tCons (tVar 1) (tCons (tVar 2) tNil)))))
    (tSeq (tAsg (tCall (spOf T (pu (c_multiple_of T))) [] E0 (tCons (tOp rCat (tVar 1) (tVar 2)) tNil)) (gName 3))
    (tSeq (tAsg (tLk (tCB (rDictP T.K) (tCons (tLc (iEnum T.K (tCons (tCall (spOf T (pu (c_in_whole T))) [] E0 (tCons (tVar 1) (tCons (tVar 3) tNil))) tNil)) (gTup T.K 2 (gCons (gName 15) (gCons (gName 18) gNil))) (tTest (tOp (rI0 fun i j => .bl (decide (j < i))) (tVar 18) (tC (.int 0)))) (tTup (tCons (tVar 15) (tCons (tVar 18) tNil))) [15, 18]) tNil))) (gName 4))
    (tSeq (tAsg (tLk (tCB (rDictP T.K) (tCons (tLc (iEnum T.K (tCons (tCall (spOf T (pu (c_in_whole T))) [] E0 (tCons (tVar 2) (tCons (tVar 3) tNil))) tNil)) (gTup T.K 2 (gCons (gName 16) (gCons (gName 18) gNil))) (tTest (tOp (rI0 fun i j => .bl (decide (j < i))) (tVar 18) (tC (.int 0)))) (tTup (tCons (tVar 16) (tCons (tVar 18) tNil))) [16, 18]) tNil))) (gName 5))
    (tSeq (tAsg (tC (.int 1)) (gName 6))
    (tSeq (tFor (iList T.K (tVar 0)) (gName 7) (tAsg (tCall (spOf T (pu (c_multiple_of T))) [] E0 (tCons (tOp rCat (tVar 7) (tLst (tCons (tMake (T.cls 0) (spOf T (ini 0 (c_Share___init__ T))) [] E0 (tCons (tC (.int 1)) (tCons (tVar 6) tNil))) tNil))) tNil)) (gName 6)))
    (tSeq (tAsg (tLc (iList T.K (tVar 0)) (gName 7) tYes (tCall (spOf T (pu (c_in_whole T))) [] E0 (tCons (tVar 7) (tCons (tVar 6) tNil))) [7]) (gName 8))
    (tSeq (tAsg (tMake (T.cls 2) (spOf T (c_Carrying___init__ T)) [] E0 (tCons (tVar 8) (tCons (tVar 4) (tCons (tVar 5) tNil)))) (gName 9))
    (tSeq (tDrop (tMeth (T.cls 2) "carry_all" (spOf T (c_Carrying_carry_all T)) [] E0 (tVar 9) tNil))
    (tSeq (tAsg (tMeth (T.cls 2) "prices" (spOf T (c_Carrying_prices T)) [] E0 (tVar 9) tNil) (gTup T.K 2 (gCons (gName 13) (gCons (gName 14) gNil))))
    (tSeq (tAsg (tCall (spOf T (c_all_prices T)) [] E0 (tCons (tVar 8) (tCons (tVar 13) (tCons (tVar 14) tNil)))) (gName 10))
    (tSeq (tAsg (tLc (iRng1 (tCons (tCB (Pw.rLen T.K) (tCons (tVar 1) tNil)) tNil)) (gName 15) tYes (tLc (iRng1 (tCons (tCB (Pw.rLen T.K) (tCons (tVar 2) tNil)) tNil)) (gName 16) tYes (tMake (T.cls 0) (spOf T (ini 0 (c_Share___init__ T))) [] E0 (tCons (tDGet2 (tFld T.K (tVar 9) "carried") (tTup (tCons (tVar 15) (tCons (tVar 16) tNil))) (tC (.int 0))) (tCons (tVar 3) tNil))) [16]) [15]) (gName 11))
    (tSeq (tAsg (tCB (rTupOf T.K) (tCons (tLc (iTup T.K (tVar 10)) (gName 17) tYes (tLc (iList T.K (tVar 17)) (gName 19) tYes (tMake (T.cls 0) (spOf T (ini 0 (c_Share___init__ T))) [] E0 (tCons (tVar 19) (tCons (tVar 6) tNil))) [19]) [17]) tNil)) (gName 12))
    (tRet (tTup (tCons (tCall (spOf T (pu (c_costW T))) [] E0 (tCons (tVar 0) (tCons (tVar 11) tNil))) (tCons (tVar 11) (tCons (tVar 12) tNil))))))))))))))))))
theorem nol_sh {T : Cfg} (q : Rat) : NoLst T (shD q) := nol_ins fun g hg => by
  unfold shF at hg
  rcases List.mem_cons.1 hg with rfl | hg
  · exact nol_int _
  · rw [List.mem_singleton.1 hg]
    exact nol_int _
theorem sub_putX {μ1 μ : Mu} {a : Addr} {m : MO} (h : Subm μ1 μ) (n : μ1 a = none) : Subm μ1 (put μ a m) := fun b z e => by
  rw [put_ne (fun q => by rw [q, n] at e; cases e)]
  exact h b z e
theorem CM.sub {μ μ' : Mu} {s h w c : Addr} {cm : List (List Int)} {g : G} {hv wv : Nat → Int} (m : CM μ s h w c cm g hv wv) (k : Subm μ μ') : CM μ' s h w c cm g hv wv := ⟨k _ _ m.self, k _ _ m.hav, k _ _ m.wan, k _ _ m.car, m.hw⟩
theorem cheap_planN {T : Cfg} (hT : CaOk T) {W : WX} {μ : Mu} {P : D → Mu → Prop} {XP : XW} {costs : List (List Rat)} {fs ss : List Rat} {b hb mb N M k j : Nat} {f : Nat → Nat → Int} {hv wv : Nat → Int} {st : L} {pf qf : Nat → Int} {s h w c : Addr} (hd : HandB costs fs ss b hb mb N M) (d : Done costs fs ss N M k j f hv wv st pf qf) (m : CM μ s h w c (cmW costs j) ⟨cst costs j, plc fs k, plc ss k, f⟩ hv wv)
    (p : ∀ (pl : Addr) (qs : List Addr) (μ' : Mu), Subm μ μ' → (∀ c, c ∈ pl :: qs → μ c = none) → Nest μ' pl qs (rwL fs.length ss.length (piQ fs ss k f)) → P (.ptr pl) μ') :
    EV T (tLc (iRng1 (tCons (tCB (Pw.rLen T.K) (tCons (tVar 1) tNil)) tNil)) (gName 15) tYes (tLc (iRng1 (tCons (tCB (Pw.rLen T.K) (tCons (tVar 2) tNil)) tNil)) (gName 16) tYes (tMake (T.cls 0) (spOf T (ini 0 (c_Share___init__ T))) [] E0 (tCons (tDGet2 (tFld T.K (tVar 9) "carried") (tTup (tCons (tVar 15) (tCons (tVar 16) tNil))) (tC (.int 0))) (tCons (tVar 3) tNil))) [16]) [15]) W ⟨R0 costs fs ss k j s pf qf, μ⟩ P XP := by
  have hS := hT.sh
  have hf2 := hd.f2
  have hs2 := hd.s2
  have k0 := d.k0
  have k16 := d.k16 hd
  unfold R0
  refine ev_lcM (is := [15]) (fun _ h => h) (iv_rng1 ?_)
  walk_at "pks"
  refine cv_len (.inl rfl) ?_
  walk_at "pks"
  rw [List.length_map]
  refine ⟨by omega, by omega, by omega, fun x acc μ' => ∃ qs : List Addr, acc = qs.map D.ptr ∧ qs.length = x ∧ Subm μ μ' ∧ ∀ (i : Nat) (q : Addr), qs[i]? = some q → μ' q = some (.lst ((rng ss.length (piQ fs ss k f i)).map shD)) ∧ μ q = none, ⟨[], rfl, rfl, sub_refl, fun i q h => by simp at h⟩, fun x acc μ' hx _ hI => ?_, fun acc μ' p0 hI _ hp => ?_⟩
  · obtain ⟨qs, rfl, hq, hs, hrow⟩ := hI
    refine gv_name (tv_yes ⟨fun _ => ?_, fun h => nomatch h⟩)
    have e0 : (0 : Int) + (x : Int) = (x : Int) := by omega
    dsimp only
    rw [e0]
    refine ev_lcM (is := [16]) (fun _ h => h) (iv_rng1 ?_)
    walk_at "pks"
    refine cv_len (.inl rfl) ?_
    walk_at "pks"
    rw [List.length_map]
    refine ⟨by omega, by omega, by omega, fun y acc μ2 => μ2 = μ' ∧ acc = (rng y (piQ fs ss k f x)).map shD, ⟨rfl, rfl⟩, fun y acc μ2 hy _ hI => ?_, fun acc μ2 q0 hI _ hq0 => ?_⟩
    · obtain ⟨rfl, rfl⟩ := hI
      refine gv_name (tv_yes ⟨fun _ => ?_, fun h => nomatch h⟩)
      have e0 : (0 : Int) + (y : Int) = (y : Int) := by omega
      dsimp only
      rw [e0]
      have m' := m.sub hs
      walk_at "pks"
      refine ev_get2OT (ev_fldM (ev_var rfl ⟨s, 2, _, _, rfl, m'.self, hT.cl, hT.n4, rfl, c, _, rfl, m'.car, ev_tupK ?_⟩))
      walk_at "pks"
      refine ⟨k2 (x, y), rfl, by simp [k2], ?_⟩
      walk_at "pks"
      refine ⟨_, _, rfl, m'.car, ?_⟩
      rw [look_Fi]
      walk_at "pks"
      refine ⟨by omega, (bt_nat k16).mono (by have := hd.h60; omega), rfl, ?_⟩
      unfold rng
      rw [List.range_succ, List.map_append, List.map_append]
      rfl
    · obtain ⟨rfl, rfl⟩ := hI
      have en : ((ss.length : Nat) : Int).toNat = ss.length := by omega
      rw [en]
      have μq : μ q0 = none := by
        cases e : μ q0 with
        | none => rfl
        | some z => rw [hs _ _ e] at hq0; cases hq0
      refine ⟨qs ++ [q0], by rw [List.map_append]; rfl, by simp [hq], sub_putX hs μq, fun i q h1 => ?_⟩
      by_cases hi : i < qs.length
      · rw [List.getElem?_append_left hi] at h1
        obtain ⟨g1, g2⟩ := hrow i q h1
        refine ⟨?_, g2⟩
        rw [put_ne (fun e => by rw [e, hq0] at g1; cases g1)]
        exact g1
      · rw [List.getElem?_append_right (by omega)] at h1
        cases hd : i - qs.length with
        | zero =>
          rw [hd] at h1
          simp at h1
          subst h1
          rw [show i = x by omega]
          exact ⟨put_same, μq⟩
        | succ n => rw [hd] at h1; simp at h1
  · obtain ⟨qs, rfl, hq, hs, hrow⟩ := hI
    have hq : qs.length = fs.length := by omega
    have μp : μ p0 = none := by
      cases e : μ p0 with
      | none => rfl
      | some z => rw [hs _ _ e] at hp; cases hp
    have hne : p0 ∉ qs := fun hm => by
      obtain ⟨i, hi, e1⟩ := List.mem_iff_getElem.1 hm
      obtain ⟨g1, _⟩ := hrow i p0 (by rw [List.getElem?_eq_getElem hi, e1])
      rw [hp] at g1
      cases g1
    refine p p0 qs _ (sub_putX hs μp) (fun c hc => ?_) ⟨put_same, by simp [rwL, rngR, hq], fun i q r h1 h2 => ?_, hne⟩
    · rcases List.mem_cons.1 hc with rfl | hc
      · exact μp
      · obtain ⟨i, hi, e1⟩ := List.mem_iff_getElem.1 hc
        exact (hrow i c (by rw [List.getElem?_eq_getElem hi, e1])).2
    · have hi : i < fs.length := by rw [← hq]; exact (List.getElem?_eq_some_iff.1 h1).1
      unfold rwL rngR at h2
      rw [List.getElem?_map, List.getElem?_map, List.getElem?_range hi] at h2
      cases h2
      obtain ⟨g1, _⟩ := hrow i q h1
      rw [put_ne (fun e => by rw [e, hp] at g1; cases g1)]
      exact g1
theorem cheap_pricesN {T : Cfg} (hT : CaOk T) {W : WX} {ρ : List (Option D)} {μ : Mu} {P : D → Mu → Prop} {XP : XW} {n m j mb : Nat} {pf qf : Nat → Int} (hn : n ≤ 12) (hm : m ≤ 12) (j0 : 0 < j) (hm15 : mb ≤ 1500) (j16 : j < 2 ^ mb) (h10 : ρ[10]? = some (some (pqD n m pf qf)))
    (h17 : ∀ x : D, ((wipeD ρ [17]).set 17 (some x))[17]? = some (some x)) (h19 : ∀ x y : D, ((wipeD ((wipeD ρ [17]).set 17 (some x)) [19]).set 19 (some y))[19]? = some (some y)) (h6 : ∀ x y : D, ((wipeD ((wipeD ρ [17]).set 17 (some x)) [19]).set 19 (some y))[6]? = some (some (.int (j : Int))))
    (p : ∀ (a b : Addr) (μ' : Mu), Subm μ μ' → μ a = none → μ b = none → a ≠ b → μ' a = some (.lst ((rng n (prQ j pf)).map shD)) → μ' b = some (.lst ((rng m (prQ j qf)).map shD)) → P (.tup [.ptr a, .ptr b]) μ') :
    EV T (tCB (rTupOf T.K) (tCons (tLc (iTup T.K (tVar 10)) (gName 17) tYes (tLc (iList T.K (tVar 17)) (gName 19) tYes (tMake (T.cls 0) (spOf T (ini 0 (c_Share___init__ T))) [] E0 (tCons (tVar 19) (tCons (tVar 6) tNil))) [19]) [17]) tNil)) W ⟨ρ, μ⟩ P XP := by
  have hS := hT.sh
  have one : ∀ (i : Nat) (pf : Nat → Int) (μ : Mu) (P : D → Mu → Prop), i ≤ 12 → (∀ a, μ a = none → P (.ptr a) (put μ a (.lst ((rng i (prQ j pf)).map shD)))) → EV T (tLc (iList T.K (tVar 17)) (gName 19) tYes (tMake (T.cls 0) (spOf T (ini 0 (c_Share___init__ T))) [] E0 (tCons (tVar 19) (tCons (tVar 6) tNil))) [19]) (fun _ _ _ _ => False) ⟨(wipeD ρ [17]).set 17 (some (.lst ((List.range i).map fun x => .int (pf x)))), μ⟩ P (fun _ _ => False) := fun i pf μ P hi hP => by
    refine ev_lcXM (iv_list (ev_var (h17 _) ⟨_, .inl rfl, by simp; omega, fun k => some (shD (prQ j pf k)), fun k hk => ?_, fun a ha => ?_⟩))
    · have hk : k < i := by simpa using hk
      rw [nth_of (d := .int (pf k)) (by rw [List.getElem?_map, List.getElem?_range hk]; rfl)]
      refine tv_yes ⟨rfl, fun _ => ?_, fun h => (by cases h)⟩
      walk_at "pks"
      refine ev_var (h19 _ _) ?_
      walk_at "pks"
      refine ev_var (h6 _ _) ?_
      walk_at "pks"
      exact ⟨by omega, (bt_nat j16).mono (by omega), rfl, rfl⟩
    · have e : (List.range ((List.range i).map fun x => D.int (pf x)).length).filterMap (fun k => some (shD (prQ j pf k))) = (rng i (prQ j pf)).map shD := by
        rw [List.length_map, List.length_range, fm_mapH (fun k => shD (prQ j pf k))]
        unfold rng
        rw [List.map_map]
        rfl
      rw [e]
      exact hP a ha
  refine ev_cb (ea_cons (ev_lcM (is := [17]) (fun _ h => h) (iv_tup (ev_var h10 ?_))))
  refine ⟨_, rfl, by simp, fun i acc μ' => (i = 0 ∧ acc = [] ∧ μ' = μ) ∨ (i = 1 ∧ ∃ a, acc = [.ptr a] ∧ μ a = none ∧ μ' = put μ a (.lst ((rng n (prQ j pf)).map shD))) ∨ (i = 2 ∧ ∃ a b, acc = [.ptr a, .ptr b] ∧ μ a = none ∧ μ b = none ∧ a ≠ b ∧ μ' = put (put μ a (.lst ((rng n (prQ j pf)).map shD))) b (.lst ((rng m (prQ j qf)).map shD))), .inl ⟨rfl, rfl, rfl⟩, fun i acc μ' hi _ hI => ?_, fun acc μ' l hI _ hl => ?_⟩
  · have hi : i < 2 := hi
    refine gv_name (tv_yes ⟨fun _ => ?_, fun h => nomatch h⟩)
    rcases hI with ⟨rfl, rfl, rfl⟩ | ⟨rfl, a, rfl, ha, rfl⟩ | ⟨rfl, _⟩
    · exact one n pf μ' _ hn fun a ha => .inr (.inl ⟨rfl, a, rfl, ha, rfl⟩)
    · refine one m qf _ _ hm fun b hb => .inr (.inr ⟨rfl, a, b, rfl, ha, ?_, ?_, rfl⟩)
      · by_cases e : b = a
        · rw [e, put_same] at hb; cases hb
        · rwa [put_ne e] at hb
      · intro e
        rw [← e, put_same] at hb
        cases hb
    · omega
  · rcases hI with ⟨h, _⟩ | ⟨h, _⟩ | ⟨_, a, b, rfl, ha, hb, hab, rfl⟩
    · cases h
    · cases h
    · refine ea_nil (cv_tupX put_same ?_)
      have hla : l ≠ a := fun e => by rw [e, put_ne hab, put_same] at hl; cases hl
      have hlb : l ≠ b := fun e => by rw [e, put_same] at hl; cases hl
      refine p a b _ (fun c z e => ?_) ha hb hab ?_ ?_
      · have h1 : c ≠ a := fun q => by rw [q, ha] at e; cases e
        have h2 : c ≠ b := fun q => by rw [q, hb] at e; cases e
        have h3 : c ≠ l := fun q => by
          rw [q] at e
          rw [put_ne hlb, put_ne hla, e] at hl
          cases hl
        rw [put_ne h3, put_ne h2, put_ne h1]
        exact e
      · rw [put_ne (Ne.symm hla), put_ne hab, put_same]
      · rw [put_ne (Ne.symm hlb), put_same]
theorem pure_cheapestN {T : Cfg} (hT : CaOk T) : ∀ E ds μ P XP, c_cheapestN T ds μ P XP → SV T (t_cheapestN T E) (fun cls dd _ H => E cls dd H) ⟨slots 20 ds, μ⟩ (fnK P XP) := by
  rintro E ds μ P XP ⟨rfl, costs, fs, ss, b, hb, mb, N, M, rfl, hd, p⟩
  unfold t_cheapestN
  refine cheap_head hT hd fun μ' s h w c k j f hv wv st pf qf d m => ?_
  refine sv_seq (sv_asg (cheap_planN hT hd d m fun pl qs μ1 hs1 hf1 hn1 => ?_))
  refine seqK_nx (sv_seq (sv_asg (cheap_pricesN (n := fs.length) (m := ss.length) (pf := pf) (qf := qf) hT hd.f2 hd.s2 d.j0 hd.m15 (d.j16 hd) rfl (fun _ => rfl) (fun _ _ => rfl) (fun _ _ => rfl) fun a b2 μ2 hs2 ha hb2 hab fa fb => ?_)))
  have hpl1 : μ1 pl = some (.lst (qs.map D.ptr)) := hn1.top
  have hqs1 : ∀ q ∈ qs, ∃ r, μ1 q = some (.lst r) := fun q hq => by
    obtain ⟨i, hi, e1⟩ := List.mem_iff_getElem.1 hq
    have hi2 : i < (rwL fs.length ss.length (piQ fs ss k f)).length := by rw [← hn1.ln]; exact hi
    exact ⟨_, hn1.row i q _ (by rw [List.getElem?_eq_getElem hi, e1]) (List.getElem?_eq_getElem hi2)⟩
  have told : Told (fun c => if c = pl ∨ c ∈ qs ∨ c = a ∨ c = b2 then μ2 c else none) fs.length ss.length (piQ fs ss k f) (prQ j pf) (prQ j qf) pl qs a b2 := {
    nest := ⟨by show (if _ then _ else _) = _; rw [if_pos (.inl rfl)]; exact hs2 _ _ hpl1, hn1.ln, fun i q r h1 h2 => by
      show (if _ then _ else _) = _
      rw [if_pos (.inr (.inl (List.mem_of_getElem? h1)))]
      exact hs2 _ _ (hn1.row i q r h1 h2), hn1.ne⟩
    fa := by show (if _ then _ else _) = _; rw [if_pos (.inr (.inr (.inl rfl)))]; exact fa
    fb := by show (if _ then _ else _) = _; rw [if_pos (.inr (.inr (.inr rfl)))]; exact fb
    ab := hab
    bpl := fun e => by rw [e, hpl1] at hb2; cases hb2
    bqs := fun e => by
      obtain ⟨r, hr⟩ := hqs1 b2 e
      rw [hr] at hb2
      cases hb2
    lists := fun c z hz => by
      split at hz
      · rename_i h
        rcases h with rfl | h | rfl | rfl
        · rw [hs2 _ _ hpl1] at hz; cases hz; exact ⟨_, rfl⟩
        · obtain ⟨r, hr⟩ := hqs1 c h
          rw [hs2 _ _ hr] at hz; cases hz; exact ⟨_, rfl⟩
        · rw [fa] at hz; cases hz; exact ⟨_, rfl⟩
        · rw [fb] at hz; cases hz; exact ⟨_, rfl⟩
      · cases hz }
  have subν : Subm (fun c => if c = pl ∨ c ∈ qs ∨ c = a ∨ c = b2 then μ2 c else none) μ2 := fun c z hz => by
    dsimp only at hz
    split at hz
    · exact hz
    · cases hz
  refine seqK_nx (sv_wk leR.refl subν ?_)
  generalize (fun c => if c = pl ∨ c ∈ qs ∨ c = a ∨ c = b2 then μ2 c else none) = ν at told
  unfold R0
  refine sv_ret (ev_tup (ea_cons (ev_calLp (ea_cons (ev_var rfl (ea_cons (ev_var rfl (ea_nil ⟨told.lists, _, StlL.cons (.refl _) (StlL.cons told.nest.stl .nil), ?_⟩))))))))
  have erw : D.lst ((rwL fs.length ss.length (piQ fs ss k f)).map D.lst) = shR (rngR fs.length ss.length (piQ fs ss k f)) := by
    unfold rwL shR
    rw [List.map_map]
    rfl
  rw [erw]
  refine ⟨_, _, _, _, b, hb, mb, N, M, rfl, hd.rows, rows_rng fun x y hx hy => d.piB hd hx hy, fun r hr q hq => ((hd.cr r hr).2 q hq).2.2, dv_rng fun x y _ _ => d.piD x y, hd.b80, hd.h60, hd.m15, hd.m0, hd.m1, hd.n0, hd.n1, hd.f2, hd.s2, nol_sh _, ?_⟩
  walk_at "pks"
  exact p _ _ _ (d.opt hd) (fun x y hx hy => ⟨d.piB hd hx hy, d.piD x y⟩) (fun x hx => d.prB hd hx) (fun y hy => d.qrB hd hy) pl qs a b2 ν told
end Far
namespace Pw
open PySem PySem.Spec PyProof.Rows L2
open Evl (Ex ex_l ex_t)
def DOr (D D' : Eqv) : Eqv := fun x y H => D x y H ∨ D' x y H
theorem mon_or {D D' : Eqv} (h : Mon D) (h' : Mon D') : Mon (DOr D D') := Mon.or h h'
theorem eqG_or {X : Cx} {n : Nat} {D D' : Eqv} (h : EqG X n D) (h' : EqG X n D') : EqG X n (DOr D D') := EqG.or h h'
theorem eqG_up {X : Cx} {n m : Nat} {D : Eqv} (h : EqG X n D) (hn : n ≤ m) : EqG X m D := h.mono hn
section
variable {T : Cfg} {P : D → Mu → Prop} {μ : Mu}
theorem dl_row {Hb H : Hp} (ex : Ex Hb H) {rows : List (List Rat)} {x y : V} (r1 : Rep T Hb (.lst (rows.map fun r => .lst (r.map Far.shD))) x) (r2 : Rep T Hb (.lst (rows.map fun r => .lst (r.map Far.shD))) y) : DList (DList (DSh T)) x y H := by
  obtain ⟨a, xs, rfl, hx, q1⟩ := r1.lst_inv
  obtain ⟨b, ys, rfl, hy, q2⟩ := r2.lst_inv
  refine ⟨a, b, xs, ys, rfl, rfl, ex _ _ hx, ex _ _ hy, q1.1.symm.trans q2.1, fun i v w hv hw => ?_⟩
  obtain ⟨d, hd, rd⟩ := q1.getV hv
  obtain ⟨e, he, re⟩ := q2.getV hw
  rw [hd] at he; cases he
  rw [List.getElem?_map, Option.map_eq_some_iff] at hd
  obtain ⟨r, _, rfl⟩ := hd
  exact dl_sh ex rd re
theorem ov_neHand {rows : List (List Rat)} {ps qs : List Rat} (p : P (.bl false) μ) : OV T (rNeG (DTup T.K (DOr (DList (DList (DSh T))) (DList (DSh T))))) (.tup [.lst (rows.map fun r => .lst (r.map Far.shD)), .lst (ps.map Far.shD), .lst (qs.map Far.shD)]) (.tup [.lst (rows.map fun r => .lst (r.map Far.shD)), .lst (ps.map Far.shD), .lst (qs.map Far.shD)]) μ P := fun x y Hb H Q ex sm rx ry q => by
  obtain ⟨a, xs, rfl, hx, q1⟩ := rx.tup_inv
  obtain ⟨b, ys, rfl, hy, q2⟩ := ry.tup_inv
  refine ⟨⟨a, b, xs, ys, rfl, rfl, ex_t ex hx, ex_t ex hy, q1.1.symm.trans q2.1, fun i v w hv hw => ?_⟩, fun H' e => q _ _ _ _ _ (Go.ext ex sm e) (.bl false) p⟩
  obtain ⟨d, hd, rd⟩ := q1.getV hv
  obtain ⟨e, he, re⟩ := q2.getV hw
  rw [hd] at he; cases he
  match i, hd with
  | 0, hd => cases hd; exact .inl (dl_row ex rd re)
  | 1, hd => cases hd; exact .inr (dl_sh ex rd re)
  | 2, hd => cases hd; exact .inr (dl_sh ex rd re)
  | n + 3, hd => simp at hd
theorem ov_in00 {qs : List Rat} (p : P (.bl false) μ) : OV T (rInD T.K false) (.tup [.int 0, .int 0]) (.lst (qs.map Far.prD)) μ P := ov_of (fun x y Hb H Q ex rx ry w => by
  obtain ⟨a, xs, rfl, hx, r⟩ := ry.lst_inv
  obtain ⟨h1, h2, h3⟩ := prs_dpy qs
  have hpl : ∀ qs : List Rat, PyData.plainAll (qs.map prP) = true := by
    intro qs
    induction qs with
    | nil => rfl
    | cons q qs ih =>
      rw [List.map_cons, PyData.plainAll, ih]
      rfl
  have han : ∀ qs : List Rat, ((qs.map prP).any fun y => PyData.eqv y (.tuple [.int 0, .int 0])) = false := by
    intro qs
    induction qs with
    | nil => rfl
    | cons q qs ih =>
      rw [List.map_cons, List.any_cons, ih]
      unfold prP
      rw [eqv2]
      have : ¬ (q.num = 0 ∧ (q.den : Int) = 0) := fun h => by
        have := q.den_nz
        omega
      rw [decide_eq_false this]
      rfl
  refine ⟨a, xs, .tuple [.int 0, .int 0], qs.map prP, rfl, Evl.sq_of (ex _ _ hx), DPy.dp ex _ _ x dpy2 rx, DPyL.dp ex _ _ xs h1 r, rfl, hpl qs, by simp [PyData.depth, PyData.depthAll], ?_⟩
  rw [if_neg (by decide), han]
  exact w _ (.bl _)) p
theorem ov_nePrs {ps qs : List Rat} (k : P (.bl (!decide (ps = qs))) μ) : OV T (rNeD T.K) (.lst (ps.map Far.prD)) (.lst (qs.map Far.prD)) μ P := by
  obtain ⟨h1, h2, h3⟩ := prs_dpy ps
  obtain ⟨g1, g2, g3⟩ := prs_dpy qs
  refine ov_neD (.lst h1) (.lst g1) (pln_shaped h2 h3) (pln_shaped g2 g3) ?_
  rw [prs_eqv]
  exact k
end
end Pw
namespace Far
open PySem PySem.Spec PyProof.Rows L2 Pw Cg
open FM (Bq)
structure Plan (n m : Nat) (f s : Nat → Rat) (π : Nat → Nat → Rat) : Prop where
  nn : ∀ x y, x < n → y < m → 0 ≤ π x y
  row : ∀ x, x < n → sm m (π x) = f x
  col : ∀ y, y < m → sm n (fun x => π x y) = s y
def Pric (n m : Nat) (c : Nat → Nat → Rat) (p q : Nat → Rat) : Prop := ∀ x y, x < n → y < m → p x - q y ≤ c x y
def cost (n m : Nat) (c π : Nat → Nat → Rat) : Rat := sm n fun x => sm m fun y => c x y * π x y
def brou (n m : Nat) (f s p q : Nat → Rat) : Rat := sm n (fun x => p x * f x) - sm m fun y => q y * s y
theorem wd {n m : Nat} {c : Nat → Nat → Rat} {f s : Nat → Rat} {π : Nat → Nat → Rat} {p q : Nat → Rat} (hp : Plan n m f s π) (hq : Pric n m c p q) : brou n m f s p q ≤ cost n m c π := by
  have e : brou n m f s p q = sm n fun x => sm m fun y => (p x - q y) * π x y := by
    have e1 : (sm n fun x => sm m fun y => (p x - q y) * π x y) = sm n fun x => p x * f x - sm m fun y => q y * π x y := by
      refine sm_congr fun x hx => ?_
      rw [← hp.row x hx, ← sm_mul, ← sm_sub]
      exact sm_congr fun y _ => by grind
    rw [e1, sm_sub, sm_swap]
    unfold brou
    congr 1
    refine sm_congr fun y hy => ?_
    rw [sm_mul, hp.col y hy]
  rw [e]
  exact sm_le fun x hx => sm_le fun y hy => Rat.mul_le_mul_of_nonneg_right (hq x y hx hy) (hp.nn x y hx hy)
section
variable {n m : Nat} {c : Nat → Nat → Rat} {f s : Nat → Rat} {π : Nat → Nat → Rat} {p q : Nat → Rat}
theorem Opt.plan (h : Opt n m c f s π p q) : Plan n m f s π := ⟨h.nn, h.row, h.col⟩
theorem Opt.ceq (h : Opt n m c f s π p q) : cost n m c π = brou n m f s p q := h.eq
theorem Opt.least (h : Opt n m c f s π p q) {π' : Nat → Nat → Rat} (h' : Plan n m f s π') : cost n m c π ≤ cost n m c π' := by
  rw [h.ceq]
  exact wd h' h.le
theorem Opt.most (h : Opt n m c f s π p q) {p' q' : Nat → Rat} (h' : Pric n m c p' q') : brou n m f s p' q' ≤ cost n m c π := wd h.plan h'
end
end Far
namespace Far
open PySem PySem.Spec PyProof.Rows L2 Pw
open FM (Bq)
def CoR (u : Nat) (q : Rat) : Prop := 0 ≤ q ∧ Bq 32 q ∧ q.den ∣ u
def c_LcostsW (T : Cfg) : Nat → List D → (D → Nat → Prop) → Prop := fun b rest P => ∃ n m : Nat, rest = [.int n, .int m] ∧ n ≤ 12 ∧ m ≤ 12 ∧ 200 ≤ b ∧ ∀ (rows : List (List Rat)) (u b' : Nat), 0 < u → u ≤ 12 → rows.length = n → (∀ r ∈ rows, r.length = m ∧ ∀ q ∈ r, CoR u q) → b ≤ b' + 200 → P (prR rows) b'
theorem len_LcostsW {T : Cfg} : ∀ ds μ P XP, wl (c_LcostsW T) ds μ P XP → ds.length = 3 := by
  rintro ds μ P XP ⟨a, b, rest, rfl, rfl, Pf, ⟨n, m, rfl, _⟩, _⟩; rfl
def t_LcostsW (T : Cfg) (E : XK) : TS := (tSeq (tAsg (tCall (spOf T (wl (c_Lone T))) [] E0 (tCons (tVar 0) (tCons (tLst (tCons (tC (.int 2)) (tCons (tC (.int 4)) (tCons (tC (.int 20)) (tCons (tOp (rI CPow fun i j => .int (i ^ j.toNat)) (tC (.int 10)) (tC (.int 9))) tNil))))) tNil))) (gName 3))
    (tSeq (tAsg (tOp (rI0 fun i j => .int (i + j)) (tC (.int 1)) (tCall (spOf T (wl (c_Ldraw T))) [] E0 (tCons (tVar 0) (tCons (tCall (spOf T (wl (c_Lone T))) [] E0 (tCons (tVar 0) (tCons (tLst (tCons (tC (.int 1)) (tCons (tC (.int 2)) (tCons (tC (.int 12)) tNil)))) tNil))) tNil)))) (gName 4))
    (tRet (tLc (iRng1 (tCons (tVar 1) tNil)) (gName 5) tYes (tLc (iRng1 (tCons (tVar 2) tNil)) (gName 6) tYes (tCall (spOf T (pu (c_Llow T))) [] E0 (tCons (tCall (spOf T (wl (c_Ldraw T))) [] E0 (tCons (tVar 0) (tCons (tVar 3) tNil))) (tCons (tVar 4) tNil))) [6]) [5]))))
theorem pure_LcostsW {T : Cfg} (hT : ShOk T) : ∀ E ds μ P XP, wl (c_LcostsW T) ds μ P XP → SV T (t_LcostsW T E) (fun cls dd _ H => E cls dd H) ⟨slots 7 ds, μ⟩ (fnK P XP) := by
  rintro E ds μ P XP ⟨a, b, rest, rfl, rfl, Pf, ⟨n, m, rfl, n12, m12, hb, k⟩, hP⟩
  unfold t_LcostsW
  walk_at "pks"
  refine ⟨a, b, _, _, rfl, rfl, one_i (by omega) (by simp) (by simp) fun e he => ?_⟩
  have hm : ∃ t : Int, e = .int t ∧ 0 < t ∧ t ≤ 1000000000 := by
    simp only [List.mem_cons, List.not_mem_nil, or_false] at he
    rcases he with rfl | rfl | rfl | rfl <;> exact ⟨_, rfl, by decide, by decide⟩
  obtain ⟨t, rfl, t0, t1⟩ := hm
  walk_at "pks"
  refine ⟨a, _, _, _, rfl, rfl, one_i (by omega) (by simp) (by simp) fun e he => ?_⟩
  have hm : ∃ t : Int, e = .int t ∧ 0 < t ∧ t ≤ 12 := by
    simp only [List.mem_cons, List.not_mem_nil, or_false] at he
    rcases he with rfl | rfl | rfl <;> exact ⟨_, rfl, by decide, by decide⟩
  obtain ⟨u, rfl, u0, u1⟩ := hm
  walk_at "pks"
  refine ⟨a, _, _, _, rfl, rfl, draw_i (by omega) u0 (bt4 (by omega)) fun v v0 v1 => ?_⟩
  obtain ⟨w, hw⟩ : ∃ w : Nat, (1 : Int) + v = (w : Int) := ⟨(1 + v).toNat, by omega⟩
  walk_at "pks"
  refine ev_lcW (iv_rng1 ?_)
  walk_at "pks"
  refine ⟨by omega, by omega, by omega, fun i μ => ∃ b', μ = put mu0 a (.well b') ∧ b ≤ b' + 3 + 12 * i, fun _ x => ∃ r : List Rat, x = .lst (r.map prD) ∧ r.length = m ∧ ∀ q ∈ r, CoR w q, ⟨_, rfl, by omega⟩, ?_, ?_⟩
  · rintro i μ hi ⟨b', rfl, hb'⟩
    have hi' : i < 12 := by omega
    refine ev_lcW (iv_rng1 ?_)
    walk_at "pks"
    refine ⟨by omega, by omega, by omega, fun j μ => ∃ b2, μ = put mu0 a (.well b2) ∧ b' ≤ b2 + j, fun _ x => ∃ q, x = prD q ∧ CoR w q, ⟨_, rfl, by omega⟩, ?_, ?_⟩
    · rintro j μ hj ⟨b2, rfl, hb2⟩
      have hj' : j < 12 := by omega
      walk_at "pks"
      refine ⟨a, _, _, _, rfl, rfl, draw_i (by omega) t0 (Bt.mono (n := 32) (show t.natAbs < 2 ^ 32 by omega) (by decide)) fun x x0 x1 => ?_⟩
      walk_at "pks"
      refine low_i (by omega) (bt4 (by omega)) ?_
      have w0 : 0 < w := by omega
      refine ⟨⟨_, rfl, ?_, FM.bq_divInt ?_ ?_ (by decide), ?_⟩, _, rfl, by omega⟩
      · rw [hw, di]
        refine Rat.mul_nonneg (inv_nn w0) ?_
        exact_mod_cast x0
      · have : (2 : Nat) ^ 32 = 4294967296 := by decide
        rw [this]; omega
      · have : (2 : Nat) ^ 32 = 4294967296 := by decide
        rw [this]; omega
      · rw [hw]
        exact den_di _ w0
    · rintro acc μ hlen hR ⟨b2, rfl, hb2⟩
      obtain ⟨qs, rfl, hqs⟩ := rows_of (n := 0) hR
      refine ⟨⟨qs, rfl, by simpa using hlen, hqs⟩, b2, rfl, by omega⟩
  · rintro acc μ hlen hR ⟨b', rfl, hb'⟩
    obtain ⟨rs, rfl, hrs⟩ := rows2_of hR
    exact hP _ _ (k rs w b' (by omega) (by omega) (by simpa using hlen) hrs (by omega))
end Far
namespace Far
open PySem PySem.Spec PyProof.Rows L2 Pw
open FM (Bq)
theorem rngR_self {costs : List (List Rat)} {n m : Nat} (hn : costs.length = n) (hm : ∀ r ∈ costs, r.length = m) : rngR n m (cq costs) = costs := by
  unfold rngR
  refine List.ext_getElem (by simp [hn]) fun i h1 h2 => ?_
  rw [List.getElem_map, List.getElem_range]
  have e := rng_self costs[i]
  rw [hm _ (List.getElem_mem h2)] at e
  have e2 : cq costs i = fun y => costs[i].getD y 0 := by
    funext y
    unfold cq
    rw [List.getD_eq_getElem?_getD (l := costs), List.getElem?_eq_getElem h2]
    rfl
  rw [e2]
  exact e
theorem Hand.dots {costs : List (List Rat)} {fs ss : List Rat} {b N M : Nat} (hd : Hand costs fs ss b N M) (π : Nat → Nat → Rat) : dots costs (rngR fs.length ss.length π) = cost fs.length ss.length (cq costs) π := by
  have e := rngR_self hd.cl fun r hr => (hd.cr r hr).1
  conv => lhs; rw [← e]
  rw [dots_rng]
  rfl
theorem Hand.cost_bq {costs : List (List Rat)} {fs ss : List Rat} {b N M : Nat} (hd : Hand costs fs ss b N M) {π : Nat → Nat → Rat} (hπ : ∀ x y, x < fs.length → y < ss.length → Bq 16 (π x y) ∧ (π x y).den ∣ N) : Bq (b + 56) (cost fs.length ss.length (cq costs) π) := by
  have hf2 := hd.f2
  have hs2 := hd.s2
  have N16 := hd.n1
  have M16 := hd.m1
  have hD : M * N < 2 ^ 32 := Nat.lt_of_lt_of_le (Nat.mul_lt_mul'' M16 N16) (by decide)
  have hDb : M * N < 2 ^ (b + 56) := FM.up hD (by omega)
  have hB : 2 ^ b * M * (2 ^ 16 * N) ≤ 2 ^ (b + 48) := by
    have h1 : 2 ^ b * M ≤ 2 ^ b * 2 ^ 16 := Nat.mul_le_mul_left _ (Nat.le_of_lt M16)
    have h2 : 2 ^ 16 * N ≤ 2 ^ 16 * 2 ^ 16 := Nat.mul_le_mul_left _ (Nat.le_of_lt N16)
    have h3 := Nat.mul_le_mul h1 h2
    have e : 2 ^ b * 2 ^ 16 * (2 ^ 16 * 2 ^ 16) = 2 ^ (b + 48) := by rw [Nat.pow_add, Nat.mul_assoc]
    rw [e] at h3
    exact h3
  have e144 : ∀ k, k ≤ 144 → k * 2 ^ (b + 48) < 2 ^ (b + 56) := fun k hk => by
    have e : 2 ^ (b + 56) = 256 * 2 ^ (b + 48) := by rw [show b + 56 = 8 + (b + 48) by omega, Nat.pow_add]
    rw [e]
    exact Nat.mul_lt_mul_of_pos_right (by omega) (Nat.pow_pos (by decide))
  rw [← hd.dots]
  have h1 := hd.rows
  have h2 := rows_rng fun x y hx hy => (hπ x y hx hy).1
  have dN := dv_rng fun x y hx hy => (hπ x y hx hy).2
  have key : ∀ r ∈ costs, ∀ s ∈ rngR fs.length ss.length π, r.length ≤ 12 ∧ ∀ x ∈ r, ∀ y ∈ s, Bd (M * N) (2 ^ (b + 48)) (x * y) := fun r hr s hs => ⟨by rw [(h1.2 r hr).1]; exact hs2, fun x hx y hy => ((Bd.of ((h1.2 r hr).2 x hx) ((hd.cr r hr).2 x hx).2.2 hd.m0).mul (Bd.of ((h2.2 s hs).2 y hy) (dN s hs y hy) hd.n0)).mono hB⟩
  have hb := dots_bd key 12
  rw [List.take_of_length_le (by rw [hd.cl]; exact hf2), List.take_of_length_le (by rw [h2.1]; exact hf2)] at hb
  exact hb.bq (by rw [← Nat.mul_assoc]; exact e144 _ (by decide)) hDb (by omega)
end Far
namespace Far
open PySem PySem.Spec PyProof.Rows L2 Pw
open FM (Bq)
theorem cq_get {as : List (List Rat)} {x y : Nat} {r : List Rat} {q : Rat} (h : as[x]? = some r) (k : r[y]? = some q) : cq as x y = q := by
  unfold cq
  rw [List.getD_eq_getElem?_getD (l := as), h]
  show r.getD y 0 = q
  rw [List.getD_eq_getElem?_getD, k]
  rfl
end Far
namespace Far
open PySem PySem.Spec PyProof.Rows L2 Pw
open FM (Bq)
structure Heap (S : Nat) (fs : List Rat) : Prop where
  l1 : 1 ≤ fs.length
  l2 : fs.length ≤ 12
  q : ∀ q ∈ fs, 0 ≤ q ∧ Bq 16 q ∧ q.den ∣ S
  s : fs.sum = 1
  s0 : 0 < S
  s1 : S ≤ 200
def hpQ (ws : List Nat) : List Rat := ws.map fun (w : Nat) => Rat.divInt (w : Int) (ws.sum : Int)
theorem sum_di (S : Nat) : ∀ ws : List Nat, (ws.map fun (w : Nat) => Rat.divInt (w : Int) (S : Int)).sum = (S : Rat)⁻¹ * ((ws.sum : Nat) : Rat) := by
  intro ws
  induction ws with
  | nil => simp
  | cons w ws ih =>
    rw [List.map_cons, List.sum_cons, ih, List.sum_cons, di, Rat.intCast_natCast, Rat.natCast_add, Rat.mul_add]
theorem heap_ok {ws : List Nat} (h0 : 0 < ws.sum) (h1 : ws.sum ≤ 200) (l1 : 1 ≤ ws.length) (l2 : ws.length ≤ 12) : Heap ws.sum (hpQ ws) := by
  refine ⟨by unfold hpQ; rw [List.length_map]; exact l1, by unfold hpQ; rw [List.length_map]; exact l2, fun q hq => ?_, ?_, h0, h1⟩
  · unfold hpQ at hq
    obtain ⟨w, hw, rfl⟩ := List.mem_map.1 hq
    have := le_sumH ws w hw
    refine ⟨?_, FM.bq_divInt (by omega) (by omega) (by decide), den_di _ h0⟩
    rw [di]
    refine Rat.mul_nonneg (inv_nn h0) ?_
    exact_mod_cast Nat.zero_le w
  · unfold hpQ
    rw [sum_di]
    exact Rat.inv_mul_cancel _ (natR_ne h0)
theorem hand_of {S S' : Nat} {fs ss : List Rat} {costs : List (List Rat)} {b M : Nat} (H1 : Heap S fs) (H2 : Heap S' ss) (hb : b ≤ 80) (m0 : 0 < M) (m1 : M < 2 ^ 16) (cl : costs.length = fs.length) (cr : ∀ r ∈ costs, r.length = ss.length ∧ ∀ q ∈ r, 0 ≤ q ∧ Bq b q ∧ q.den ∣ M) : Hand costs fs ss b (S * S') M := by
  have h1 := H1.s1
  have h2 := H2.s1
  have : S * S' ≤ 200 * 200 := Nat.mul_le_mul h1 h2
  exact ⟨by omega, by decide, by decide, by decide, H1.l1, H1.l2, H2.l1, H2.l2, fun q hq => ⟨(H1.q q hq).1, (H1.q q hq).2.1, Nat.dvd_trans (H1.q q hq).2.2 (Nat.dvd_mul_right _ _)⟩, fun q hq => ⟨(H2.q q hq).1, (H2.q q hq).2.1, Nat.dvd_trans (H2.q q hq).2.2 (Nat.dvd_mul_left _ _)⟩, H1.s, H2.s, cl, cr, Nat.mul_pos H1.s0 H2.s0, by omega, m0, m1⟩
end Far
namespace Far
open PySem PySem.Spec PyProof.Rows L2 Pw Cg
open FM (Bq)
theorem rng_get13 {n x : Nat} {f : Nat → Rat} (h : x < n) : (rng n f)[x]? = some (f x) := by
  unfold rng
  rw [List.getElem?_map, List.getElem?_range h]
  rfl
theorem rngR_get13 {n m x : Nat} {f : Nat → Nat → Rat} (h : x < n) : (rngR n m f)[x]? = some (rng m (f x)) := by
  unfold rngR
  rw [List.getElem?_map, List.getElem?_range h]
  rfl
theorem nth_pr13 {n x : Nat} {f : Nat → Rat} (h : x < n) : Pw.nth ((rng n f).map prD) x = prD (f x) := nth_of (by rw [List.getElem?_map, rng_get13 h]; rfl)
theorem nth_prR13 {n m x : Nat} {f : Nat → Nat → Rat} (h : x < n) : Pw.nth ((rngR n m f).map fun r => D.lst (r.map prD)) x = .lst ((rng m (f x)).map prD) := nth_of (by rw [List.getElem?_map, rngR_get13 h]; rfl)
theorem at_pr13 {n x : Nat} {f : Nat → Rat} (h : x < n) : atI ((rng n f).map prD) (x : Int) = some (prD (f x)) := at_n (by rw [List.getElem?_map, rng_get13 h]; rfl)
theorem fm_none13 (k : Nat) : (List.range k).filterMap (fun _ => (none : Option D)) = [] := by simp
theorem fm_row13 {m : Nat} {f : Nat → Rat} : (List.range m).filterMap (fun y => some (prD (f y))) = (rng m f).map prD := by
  rw [fm_mapH (fun y => prD (f y))]
  unfold rng
  rw [List.map_map]
  rfl
theorem sum_rng13 (n : Nat) (f : Nat → Rat) : (rng n f).sum = sm n f := rfl
theorem mem_rng13 {n : Nat} {f : Nat → Rat} {q : Rat} (h : q ∈ rng n f) : ∃ x, x < n ∧ q = f x := by
  unfold rng at h
  obtain ⟨x, hx, rfl⟩ := List.mem_map.1 h
  exact ⟨x, List.mem_range.1 hx, rfl⟩
def c_Lpairs13 (T : Cfg) : Ct := fun ds μ P _ => ∃ (n m : Nat) (t : Nat → Nat → Rat) (pl : Addr) (qs : List Addr), ds = [.ptr pl] ∧ Nest μ pl qs (rwL n m t) ∧ n ≤ 12 ∧ m ≤ 12 ∧ (∀ x y, x < n → y < m → Bq 9000 (t x y)) ∧ P (prR (rngR n m t)) μ
def c_LpairsT13 (T : Cfg) : Ct := fun ds μ P _ => ∃ (n m : Nat) (p q : Nat → Rat) (a b : Addr), ds = [.tup [.ptr a, .ptr b]] ∧ μ a = some (.lst ((rng n p).map shD)) ∧ μ b = some (.lst ((rng m q).map shD)) ∧ n ≤ 12 ∧ m ≤ 12 ∧ (∀ x, x < n → Bq 9000 (p x)) ∧ (∀ y, y < m → Bq 9000 (q y)) ∧ P (.lst [prL (rng n p), prL (rng m q)]) μ
def c_Lplan13 (T : Cfg) : PC := fun ds P _ => ∃ (n m : Nat) (f s : Nat → Rat) (π : Nat → Nat → Rat), ds = [prR (rngR n m π), prL (rng n f), prL (rng m s)] ∧ Plan n m f s π ∧ n ≤ 12 ∧ m ≤ 12 ∧ (∀ x y, x < n → y < m → Bq 20 (π x y)) ∧ P (.bl true)
def c_Lprices13 (T : Cfg) : PC := fun ds P _ => ∃ (n m : Nat) (c : Nat → Nat → Rat) (p q : Nat → Rat), ds = [.lst [prL (rng n p), prL (rng m q)], prR (rngR n m c)] ∧ Pric n m c p q ∧ 1 ≤ n ∧ n ≤ 12 ∧ m ≤ 12 ∧ (∀ x, x < n → Bq 60 (p x)) ∧ (∀ y, y < m → Bq 60 (q y)) ∧ (∀ x y, x < n → y < m → Bq 40 (c x y)) ∧ P (.bl true)
theorem len_Lpairs13 {T : Cfg} : ∀ ds μ P XP, c_Lpairs13 T ds μ P XP → ds.length = 1 := by
  rintro ds μ P XP ⟨n, m, t, pl, qs, rfl, _⟩; rfl
theorem len_LpairsT13 {T : Cfg} : ∀ ds μ P XP, c_LpairsT13 T ds μ P XP → ds.length = 1 := by
  rintro ds μ P XP ⟨n, m, p, q, a, b, rfl, _⟩; rfl
theorem len_Lplan13 {T : Cfg} : ∀ ds μ P XP, pu (c_Lplan13 T) ds μ P XP → ds.length = 3 := by
  rintro ds μ P XP ⟨rfl, Pf, Xf, ⟨n, m, f, s, π, rfl, _⟩, _⟩; rfl
theorem len_Lprices13 {T : Cfg} : ∀ ds μ P XP, pu (c_Lprices13 T) ds μ P XP → ds.length = 2 := by
  rintro ds μ P XP ⟨rfl, Pf, Xf, ⟨n, m, c, p, q, rfl, _⟩, _⟩; rfl
def t_Lpairs13 (T : Cfg) (E : XK) : TS := (tRet (tLc (iList T.K (tVar 0)) (gName 1) tYes (tLc (iList T.K (tVar 1)) (gName 2) tYes (tCall (spOf T (pu (c_Lpair T))) [] E0 (tCons (tVar 2) tNil)) [2]) [1]))
def t_LpairsT13 (T : Cfg) (E : XK) : TS := (tRet (tLc (iTup T.K (tVar 0)) (gName 1) tYes (tLc (iList T.K (tVar 1)) (gName 2) tYes (tCall (spOf T (pu (c_Lpair T))) [] E0 (tCons (tVar 2) tNil)) [2]) [1]))
def t_Lplan13 (T : Cfg) (E : XK) : TS := (tSeq (tIfS (tTest (tOp (rNeD T.K) (tLc (iList T.K (tVar 0)) (gName 3) (tOr (tTest (tOp rNe (tCB (Pw.rLen T.K) (tCons (tVar 3) tNil)) (tCB (Pw.rLen T.K) (tCons (tVar 2) tNil)))) (tTest (tOp (rNeD T.K) (tLc (iList T.K (tVar 3)) (gName 5) (tOr (tTest (tOp (rI0 fun i j => .bl (decide (i < j))) (tOp (rIxT T.K) (tVar 5) (tC (.int 0))) (tC (.int 0)))) (tTest (tOp (rI0 fun i j => .bl (decide (i < j))) (tOp (rIxT T.K) (tVar 5) (tC (.int 1))) (tC (.int 1))))) (tVar 5) [5]) (tLst tNil)))) (tVar 3) [3]) (tLst tNil))) (tRet (tC (.bl false))) tNext)
    (tSeq (tIfS (tTest (tOp (rNeD T.K) (tLc (iList T.K (tVar 0)) (gName 3) tYes (tCall (spOf T (pu (c_Ltotal T))) [] E0 (tCons (tVar 3) tNil)) [3]) (tVar 1))) (tRet (tC (.bl false))) tNext)
    (tRet (tOp (rEqD T.K) (tLc (iRng1 (tCons (tCB (Pw.rLen T.K) (tCons (tVar 2) tNil)) tNil)) (gName 4) tYes (tCall (spOf T (pu (c_Ltotal T))) [] E0 (tCons (tLc (iList T.K (tVar 0)) (gName 3) tYes (tOp (rIxL T.K) (tVar 3) (tVar 4)) [3]) tNil)) [4]) (tVar 2)))))
def t_Lprices13 (T : Cfg) (E : XK) : TS := (tSeq (tAsg (tVar 0) (gLst T.K 2 (gCons (gName 2) (gCons (gName 3) gNil))))
    (tSeq (tIfS (tOr (tTest (tOp rNe (tCB (Pw.rLen T.K) (tCons (tVar 2) tNil)) (tCB (Pw.rLen T.K) (tCons (tVar 1) tNil)))) (tOr (tTest (tOp rNe (tCB (Pw.rLen T.K) (tCons (tVar 3) tNil)) (tCB (Pw.rLen T.K) (tCons (tOp (rIxL T.K) (tVar 1) (tC (.int 0))) tNil)))) (tTest (tOp (rInD T.K false) (tTup (tCons (tC (.int 0)) (tCons (tC (.int 0)) tNil))) (tOp rCat (tVar 2) (tVar 3)))))) (tRet (tC (.bl false))) tNext)
    (tSeq (tFor (iZip T.K (tCons (tVar 1) (tCons (tVar 2) tNil))) (gTup T.K 2 (gCons (gName 4) (gCons (gName 5) gNil))) (tIfS (tTest (tOp (rNeD T.K) (tLc (iZip T.K (tCons (tVar 4) (tCons (tVar 3) tNil))) (gTup T.K 2 (gCons (gName 6) (gCons (gName 7) gNil))) (tB (tCall (spOf T (pu (c_Lbelow T))) [] E0 (tCons (tVar 6) (tCons (tCall (spOf T (pu (c_Lless T))) [] E0 (tCons (tVar 5) (tCons (tVar 7) tNil))) tNil)))) (tC (.int 1)) [6, 7]) (tLst tNil))) (tRet (tC (.bl false))) tNext))
    (tRet (tC (.bl true))))))
def unSh13 : D → D
  | .ins _ [(_, .int a), (_, .int b)] => prD (Rat.divInt a b)
  | d => d
theorem unSh13_sh (q : Rat) : unSh13 (shD q) = prD q := by
  show prD (Rat.divInt q.num (q.den : Int)) = _
  rw [Rat.num_divInt_den]
theorem un_row13 {m : Nat} {f : Nat → Rat} : (((rng m f).map shD).map unSh13) = (rng m f).map prD := by
  rw [List.map_map]
  exact List.map_congr_left fun q _ => unSh13_sh q
theorem row13 {T : Cfg} (hT : ShOk T) {ρ : List (Option D)} {μ : Mu} {P : D → Mu → Prop} {E : XK} {a : Addr} {m : Nat} {f : Nat → Rat} (hv : ρ[1]? = some (some (.ptr a))) (h2 : ∀ e : D, ((wipeD ρ [2]).set 2 (some e))[2]? = some (some e)) (ha : μ a = some (.lst ((rng m f).map shD))) (hm : m ≤ 12) (hb : ∀ y, y < m → Bq 9000 (f y)) (hP : P (prL (rng m f)) μ) :
    EV T (tLc (iList T.K (tVar 1)) (gName 2) tYes (tCall (spOf T (pu (c_Lpair T))) [] E0 (tCons (tVar 2) tNil)) [2]) (fun _ _ _ _ => False) ⟨ρ, μ⟩ P (fun _ _ => False) := by
  refine ev_lcOF (f := unSh13) hv ha (by rw [List.length_map, rng_len]; omega) (fun e he => ?_) ?_
  · obtain ⟨q, hq, rfl⟩ := List.mem_map.1 he
    obtain ⟨y, hy, rfl⟩ := mem_rng13 hq
    refine ev_cal0 ?_
    refine ea_cons (ev_var (h2 _) (ea_nil ?_))
    refine pair_i (hb y hy) ⟨(unSh13_sh _).symm, rfl⟩
  · rw [un_row13]
    exact hP
theorem pure_Lpairs13 {T : Cfg} (hT : ShOk T) : ∀ E ds μ P XP, c_Lpairs13 T ds μ P XP → SV T (t_Lpairs13 T E) (fun cls dd _ H => E cls dd H) ⟨slots 3 ds, μ⟩ (fnK P XP) := by
  rintro E ds μ P XP ⟨n, m, t, pl, qs, rfl, hn, n12, m12, hb, hP⟩
  unfold t_Lpairs13
  have hql : qs.length = n := by rw [hn.ln]; simp [rwL, rngR]
  refine sv_ret (ev_lcO (is := [1]) (I := fun k acc μ' => μ' = μ ∧ acc = ((rngR n m t).map fun r => D.lst (r.map prD)).take k) rfl hn.top (fun _ h => h) (by rw [List.length_map]; omega) ⟨rfl, by simp⟩ (fun k acc μ' h => by rw [h.1]; exact hn.top) (fun k acc μ' hk _ h => ?_) fun acc μ' h => ?_)
  · obtain ⟨rfl, rfl⟩ := h
    have hk : k < qs.length := by simpa using hk
    have hk1 : k < n := by omega
    rw [nth_of (d := D.ptr qs[k]) (by rw [List.getElem?_map, List.getElem?_eq_getElem hk]; rfl)]
    have hrow : μ' qs[k] = some (.lst ((rng m (t k)).map shD)) := hn.row k _ _ (List.getElem?_eq_getElem hk) (by
      unfold rwL
      rw [List.getElem?_map, rngR_get13 hk1]
      rfl)
    refine gv_name (tv_yes ⟨fun _ => ?_, fun h => nomatch h⟩)
    refine row13 (E := E) hT rfl (fun _ => rfl) hrow m12 (fun y hy => hb k y hk1 hy) ⟨rfl, ?_⟩
    rw [List.take_succ, List.getElem?_map, rngR_get13 hk1]
    rfl
  · obtain ⟨rfl, rfl⟩ := h
    rw [List.length_map, hql, List.take_of_length_le (by simp [rngR])]
    exact hP
theorem pure_LpairsT13 {T : Cfg} (hT : ShOk T) : ∀ E ds μ P XP, c_LpairsT13 T ds μ P XP → SV T (t_LpairsT13 T E) (fun cls dd _ H => E cls dd H) ⟨slots 3 ds, μ⟩ (fnK P XP) := by
  rintro E ds μ P XP ⟨n, m, p, q, a, b, rfl, ha, hb, n12, m12, kp, kq, hP⟩
  unfold t_LpairsT13
  refine sv_ret (ev_lcX (iv_tup (ev_var rfl ?_)))
  refine ⟨_, rfl, by simp, fun i => if i = 0 then some (prL (rng n p)) else some (prL (rng m q)), fun i hi => ?_, ?_⟩
  · have hi : i < 2 := hi
    refine tv_yes ⟨rfl, fun _ => ?_, fun h => nomatch h⟩
    rcases Nat.lt_or_ge i 1 with h | h
    · obtain rfl : i = 0 := by omega
      exact row13 (E := E) hT rfl (fun _ => rfl) ha n12 kp ⟨rfl, rfl⟩
    · obtain rfl : i = 1 := by omega
      exact row13 (E := E) hT rfl (fun _ => rfl) hb m12 kq ⟨rfl, rfl⟩
  · exact hP
theorem pure_Lplan13 {T : Cfg} (hT : ShOk T) : ∀ E ds μ P XP, pu (c_Lplan13 T) ds μ P XP → SV T (t_Lplan13 T E) (fun cls dd _ H => E cls dd H) ⟨slots 6 ds, μ⟩ (fnK P XP) := by
  rintro E ds μ P XP ⟨rfl, Pf, Xf, ⟨n, m, f, s, π, rfl, hp, n12, m12, hb, p⟩, hP, hX⟩
  unfold t_Lplan13
  walk_at "pks"
  refine ev_lcX (iv_list ?_)
  walk_at "pks"
  refine ⟨_, .inl rfl, by simp [rngR]; omega, fun _ => none, fun i hi => ?_, ?_⟩
  · have hi : i < n := by simpa [rngR] using hi
    rw [nth_prR13 hi]
    walk_at "pks"
    refine cv_len (.inl rfl) ?_
    walk_at "pks"
    refine cv_len (.inl rfl) ?_
    walk_at "pks"
    refine ⟨fun _ => ?_, fun h => ?_⟩
    rotate_left
    · simp [rng_len] at h
    walk_at "pks"
    refine ev_lcX (iv_list ?_)
    walk_at "pks"
    refine ⟨_, .inl rfl, by simp [rng_len]; omega, fun _ => none, fun j hj => ?_, ?_⟩
    · have hj : j < m := by simpa [rng_len] using hj
      rw [nth_pr13 hj]
      have h0 := hp.nn i j hi hj
      have h1 : ¬ (π i j).num < 0 := by
        have := Rat.num_nonneg.2 h0
        omega
      have h2 : ¬ ((π i j).den : Int) < 1 := by
        have := (π i j).den_pos
        omega
      unfold prD
      walk_at "pks"
      refine ⟨fun _ => ?_, fun h => absurd (of_decide_eq_true h) h1⟩
      walk_at "pks"
      refine ⟨rfl, fun h => absurd (of_decide_eq_true h) h2, fun _ => rfl⟩
    · rw [fm_none13]
      walk_at "pks"
      refine ov_neNil rfl (by simp) ?_
      exact ⟨_, rfl, rfl, fun h => (by simp at h), fun _ => rfl⟩
  rw [fm_none13]
  walk_at "pks"
  refine ov_neNil rfl (by simp) ⟨_, rfl, fun h => (by simp at h), fun _ => ?_⟩
  walk_at "pks"
  refine ev_lcX (iv_list ?_)
  walk_at "pks"
  refine ⟨_, .inl rfl, by simp [rngR]; omega, fun i => some (prD (f i)), fun i hi => ?_, ?_⟩
  · have hi : i < n := by simpa [rngR] using hi
    rw [nth_prR13 hi]
    refine tv_yes ⟨rfl, fun _ => ?_, fun h => nomatch h⟩
    walk_at "pks"
    refine total_i (n := 20) (fun q hq => ?_) (by rw [rng_len]; omega) ?_
    · obtain ⟨y, hy, rfl⟩ := mem_rng13 hq
      exact hb i y hi hy
    · rw [sum_rng13, hp.row i hi]
      exact ⟨rfl, rfl⟩
  have e1 : (List.range ((rngR n m π).map fun r => D.lst (r.map prD)).length).filterMap (fun i => some (prD (f i))) = (rng n f).map prD := by
    rw [show ((rngR n m π).map fun r => D.lst (r.map prD)).length = n by simp [rngR]]
    exact fm_row13
  rw [e1]
  walk_at "pks"
  refine ov_nePrs ?_
  refine ⟨_, rfl, fun h => (by simp at h), fun _ => ?_⟩
  walk_at "pks"
  refine ev_lcX (iv_rng1 ?_)
  walk_at "pks"
  refine cv_len (.inl rfl) ?_
  walk_at "pks"
  rw [List.length_map, rng_len]
  refine ⟨by omega, by omega, by omega, fun y => some (prD (s y)), fun y hy => ?_, ?_⟩
  · have hy : y < m := by omega
    have e0 : (0 : Int) + (y : Int) = (y : Int) := by omega
    dsimp only
    rw [e0]
    refine tv_yes ⟨rfl, fun _ => ?_, fun h => nomatch h⟩
    walk_at "pks"
    refine ev_lcX (iv_list ?_)
    walk_at "pks"
    refine ⟨_, .inl rfl, by simp [rngR]; omega, fun x => some (prD (π x y)), fun x hx => ?_, ?_⟩
    · have hx : x < n := by simpa [rngR] using hx
      rw [nth_prR13 hx]
      refine tv_yes ⟨rfl, fun _ => ?_, fun h => nomatch h⟩
      walk_at "pks"
      refine ov_ixL (.inl rfl) (at_pr13 hy) ⟨rfl, rfl⟩
    have e2 : (List.range ((rngR n m π).map fun r => D.lst (r.map prD)).length).filterMap (fun x => some (prD (π x y))) = (rng n fun x => π x y).map prD := by
      rw [show ((rngR n m π).map fun r => D.lst (r.map prD)).length = n by simp [rngR]]
      exact fm_row13
    rw [e2]
    walk_at "pks"
    refine total_i (n := 20) (fun q hq => ?_) (by rw [rng_len]; omega) ?_
    · obtain ⟨x, hx, rfl⟩ := mem_rng13 hq
      exact hb x y hx hy
    · rw [sum_rng13, hp.col y hy]
      exact ⟨rfl, rfl⟩
  have en : ((m : Nat) : Int).toNat = m := by omega
  rw [en, fm_row13]
  walk_at "pks"
  refine ov_eqPrs ?_
  rw [decide_eq_true rfl]
  walk_at "pks"
  exact hP _ p
theorem pure_Lprices13 {T : Cfg} (hT : ShOk T) : ∀ E ds μ P XP, pu (c_Lprices13 T) ds μ P XP → SV T (t_Lprices13 T E) (fun cls dd _ H => E cls dd H) ⟨slots 8 ds, μ⟩ (fnK P XP) := by
  rintro E ds μ P XP ⟨rfl, Pf, Xf, ⟨n, m, c, p, q, rfl, hp, n1, n12, m12, kp, kq, kc, k⟩, hP, hX⟩
  unfold t_Lprices13
  refine sv_seq (sv_asgG (is := [2] ++ ([3] ++ [])) (ev_var rfl ?_))
  refine gv_lst (.inl rfl) rfl (gvs_cons (gv_name (gvs_cons (gv_name (gvs_nil ?_)))))
  walk_at "pks"
  refine cv_len (.inl rfl) ?_
  walk_at "pks"
  refine cv_len (.inl rfl) ?_
  walk_at "pks"
  refine ⟨fun _ => ?_, fun h => ?_⟩
  rotate_left
  · simp [rng_len, rngR] at h
  walk_at "pks"
  refine cv_len (.inl rfl) ?_
  walk_at "pks"
  refine ov_ixL (.inl rfl) (at_n (k := 0) (a := prL (rng m (c 0))) (by rw [List.getElem?_map, rngR_get13 (by omega)]; rfl)) ?_
  walk_at "pks"
  refine cv_len (.inl rfl) ?_
  walk_at "pks"
  refine ⟨fun _ => ?_, fun h => ?_⟩
  rotate_left
  · simp [rng_len] at h
  walk_at "pks"
  refine ov_cat (by rw [List.length_map, List.length_map, rng_len, rng_len]; omega) ?_
  rw [← List.map_append]
  refine ov_in00 ?_
  refine ⟨_, rfl, fun h => (by cases h), fun _ => ?_⟩
  walk_at "pks"
  refine sv_forX2 (X := Unit) (fun _ _ => [none, some (prR (rngR n m c)), some (prL (rng n p)), some (prL (rng m q)), none, none, none, none]) (fun _ _ μ => μ = mu0) (iv_zip ?_)
  walk_at "pks"
  refine ⟨_, _, _, _, rfl, .inl rfl, .inl rfl, (), by walk_at "le", rfl, fun x _ μ hx hJ => ?_, fun s' _ hr hJ => ?_⟩
  · have hx : x < n := by simpa [rngR, rng_len] using hx
    subst hJ
    refine ⟨prL (rng m (c x)), prD (p x), ?_, ?_⟩
    · show D.tup [_, _] = _
      rw [nth_prR13 hx, nth_pr13 hx]
    walk_at "pks"
    refine ev_lcX2 (iv_zip ?_)
    walk_at "pks"
    refine ⟨_, _, _, _, rfl, .inl rfl, .inl rfl, by rw [List.length_map, List.length_map, rng_len, rng_len]; omega, fun _ => none, fun y hy => ?_, ?_⟩
    · have hy : y < m := by simpa [rng_len] using hy
      refine ⟨prD (c x y), prD (q y), ?_, ?_⟩
      · show D.tup [_, _] = _
        rw [nth_pr13 hy, nth_pr13 hy]
      walk_at "pks"
      refine less_p (kp x hx) (kq y hy) (by decide) ?_
      walk_at "pks"
      have hpq := hp x y hx hy
      refine below_i (kc x y hx hy) ((kp x hx).sub (kq y hy)) (by decide) ?_
      refine ⟨_, rfl, rfl, fun h => ?_, fun _ => rfl⟩
      have := of_decide_eq_true h
      grind
    rw [fm_none13]
    walk_at "pks"
    refine ov_neNil rfl (by simp) ⟨_, rfl, fun h => (by simp at h), fun _ => ?_⟩
    walk_at "pks"
    exact ⟨(), by walk_at "le", rfl⟩
  · obtain ⟨ρ, μ⟩ := s'
    obtain rfl : μ = _ := hJ
    refine seqK_nx (sv_wkR (s := ⟨ρ, _⟩) hr ?_)
    walk_at "pks"
    exact hP _ k
end Far
namespace Far
open PySem PySem.Spec PyProof.Rows L2 Pw
open FM (Bq)
end Far
namespace Far
open PySem PySem.Spec PyProof.Rows L2 Pw
open FM (Bq)
section
variable {n m : Nat} {c : Nat → Nat → Rat} {f s : Nat → Rat} {π π' : Nat → Nat → Rat} {p q : Nat → Rat}
end
end Far
namespace Far
open PySem PySem.Spec PyProof.Rows L2 Pw
open FM (Bq)
def c_LcostG (T : Cfg) : PC := fun ds P _ => ∃ (rs ss : List (List Rat)) (n m : Nat), ds = [prR rs, prR ss] ∧ Rows n m 32 rs ∧ Rows n m 20 ss ∧ n ≤ 12 ∧ m ≤ 12 ∧ P (prD (dots rs ss))
theorem len_LcostG {T : Cfg} : ∀ ds μ P XP, pu (c_LcostG T) ds μ P XP → ds.length = 2 := by
  rintro ds μ P XP ⟨rfl, Pf, Xf, ⟨p, q, n, m, rfl, _⟩, _⟩; rfl
def t_LcostG (T : Cfg) (E : XK) : TS := (tSeq (tAsg (tTup (tCons (tC (.int 0)) (tCons (tC (.int 1)) tNil))) (gName 2))
    (tSeq (tFor (iZip T.K (tCons (tVar 0) (tCons (tVar 1) tNil))) (gTup T.K 2 (gCons (gName 3) (gCons (gName 4) gNil))) (tAsg (tCall (spOf T (pu (c_Ladded T))) [] E0 (tCons (tVar 2) (tCons (tCall (spOf T (pu (c_Ltotal T))) [] E0 (tCons (tLc (iZip T.K (tCons (tVar 3) (tCons (tVar 4) tNil))) (gTup T.K 2 (gCons (gName 5) (gCons (gName 6) gNil))) tYes (tCall (spOf T (pu (c_Lby T))) [] E0 (tCons (tVar 5) (tCons (tVar 6) tNil))) [5, 6]) tNil)) tNil))) (gName 2)))
    (tRet (tVar 2))))
theorem pure_LcostG {T : Cfg} (hT : ShOk T) : ∀ E ds μ P XP, pu (c_LcostG T) ds μ P XP → SV T (t_LcostG T E) (fun cls dd _ H => E cls dd H) ⟨slots 7 ds, μ⟩ (fnK P XP) := by
  rintro E ds μ P XP ⟨rfl, Pf, Xf, ⟨rs, ss, n, m, rfl, h1, h2, hn, hm, p⟩, hP, hX⟩
  unfold t_LcostG
  walk_at "pks"
  refine sv_forZ ?_
  walk_at "pks"
  refine ⟨_, _, _, _, fun k => [some (prR rs), some (prR ss), some (prD (dots (rs.take k) (ss.take k))), none, none, none, none], fun _ μ => μ = mu0, rfl, .inl rfl, .inl rfl, ?_, rfl, fun k x y μ' hx hy em => ?_, fun s' hs em => ?_⟩
  · exact ⟨rfl, rfl, rfl, trivial⟩
  · subst em
    obtain ⟨r, hr, rfl⟩ := row_getH hx
    obtain ⟨s, hs, rfl⟩ := row_getH hy
    have r1 := h1.2 _ (List.mem_of_getElem? hr)
    have r2 := h2.2 _ (List.mem_of_getElem? hs)
    have hk : k < 12 := by
      have := (List.getElem?_eq_some_iff.mp hr).1
      have := h1.1
      omega
    walk_at "pks"
    refine ev_zipP ?_
    walk_at "pks"
    refine ⟨r, s, fun x y => prD (x * y), rfl, by omega, fun x y hx hy => ?_, ?_⟩
    · walk_at "pks"
      exact by_i (r1.2 _ hx) (r2.2 _ hy) (by decide) ⟨rfl, rfl⟩
    walk_at "pks"
    refine total_dot (k := 12) r1.2 r2.2 (by omega) (by decide) ?_
    walk_at "pks"
    refine added_i ((dots_bq h1 h2 hm k (by omega)).mono (m := 12 * (12 * (32 + 20 + 2) + 2) + 1) ?_) (dot_bq (k := 12) r1.2 r2.2 (by omega)) (by decide) ?_
    · have := Nat.mul_le_mul_right (12 * (32 + 20 + 2) + 2) (show k ≤ 12 by omega)
      omega
    rw [← dots_take hr hs]
    walk_at "pks"
    refine ⟨?_, rfl⟩
    exact ⟨rfl, rfl, rfl, trivial⟩
  · refine seqK_res hs ?_
    dsimp only
    have e : dots (rs.take (min (rs.map fun r => D.lst (r.map prD)).length (ss.map fun r => D.lst (r.map prD)).length)) (ss.take (min (rs.map fun r => D.lst (r.map prD)).length (ss.map fun r => D.lst (r.map prD)).length)) = dots rs ss := by
      rw [List.length_map, List.length_map, h1.1, h2.1, Nat.min_self, List.take_of_length_le (by rw [h1.1]; exact Nat.le_refl _), List.take_of_length_le (by rw [h2.1]; exact Nat.le_refl _)]
    rw [e]
    walk_at "pks"
    exact hP _ p
end Far
namespace Far
open PySem PySem.Spec PyProof.Rows L2 Pw Cg
open FM (Bq)
def c_Lright13 (T : Cfg) : PC := fun ds P _ => ∃ (costs : List (List Rat)) (fs ss : List Rat) (b N M : Nat), ds = [prR costs, prL fs, prL ss] ∧ Hand costs fs ss b N M ∧ b ≤ 32 ∧
  ∀ (π : Nat → Nat → Rat) (p q : Nat → Rat), Opt fs.length ss.length (cq costs) (fun x => fs.getD x 0) (fun y => ss.getD y 0) π p q → P (prD (cost fs.length ss.length (cq costs) π))
theorem len_Lright13 {T : Cfg} : ∀ ds μ P XP, pu (c_Lright13 T) ds μ P XP → ds.length = 3 := by
  rintro ds μ P XP ⟨rfl, Pf, Xf, ⟨c, f, s, b, N, M, rfl, _⟩, _⟩; rfl
def t_Lright13 (T : Cfg) (E : XK) : TS := (tSeq (tAsg (tTup (tCons (tCall (spOf T (pu (c_LrowsS T))) [] E0 (tCons (tVar 0) tNil)) (tCons (tCall (spOf T (pu (c_Lshares T))) [] E0 (tCons (tVar 1) tNil)) (tCons (tCall (spOf T (pu (c_Lshares T))) [] E0 (tCons (tVar 2) tNil)) tNil)))) (gName 3))
    (tSeq (tAsg (tCall (spOf T (c_cheapestN T)) [] E0 (tCons (tOp (rIxT T.K) (tVar 3) (tC (.int 0))) (tCons (tOp (rIxT T.K) (tVar 3) (tC (.int 1))) (tCons (tOp (rIxT T.K) (tVar 3) (tC (.int 2))) tNil)))) (gName 4))
    (tSeq (tIfS (tOr (tNot (tB (tCB (rIsi T.K) (tCons (tVar 4) (tCons (tC (.ty "tuple")) tNil))))) (tTest (tOp rNe (tCB (Pw.rLen T.K) (tCons (tVar 4) tNil)) (tC (.int 3))))) (tRet (tC .non)) tNext)
    (tSeq (tIfS (tTest (tOp (rNeG (DTup T.K (DOr (DList (DList (DSh T))) (DList (DSh T))))) (tVar 3) (tTup (tCons (tCall (spOf T (pu (c_LrowsS T))) [] E0 (tCons (tVar 0) tNil)) (tCons (tCall (spOf T (pu (c_Lshares T))) [] E0 (tCons (tVar 1) tNil)) (tCons (tCall (spOf T (pu (c_Lshares T))) [] E0 (tCons (tVar 2) tNil)) tNil)))))) (tRet (tC .non)) tNext)
    (tSeq (tAsg (tVar 4) (gTup T.K 3 (gCons (gName 7) (gCons (gName 8) (gCons (gName 9) gNil)))))
    (tSeq (tIfS (tOr (tNot (tB (tCall (spOf T (pu (c_is_plan T))) [] E0 (tCons (tVar 8) (tCons (tOp (rIxT T.K) (tVar 3) (tC (.int 1))) (tCons (tOp (rIxT T.K) (tVar 3) (tC (.int 2))) tNil)))))) (tNot (tB (tCall (spOf T (pu (c_are_prices T))) [] E0 (tCons (tVar 9) (tCons (tOp (rIxT T.K) (tVar 3) (tC (.int 0))) tNil)))))) (tRet (tC .non)) tNext)
    (tSeq (tPar 10 11 (tCons (tCall (spOf T (c_Lpairs13 T)) [] E0 (tCons (tVar 8) tNil)) (tCons (tCall (spOf T (c_LpairsT13 T)) [] E0 (tCons (tVar 9) tNil)) tNil)))
    (tSeq (tIfS (tOr (tNot (tB (tCall (spOf T (pu (c_Lplan13 T))) [] E0 (tCons (tVar 10) (tCons (tVar 1) (tCons (tVar 2) tNil)))))) (tNot (tB (tCall (spOf T (pu (c_Lprices13 T))) [] E0 (tCons (tVar 11) (tCons (tVar 0) tNil)))))) (tRet (tC .non)) tNext)
    (tSeq (tAsg (tCall (spOf T (pu (c_Ltotal T))) [] E0 (tCons (tLc (iZip T.K (tCons (tOp (rIxL T.K) (tVar 11) (tC (.int 0))) (tCons (tVar 1) tNil))) (gTup T.K 2 (gCons (gName 12) (gCons (gName 13) gNil))) tYes (tCall (spOf T (pu (c_Lby T))) [] E0 (tCons (tVar 12) (tCons (tVar 13) tNil))) [12, 13]) tNil)) (gName 5))
    (tSeq (tAsg (tCall (spOf T (pu (c_Ltotal T))) [] E0 (tCons (tLc (iZip T.K (tCons (tOp (rIxL T.K) (tVar 11) (tC (.int 1))) (tCons (tVar 2) tNil))) (gTup T.K 2 (gCons (gName 12) (gCons (gName 13) gNil))) tYes (tCall (spOf T (pu (c_Lby T))) [] E0 (tCons (tVar 12) (tCons (tVar 13) tNil))) [12, 13]) tNil)) (gName 6))
    (tSeq (tIfS (tNot (tTest (tChain (rEqD T.K) (rEqD T.K) (tCall (spOf T (pu (c_Lpair T))) [] E0 (tCons (tVar 7) tNil)) (tCall (spOf T (pu (c_LcostG T))) [] E0 (tCons (tVar 0) (tCons (tVar 10) tNil))) (tCall (spOf T (pu (c_Lless T))) [] E0 (tCons (tVar 5) (tCons (tVar 6) tNil)))))) (tRet (tC .non)) tNext)
    (tSeq (tIfS (tOr (tTest (tOp (rOwnNe T.K (T.cls 0) (spOf T (pu (c_Share___eq__ T))) E0) (tCall (spOf T (pu (c_costW T))) [] E0 (tCons (tOp (rIxT T.K) (tVar 3) (tC (.int 0))) (tCons (tVar 8) tNil))) (tVar 7))) (tTest (tOp (rOwnNe T.K (T.cls 0) (spOf T (pu (c_Share___eq__ T))) E0) (tCall (spOf T (pu (c_brought T))) [] E0 (tCons (tVar 9) (tCons (tOp (rIxT T.K) (tVar 3) (tC (.int 1))) (tCons (tOp (rIxT T.K) (tVar 3) (tC (.int 2))) tNil)))) (tVar 7)))) (tRet (tC .non)) tNext)
    (tSeq (tDrop (tBM0 T.K "list" rClear (tOp (rIxL T.K) (tVar 8) (tC (.int 0)))))
    (tSeq (tDrop (tBM T.K "list" rAppend (tOp (rIxT T.K) (tVar 9) (tC (.int 1))) (tCons (tC .non) tNil)))
    (tRet (tCall (spOf T (pu (c_Lpair T))) [] E0 (tCons (tVar 7) tNil)))))))))))))))))
theorem mrg_mu0 {ν : Mu} : mrg mu0 mu0 ν = ν := by
  funext c
  cases h : ν c with
  | none => rw [mrg_old h]
  | some m => exact mrg_new h
def odR (n m : Nat) (π : Nat → Nat → Rat) : List (List Od) := (rngR n m π).map fun r => r.map Od.pr
theorem odS_row (qs : List Rat) : ((qs.map Od.pr).map odS) = qs.map shD := by
  rw [List.map_map]
  rfl
theorem odR_S (n m : Nat) (π : Nat → Nat → Rat) : plS (odR n m π) = shR (rngR n m π) := by
  unfold odR
  show D.lst (((rngR n m π).map fun r => r.map Od.pr).map fun r => D.lst (r.map odS)) = _
  rw [List.map_map]
  exact congrArg D.lst (List.map_congr_left fun r _ => congrArg D.lst (odS_row r))
theorem rwL_R (n m : Nat) (π : Nat → Nat → Rat) : D.lst ((rwL n m π).map D.lst) = shR (rngR n m π) := by
  unfold rwL shR
  rw [List.map_map]
  rfl
theorem val_pr13 (qs : List Rat) : (qs.map Od.pr).map Od.val = qs := by
  rw [List.map_map]
  exact (List.map_congr_left fun q _ => rfl).trans (List.map_id _)
theorem odR_mem {n m : Nat} {π : Nat → Nat → Rat} {r : List Od} (h : r ∈ odR n m π) : ∃ x, x < n ∧ r = (rng m (π x)).map Od.pr := by
  unfold odR rngR at h
  rw [List.map_map] at h
  obtain ⟨x, hx, rfl⟩ := List.mem_map.1 h
  exact ⟨x, List.mem_range.1 hx, rfl⟩
theorem odR_get {n m k : Nat} {π : Nat → Nat → Rat} {r : List Od} (h : (odR n m π)[k]? = some r) : k < n ∧ r = (rng m (π k)).map Od.pr := by
  have hk : k < (odR n m π).length := (List.getElem?_eq_some_iff.1 h).1
  have hk : k < n := by simpa [odR, rngR] using hk
  unfold odR at h
  rw [List.getElem?_map, rngR_get13 hk] at h
  cases h
  exact ⟨hk, rfl⟩
theorem getD_g {l : List Rat} {k : Nat} {q : Rat} (h : l[k]? = some q) : l.getD k 0 = q := by
  rw [List.getD_eq_getElem?_getD, h]
  rfl
theorem plan_ok13 {fs ss : List Rat} {π : Nat → Nat → Rat} (h : Plan fs.length ss.length (fun x => fs.getD x 0) (fun y => ss.getD y 0) π) : OkP (odR fs.length ss.length π) fs ss := by
  refine ⟨by simp [odR, rngR], fun r hr => ?_, fun k r f hr hf => ?_, fun j s hs => ?_⟩
  · obtain ⟨x, hx, rfl⟩ := odR_mem hr
    refine ⟨by rw [List.length_map, rng_len], fun o ho => ?_⟩
    obtain ⟨q, hq, rfl⟩ := List.mem_map.1 ho
    obtain ⟨y, hy, rfl⟩ := mem_rng13 hq
    exact ⟨rfl, h.nn x y hx hy⟩
  · obtain ⟨hk, rfl⟩ := odR_get hr
    rw [val_pr13, sum_rng13, h.row k hk]
    exact getD_g hf
  · have hj : j < ss.length := (List.getElem?_eq_some_iff.1 hs).1
    have e : ((odR fs.length ss.length π).map fun r => (r.getD j .zero).val) = rng fs.length fun x => π x j := by
      unfold odR rngR rng
      rw [List.map_map, List.map_map]
      refine List.map_congr_left fun x _ => ?_
      show Od.val ((((List.range ss.length).map (π x)).map Od.pr).getD j .zero) = _
      rw [List.getD_eq_getElem?_getD, List.getElem?_map, List.getElem?_map, List.getElem?_range hj]
      rfl
    rw [e, sum_rng13, h.col j hj]
    exact getD_g hs
theorem prices_ok13 {costs : List (List Rat)} {n m : Nat} {p q : Nat → Rat} (cl : costs.length = n) (n1 : 1 ≤ n) (cr : ∀ r ∈ costs, r.length = m) (h : Pric n m (cq costs) p q) : OkO costs ((rng n p).map Od.pr) ((rng m q).map Od.pr) := by
  refine ⟨by rw [List.length_map, rng_len, cl], ?_, fun o ho => ?_, fun o ho => ?_, fun k row u hr hu j c t hc ht => ?_⟩
  · cases costs with
    | nil => simp at cl; omega
    | cons r rs =>
      rw [List.length_map, rng_len]
      exact (cr r (by simp)).symm
  · obtain ⟨q, _, rfl⟩ := List.mem_map.1 ho; rfl
  · obtain ⟨q, _, rfl⟩ := List.mem_map.1 ho; rfl
  · have hk : k < n := by rw [← cl]; exact (List.getElem?_eq_some_iff.1 hr).1
    have hj : j < m := by rw [← cr row (List.mem_of_getElem? hr)]; exact (List.getElem?_eq_some_iff.1 hc).1
    rw [List.getElem?_map, rng_get13 hk] at hu
    rw [List.getElem?_map, rng_get13 hj] at ht
    cases hu
    cases ht
    have e : cq costs k j = c := cq_get hr hc
    have := h k j hk hj
    grind
theorem Told.prs {ν : Mu} {n m : Nat} {π : Nat → Nat → Rat} {p q : Nat → Rat} {pl : Addr} {qs : List Addr} {a b : Addr} (h : Told ν n m π p q pl qs a b) : Stl ν (.tup [.ptr a, .ptr b]) (.tup [shL (rng n p), shL (rng m q)]) := Stl.two (.own h.fa) (.own h.fb)
theorem pure_Lright13 {T : Cfg} (hT : CaOk T) : ∀ E ds μ P XP, pu (c_Lright13 T) ds μ P XP → SV T (t_Lright13 T E) (fun cls dd _ H => E cls dd H) ⟨slots 14 ds, μ⟩ (fnK P XP) := by
  rintro E ds μ P XP ⟨rfl, Pf, Xf, ⟨costs, fs, ss, b, N, M, rfl, hd, hb, k⟩, hP, hX⟩
  have hS := hT.sh
  have hf2 := hd.f2
  have hs2 := hd.s2
  have hf1 := hd.f1
  have b1 : costs.length ≤ 1000 := by rw [hd.cl]; omega
  have b2 : ∀ r ∈ costs, r.length ≤ 1000 ∧ ∀ q ∈ r, Bq 9000 q := fun r hr => ⟨by rw [(hd.cr r hr).1]; omega, fun q hq => ((hd.cr r hr).2 q hq).2.1.mono (by omega)⟩
  have b3 : ∀ q ∈ fs, Bq 9000 q := fun q hq => (hd.fq q hq).2.1.mono (by omega)
  have b4 : ∀ q ∈ ss, Bq 9000 q := fun q hq => (hd.sq q hq).2.1.mono (by omega)
  unfold t_Lright13
  walk_at "pks"
  refine ⟨costs, rfl, b1, b2, ?_⟩
  walk_at "pks"
  refine ⟨fs, rfl, by omega, b3, ?_⟩
  walk_at "pks"
  refine ⟨ss, rfl, by omega, b4, ?_⟩
  walk_at "pks"
  refine ev_calNw ?_
  walk_at "pks"
  refine ⟨rfl, costs, fs, ss, b, 16, 16, N, M, rfl, hd, fun π p q ho hπ hp hq pl qs a b' ν told _ => ?_⟩
  rw [mrg_mu0]
  walk_at "pks"
  refine isi_tp ?_
  walk_at "pks"
  refine cv_lenT ?_
  walk_at "pks"
  refine ⟨fun h => (by simp at h), fun _ => ?_⟩
  walk_at "pks"
  refine ⟨costs, rfl, b1, b2, ?_⟩
  walk_at "pks"
  refine ⟨fs, rfl, by omega, b3, ?_⟩
  walk_at "pks"
  refine ⟨ss, rfl, by omega, b4, ?_⟩
  walk_at "pks"
  refine ov_neHand ⟨_, rfl, fun h => (by cases h), fun _ => ?_⟩
  refine sv_next (seqK_nx (sv_seq ?_))
  refine sv_asgG (is := [7] ++ ([8] ++ ([9] ++ []))) (ev_var rfl ?_)
  refine gv_tup rfl (gvs_cons (gv_name (gvs_cons (gv_name (gvs_cons (gv_name (gvs_nil ?_)))))))
  have ok1 := plan_ok13 ho.plan
  have ok2 := prices_ok13 hd.cl hf1 (fun r hr => (hd.cr r hr).1) (p := p) (q := q) ho.le
  have st1 : StlL ν [D.ptr pl, shL fs, shL ss] [plS (odR fs.length ss.length π), shL fs, shL ss] := by
    rw [odR_S, ← rwL_R]
    exact StlL.cons told.nest.stl (StlL.cons (.refl _) (StlL.cons (.refl _) .nil))
  refine seqK_nx (sv_seq (sv_if (tv_or (tv_not (tv_B (ev_calLp ?_))))))
  walk_at "pks"
  refine ⟨told.lists, _, st1, _, fs, ss, _, rfl, hf2, hs2, .od _ ⟨by simp [odR, rngR]; omega, fun r hr => ?_⟩, fun z hz => ?_⟩
  · obtain ⟨x, hx, rfl⟩ := odR_mem hr
    refine ⟨by rw [List.length_map, rng_len]; omega, fun o ho' => ?_⟩
    obtain ⟨v, hv, rfl⟩ := List.mem_map.1 ho'
    obtain ⟨y, hy, rfl⟩ := mem_rng13 hv
    exact (hπ x y hx hy).1.mono (by decide)
  obtain rfl : z = true := hz.2 ok1
  refine ⟨nol_bl _, ?_⟩
  refine ⟨_, rfl, fun _ => ?_, fun h => (by cases h)⟩
  have st2 : StlL ν [D.tup [.ptr a, .ptr b'], shR costs] [.tup [.lst (((rng fs.length p).map Od.pr).map odS), .lst (((rng ss.length q).map Od.pr).map odS)], shR costs] := by
    rw [odS_row, odS_row]
    exact StlL.cons told.prs (StlL.cons (.refl _) .nil)
  have rw1 : Rows costs.length ss.length 40 costs := ⟨rfl, fun r hr => ⟨(hd.cr r hr).1, fun q hq => ((hd.cr r hr).2 q hq).2.1.mono (by omega)⟩⟩
  have kp : ∀ x, x < fs.length → Bq 54 (p x) := fun x hx => (hp x hx).mono (by omega)
  have kq : ∀ y, y < ss.length → Bq 54 (q y) := fun y hy => (hq y hy).mono (by omega)
  have bqs : ∀ {n : Nat} {f : Nat → Rat}, (∀ x, x < n → Bq 54 (f x)) → ∀ o ∈ (rng n f).map Od.pr, o.bq 100 := fun {n f} h o ho => by
    obtain ⟨v, hv, rfl⟩ := List.mem_map.1 ho
    obtain ⟨y, hy, rfl⟩ := mem_rng13 hv
    exact (h y hy).mono (by decide)
  refine tv_not (tv_B (ev_calLp ?_))
  walk_at "pks"
  refine ⟨told.lists, _, st2, _, costs, _, ss.length, rfl, rw1, fun e => by rw [e] at hd; have := hd.cl; simp at this; omega, by rw [hd.cl]; omega, by omega, .od _ _ (bqs kp) (bqs kq) (by simp [rng_len]; omega) (by simp [rng_len]; omega), fun z hz => ?_⟩
  obtain rfl : z = true := hz.2 ok2
  refine ⟨nol_bl _, ?_⟩
  refine ⟨_, rfl, fun h => (by cases h), fun _ => ?_⟩
  refine sv_next (seqK_nx (sv_seq (sv_par (ea_cons (ev_calT (ea_cons (ev_var rfl (ea_nil ?_))))))))
  refine ⟨_, _, π, pl, qs, rfl, told.nest, hf2, hs2, fun x y hx hy => (hπ x y hx hy).1.mono (by decide), rfl, ?_⟩
  refine ea_cons (ev_calT (ea_cons (ev_var rfl (ea_nil ?_))))
  refine ⟨_, _, p, q, a, b', rfl, told.fa, told.fb, hf2, hs2, fun x hx => (kp x hx).mono (by decide), fun x hx => (kq x hx).mono (by decide), rfl, ?_⟩
  refine ea_nil ⟨_, _, rfl, ?_⟩
  walk_at "pks"
  refine ⟨fs.length, ss.length, _, _, π, by rw [rng_self, rng_self], ho.plan, hf2, hs2, fun x y hx hy => (hπ x y hx hy).1.mono (by decide), ?_⟩
  walk_at "pks"
  have ec : rngR fs.length ss.length (cq costs) = costs := rngR_self hd.cl fun r hr => (hd.cr r hr).1
  have c32 : ∀ x y, x < fs.length → y < ss.length → Bq 32 (cq costs x y) := fun x y hx hy => by
    have m1 := List.mem_of_getElem? (rngR_get13 (n := fs.length) (m := ss.length) (f := cq costs) hx)
    rw [ec] at m1
    exact ((hd.cr _ m1).2 _ (List.mem_of_getElem? (rng_get13 hy))).2.1.mono (by omega)
  refine ⟨fs.length, ss.length, cq costs, p, q, by rw [ec], ho.le, hf1, hf2, hs2, fun x hx => (kp x hx).mono (by decide), fun y hy => (kq y hy).mono (by decide), fun x y hx hy => (c32 x y hx hy).mono (by decide), ?_⟩
  walk_at "pks"
  have mp : ∀ v ∈ rng fs.length p, Bq 54 v := fun v hv => by obtain ⟨x, hx, rfl⟩ := mem_rng13 hv; exact kp x hx
  have mq : ∀ v ∈ rng ss.length q, Bq 54 v := fun v hv => by obtain ⟨x, hx, rfl⟩ := mem_rng13 hv; exact kq x hx
  have mf : ∀ v ∈ fs, Bq 16 v := fun v hv => (hd.fq v hv).2.1
  have ms : ∀ v ∈ ss, Bq 16 v := fun v hv => (hd.sq v hv).2.1
  refine ev_zipP ?_
  walk_at "pks"
  refine ov_ixL (.inl rfl) (e := prL (rng fs.length p)) rfl ?_
  walk_at "pks"
  refine ⟨rng fs.length p, fs, fun x y => prD (x * y), rfl, by rw [rng_len]; omega, fun x y hx hy => ?_, ?_⟩
  · walk_at "pks"
    exact by_i (mp _ hx) (mf _ hy) (by decide) ⟨rfl, rfl⟩
  walk_at "pks"
  refine total_dot (k := 12) mp mf (by rw [rng_len]; exact hf2) (by decide) ?_
  walk_at "pks"
  refine ev_zipP ?_
  walk_at "pks"
  refine ov_ixL (.inl rfl) (e := prL (rng ss.length q)) rfl ?_
  walk_at "pks"
  refine ⟨rng ss.length q, ss, fun x y => prD (x * y), rfl, by rw [rng_len]; omega, fun x y hx hy => ?_, ?_⟩
  · walk_at "pks"
    exact by_i (mq _ hx) (ms _ hy) (by decide) ⟨rfl, rfl⟩
  walk_at "pks"
  refine total_dot (k := 12) mq ms (by rw [rng_len]; exact hs2) (by decide) ?_
  walk_at "pks"
  have eco := hd.dots π
  have cb := hd.cost_bq hπ
  have rC : Rows fs.length ss.length 32 costs := ⟨hd.cl, fun r hr => ⟨(hd.cr r hr).1, fun v hv => ((hd.cr r hr).2 v hv).2.1.mono (by omega)⟩⟩
  have rP : Rows fs.length ss.length 16 (rngR fs.length ss.length π) := rows_rng fun x y hx hy => (hπ x y hx hy).1
  have rP20 : Rows fs.length ss.length 20 (rngR fs.length ss.length π) := rows_rng fun x y hx hy => (hπ x y hx hy).1.mono (by decide)
  have d1 : Bq (12 * (54 + 16 + 2) + 1) (dot (rng fs.length p) fs) := dot_bq mp mf (by rw [rng_len]; exact hf2)
  have d2 : Bq (12 * (54 + 16 + 2) + 1) (dot (rng ss.length q) ss) := dot_bq mq ms (by rw [rng_len]; exact hs2)
  have eb : dot (rng fs.length p) fs - dot (rng ss.length q) ss = cost fs.length ss.length (cq costs) π := by
    rw [ho.ceq]
    unfold brou
    congr 1
    · conv => lhs; arg 2; rw [← rng_self fs]
      rw [dot_rng]
    · conv => lhs; arg 2; rw [← rng_self ss]
      rw [dot_rng]
  rw [eco]
  refine ev_chain ?_
  walk_at "pks"
  refine pair_i (cb.mono (by omega)) ?_
  walk_at "pks"
  refine ⟨costs, rngR fs.length ss.length π, _, _, rfl, rC, rP20, hf2, hs2, ?_⟩
  rw [eco]
  walk_at "pks"
  refine less_p d1 d2 (by decide) ?_
  rw [eb]
  refine ov_eqP ?_
  refine ⟨_, rfl, fun h => (by simp at h), fun _ => ?_⟩
  have st3 : StlL ν [shR costs, D.ptr pl] [shR costs, shR (rngR fs.length ss.length π)] := by
    rw [← rwL_R]
    exact StlL.cons (.refl _) (StlL.cons told.nest.stl .nil)
  have st4 : StlL ν [D.tup [.ptr a, .ptr b'], shL fs, shL ss] [.tup [shL (rng fs.length p), shL (rng ss.length q)], shL fs, shL ss] := StlL.cons told.prs (StlL.cons (.refl _) (StlL.cons (.refl _) .nil))
  refine sv_next (seqK_nx (sv_seq (sv_if (tv_or (tv_test (ev_op (ev_calLp ?_)))))))
  walk_at "pks"
  refine ⟨told.lists, _, st3, costs, _, _, _, b, 16, 16, N, M, rfl, hd.rows, rP, fun r hr q hq => ((hd.cr r hr).2 q hq).2.2, dv_rng fun x y hx hy => (hπ x y hx hy).2, hd.b80, hd.h60, hd.m15, hd.m0, hd.m1, hd.n0, hd.n1, hd.f2, hd.s2, nol_sh _, ?_⟩
  rw [eco]
  refine ev_var rfl ?_
  refine ov_shNe hS ?_
  refine ⟨_, rfl, fun _ => ?_, fun h => (by simp at h)⟩
  refine tv_test (ev_op (ev_calLp ?_))
  walk_at "pks"
  refine ⟨told.lists, _, st4, _, _, _, _, rfl, by rw [rng_len]; exact hf2, by rw [rng_len]; exact hs2, fun v hv => (mp v hv).mono (by decide), fun v hv => (mq v hv).mono (by decide), fun v hv => (mf v hv).mono (by decide), fun v hv => (ms v hv).mono (by decide), nol_sh _, ?_⟩
  rw [eb]
  refine ev_var rfl ?_
  refine ov_shNe hS ?_
  refine ⟨_, rfl, fun h => (by simp at h), fun _ => ?_⟩
  refine sv_next (seqK_nx (sv_seq (sv_clear ?_)))
  walk_at "pks"
  obtain ⟨q0, hq0⟩ : ∃ q0, qs[0]? = some q0 := by
    have : qs.length = fs.length := by rw [told.nest.ln]; simp [rwL, rngR]
    exact ⟨_, List.getElem?_eq_getElem (by omega)⟩
  have hrow0 : ν q0 = some (.lst ((rng ss.length (π 0)).map shD)) := told.nest.row 0 _ _ hq0 (by
    unfold rwL
    rw [List.getElem?_map, rngR_get13 (by omega)]
    rfl)
  have nb : b' ≠ q0 := fun e => told.bqs (by rw [e]; exact List.mem_of_getElem? hq0)
  refine ov_ixM told.nest.top (at_n (k := 0) (a := D.ptr q0) (by rw [List.getElem?_map, hq0]; rfl)) ?_
  refine ⟨q0, _, rfl, hrow0, ?_⟩
  have hb' : put ν q0 (.lst []) b' = some (.lst ((rng ss.length q).map shD)) := by
    rw [put_ne nb]
    exact told.fb
  walk_at "pks"
  refine ⟨b', _, rfl, hb', ?_⟩
  walk_at "pks"
  refine ⟨_, hb', by rw [List.length_map, rng_len]; omega, ?_⟩
  refine seqK_nx (sv_wk leR.refl sub_nil ?_)
  walk_at "pks"
  refine pair_i (cb.mono (by omega)) ?_
  exact hP _ (k π p q ho)
end Far
namespace Far
open PySem PySem.Spec PyProof.Rows L2 Pw
open FM (Bq)
def t_law (T : Cfg) (E : XK) : TS := (tSeq (tFor (iList T.K (tOp rCat (tSl (rSlL T.K) (tVar 0) tNoPart (tPart (tC (.int 4)))) (tLst (tCons (tC (.int 0)) (tCons (tC (.int 1)) tNil))))) (gName 1) (tSeq (tAsg (tCall (spOf T (c_Lwell T)) [] E0 (tCons (tVar 1) tNil)) (gName 2))
    (tSeq (tAsg (tCall (spOf T (wl (c_Lone T))) [] E0 (tCons (tVar 2) (tCons (tLst (tCons (tC (.int 4)) (tCons (tC (.int 4)) (tCons (tC (.int 4)) (tCons (tC (.int 12)) tNil))))) tNil))) (gName 3))
    (tSeq (tAsg (tCall (spOf T (wl (c_Lheap T))) [] E0 (tCons (tVar 2) (tCons (tOp (rI0 fun i j => .int (i + j)) (tC (.int 1)) (tCall (spOf T (wl (c_Ldraw T))) [] E0 (tCons (tVar 2) (tCons (tVar 3) tNil)))) tNil))) (gName 4))
    (tSeq (tAsg (tCall (spOf T (wl (c_Lheap T))) [] E0 (tCons (tVar 2) (tCons (tOp (rI0 fun i j => .int (i + j)) (tC (.int 1)) (tCall (spOf T (wl (c_Ldraw T))) [] E0 (tCons (tVar 2) (tCons (tVar 3) tNil)))) tNil))) (gName 5))
    (tSeq (tAsg (tCall (spOf T (wl (c_LcostsW T))) [] E0 (tCons (tVar 2) (tCons (tCB (Pw.rLen T.K) (tCons (tVar 4) tNil)) (tCons (tCB (Pw.rLen T.K) (tCons (tVar 5) tNil)) tNil)))) (gName 6))
    (tSeq (tAsg (tCall (spOf T (pu (c_Lright13 T))) [] E0 (tCons (tVar 6) (tCons (tVar 4) (tCons (tVar 5) tNil)))) (gName 7))
    (tIfS (tOr (tTest (tOp rIsN (tVar 7) (tC .non))) (tTest (tOp (rNeD T.K) (tCall (spOf T (pu (c_Lright13 T))) [] E0 (tCons (tVar 6) (tCons (tVar 4) (tCons (tVar 5) tNil)))) (tVar 7)))) (tRet (tC (.bl false))) tNext))))))))
    (tRet (tC (.bl true))))
theorem pure_law {T : Cfg} (hT : CaOk T) : ∀ E ds μ P XP, c_law T ds μ P XP → SV T (t_law T E) (fun cls dd _ H => E cls dd H) ⟨slots 8 ds, μ⟩ (fnK P XP) := by
  rintro E ds μ P XP ⟨ns, rfl, hl, rfl, hp⟩
  unfold t_law
  refine sv_seq (sv_forR (ev_cells rfl hl ?_))
  walk_at "pks"
  refine ⟨by simp, by simp, fun es _ he => ⟨es, slots 8 [.seq (ns.map D.int)], .inl rfl, leR.refl, fun e hm => ?_, fun s' hs => seqK_res hs ?_⟩⟩
  rotate_left
  · walk_at "pks"
    exact hp _
  obtain ⟨c, rfl⟩ := he e hm
  walk_at "pks"
  intro a
  walk_at "pks"
  refine ⟨a, _, _, _, rfl, rfl, one_i (by decide) (by simp) (by simp) fun e he => ?_⟩
  have hmo : ∃ t : Nat, e = .int (t : Int) ∧ 0 < t ∧ t ≤ 12 := by
    simp only [List.mem_cons, List.not_mem_nil, or_false] at he
    rcases he with rfl | rfl | rfl | rfl
    · exact ⟨4, rfl, by decide, by decide⟩
    · exact ⟨4, rfl, by decide, by decide⟩
    · exact ⟨4, rfl, by decide, by decide⟩
    · exact ⟨12, rfl, by decide, by decide⟩
  obtain ⟨mo, rfl, mo0, mo12⟩ := hmo
  walk_at "pks"
  refine ⟨a, _, _, _, rfl, rfl, draw_i (by omega) (by omega) (bt4 (by omega)) fun x x0 x1 => ?_⟩
  obtain ⟨n, hn⟩ := natI (show (0 : Int) ≤ 1 + x by omega)
  walk_at "pks"
  rw [hn]
  walk_at "pks"
  refine ⟨a, _, _, _, rfl, rfl, n, rfl, by omega, by omega, by omega, fun ws b2 lw w0 w1 hb2 => ?_⟩
  have H1 := heap_ok w0 w1 (by omega) (by omega)
  rw [show (ws.map fun (w : Nat) => Rat.divInt (w : Int) (ws.sum : Int)) = hpQ ws from rfl]
  generalize hpQ ws = fs at H1
  generalize ws.sum = S1 at H1
  walk_at "pks"
  refine ⟨a, _, _, _, rfl, rfl, draw_i (by omega) (by omega) (bt4 (by omega)) fun x x0 x1 => ?_⟩
  obtain ⟨n', hn'⟩ := natI (show (0 : Int) ≤ 1 + x by omega)
  walk_at "pks"
  rw [hn']
  walk_at "pks"
  refine ⟨a, _, _, _, rfl, rfl, n', rfl, by omega, by omega, by omega, fun ws' b3 lw' w0' w1' hb3 => ?_⟩
  have H2 := heap_ok w0' w1' (by omega) (by omega)
  rw [show (ws'.map fun (w : Nat) => Rat.divInt (w : Int) (ws'.sum : Int)) = hpQ ws' from rfl]
  generalize hpQ ws' = ss at H2
  generalize ws'.sum = S2 at H2
  have l1 := H1.l2
  have l2 := H2.l2
  walk_at "pks"
  refine cv_len (.inl rfl) ?_
  walk_at "pks"
  refine cv_len (.inl rfl) ?_
  rw [List.length_map, List.length_map]
  walk_at "pks"
  refine ⟨a, _, _, _, rfl, rfl, fs.length, ss.length, rfl, l1, l2, by omega, fun rows u b4 u0 u12 rl rr hb4 => ?_⟩
  have hd : Hand rows fs ss 32 (S1 * S2) u := hand_of H1 H2 (by decide) u0 (by omega) rl fun r hr => ⟨(rr r hr).1, fun q hq => (rr r hr).2 q hq⟩
  walk_at "pks"
  refine ⟨rows, fs, ss, 32, S1 * S2, u, rfl, hd, by decide, fun π p q ho => ?_⟩
  walk_at "pks"
  refine ov_isNT ?_
  refine ⟨_, rfl, fun _ => ?_, fun h => (by cases h)⟩
  walk_at "pks"
  refine ⟨rows, fs, ss, 32, S1 * S2, u, rfl, hd, by decide, fun π' p' q' ho' => ?_⟩
  have ee : cost fs.length ss.length (cq rows) π' = cost fs.length ss.length (cq rows) π := Rat.le_antisymm (ho'.least ho.plan) (ho.least ho'.plan)
  rw [ee]
  walk_at "pks"
  refine ⟨?_, trivial⟩
  walk_at "le"
end Far
namespace Lw
open PySem PySem.Spec PyProof.Rows L2 Pw Far
theorem sh_ok {K : PySem.W.Frag} {mg : Str → Option Value} (X : Txt K mg) : ShOk (cfg K) where
  cl := X.cl_Share
  nt := X.na_Share_top
  nb := X.na_Share_bottom
  ic := ⟨X.cl_Share, X.ia_Share, X.ig_Share, X.it_Share, X.obj_Share⟩
  kb := fun n hn => by
    simp only [List.mem_cons, List.not_mem_nil, or_false] at hn
    rcases hn with rfl | rfl | rfl | rfl | rfl | rfl | rfl
    · exact ⟨X.nf_Share_NoneType, X.kit_Share_NoneType⟩
    · exact ⟨X.nf_Share_int, X.kit_Share_int⟩
    · exact ⟨X.nf_Share_bool, X.kit_Share_bool⟩
    · exact ⟨X.nf_Share_str, X.kit_Share_str⟩
    · exact ⟨X.nf_Share_list, X.kit_Share_list⟩
    · exact ⟨X.nf_Share_tuple, X.kit_Share_tuple⟩
    · exact ⟨X.nf_Share_dict, X.kit_Share_dict⟩
  ko := fun n hn => by
    simp only [tys, List.mem_cons, List.not_mem_nil, or_false] at hn
    rcases hn with rfl | rfl | rfl | rfl | rfl | rfl
    · exact X.tik_Share_int
    · exact X.tik_Share_bool
    · exact X.tik_Share_str
    · exact X.tik_Share_list
    · exact X.tik_Share_tuple
    · exact X.tik_Share_dict
theorem ca_ok {K : PySem.W.Frag} {mg : Str → Option Value} (X : Txt K mg) : CaOk (cfg K) := ⟨sh_ok X, X.cl_Carrying, X.na_Carrying_costs, X.na_Carrying_have, X.na_Carrying_want, X.na_Carrying_carried⟩
section
variable {P : Program} {w : World} {K : PySem.W.Frag} {mg : Str → Option Value} {base : Heap}
theorem b_is_whole (X : Txt K mg) : Binds K (fdOf K (He.ga K "is_whole")) ["thing"] [] := X.F_is_whole.bindsN fun _ _ _ _ _ _ us hl => match us, hl with | [_], _ => rfl
theorem ok_is_whole (X : Txt K mg) : FnOk P w K mg base CX0 1 (He.ga K "is_whole") (fdOf K (He.ga K "is_whole")) ["thing"] (spOf (cfg K) (pu (c_is_whole (cfg K)))) := by
  refine X.F_is_whole.ok sc_is_whole (fun vs H Q E h => spOf_len len_is_whole h) (fun cdv A outer s H vs Q E hr h => ⟨t_is_whole (cfg K) E, PSs.nox ?_, fn_go (pure_is_whole (sh_ok X)) vs H Q E h⟩)
  exact (pss_one (ps_ret (pe_and (pe_callB call_isi (by rfl) X.f_isinstance (by decide +kernel) (pa_cons (pv 0) (pa_cons (pe_bltn (by rfl) X.f_int (by decide +kernel) rfl) pa_nil))) (pe_one (pe_not (pe_callB call_isi (by rfl) X.f_isinstance (by decide +kernel) (pa_cons (pv 0) (pa_cons (pe_bltn (by rfl) X.f_bool (by decide +kernel) rfl) pa_nil))))))))
theorem b_common (X : Txt K mg) : Binds K (fdOf K (He.ga K "common")) ["one", "other"] [] := X.F_common.bindsN fun _ _ _ _ _ _ us hl => match us, hl with | [_, _], _ => rfl
theorem ok_common (X : Txt K mg) : FnOk P w K mg base CX0 1 (He.ga K "common") (fdOf K (He.ga K "common")) ["one", "other"] (spOf (cfg K) (pu (c_common (cfg K)))) := by
  refine X.F_common.ok sc_common (fun vs H Q E h => spOf_len len_common h) (fun cdv A outer s H vs Q E hr h => ⟨t_common (cfg K) E, PSs.nox ?_, fn_go (pure_common (sh_ok X)) vs H Q E h⟩)
  exact (pss_cons (ps_while PassesOwn.never (pt_cmpR op_ne (pv 1) pe_int (nomark _)) (pss_one (ps_par (by rfl) sc_common.nd (i := 0) (j := 1) rfl rfl (by decide) rfl rfl (pa_cons (pv 1) (pa_cons (pe_op op_modN (pv 0) (pv 1)) pa_nil)) (by rfl))))
      (pss_one (ps_ret (pv 0))))
theorem b_Share___init___1 (X : Txt K mg) : ∃ ds, Vals ([.int 1] : List V) ds ∧ Binds K (fdOf K (He.ma K (He.ga K "Share") "__init__")) ["self", "top", "bottom"] ds := X.F_Share___init__.binds1 2 0 (by simp) rfl fun T kV doc pm an cdv ct us its h1 h2 => match us, its, h1, h2 with | [_, _], [_], _, _ => ⟨_, rfl, rfl⟩
theorem b_Share___init___2 (X : Txt K mg) : ∃ ds, Vals ([] : List V) ds ∧ Binds K (fdOf K (He.ma K (He.ga K "Share") "__init__")) ["self", "top", "bottom"] ds := X.F_Share___init__.binds1 3 1 (by simp) rfl fun T kV doc pm an cdv ct us its h1 h2 => match us, its, h1, h2 with | [_, _, _], [_], _, _ => ⟨_, rfl, rfl⟩
theorem ok_Share___init__ (X : Txt K mg) : FnOk P w K mg base (L2.CX P w) 2 (He.ma K (He.ga K "Share") "__init__") (fdOf K (He.ma K (He.ga K "Share") "__init__")) ["self", "top", "bottom"] (spOf (cfg K) (ini 0 (c_Share___init__ (cfg K)))) := by
  refine X.F_Share___init__.ok sc_Share___init__ (fun vs H Q E h => spOf_len len_Share___init__ h) (fun cdv A outer s H vs Q E hr h => ⟨t_Share___init__ (cfg K) E, ?_, fn_go (pure_Share___init__ (sh_ok X)) vs H Q E h⟩)
  exact (pss_cons (ps_if (PW.pt (pw_or (pt_not (pt_val (pe_call (ok_is_whole X) (hr.mono (by decide)) (by rfl) X.g_is_whole X.F_is_whole.kp (b_is_whole X) .nil pass0 (pa_cons (pv 1) pa_nil)))) (pw_or (pt_not (pt_val (pe_call (ok_is_whole X) (hr.mono (by decide)) (by rfl) X.g_is_whole X.F_is_whole.kp (b_is_whole X) .nil pass0 (pa_cons (pv 2) pa_nil)))) (pw_or1 (pt_cmpR op_eq (pv 2) pe_int (nomark _)))))) (pss_one (ps_raise rfl (takes_of rfl rfl rfl rfl) (pmk_own PySem.F.excBase_ValueError X.x0_NoShare X.g_NoShare X.x1_NoShare (raises_own X.x2_NoShare X.x3_NoShare) (by rfl)))) pss_nil)
      (pss_cons (ps_set (i := 3) sc_Share___init__.nd rfl (by first | exact Or.inl rfl | exact Or.inr rfl) (pe_op op_mulO (pe_call (ok_common X) (hr.mono (by decide)) (by rfl) X.g_common X.F_common.kp (b_common X) .nil pass0 (pa_cons (pe_callB call_abs (by rfl) X.f_abs (by decide +kernel) (pa_cons (pv 1) pa_nil)) (pa_cons (pe_callB call_abs (by rfl) X.f_abs (by decide +kernel) (pa_cons (pv 2) pa_nil)) pa_nil))) (pe_ifExp (pt_cmpR op_gt (pv 2) pe_int (nomark _)) pe_int (pe_un un_neg pe_int))))
      (pss_cons (ps_fld (pv 0) (pe_op op_fdivO (pv 1) (pv 3)) rfl)
      (pss_one (ps_fld (pv 0) (pe_op op_fdivO (pv 2) (pv 3)) rfl)))))
theorem b_Share___eq__ (X : Txt K mg) : Binds K (fdOf K (He.ma K (He.ga K "Share") "__eq__")) ["self", "other"] [] := X.F_Share___eq__.bindsN fun _ _ _ _ _ _ us hl => match us, hl with | [_, _], _ => rfl
theorem ok_Share___eq__ (X : Txt K mg) : FnOk P w K mg base CX0 1 (He.ma K (He.ga K "Share") "__eq__") (fdOf K (He.ma K (He.ga K "Share") "__eq__")) ["self", "other"] (spOf (cfg K) (pu (c_Share___eq__ (cfg K)))) := by
  refine X.F_Share___eq__.ok sc_Share___eq__ (fun vs H Q E h => spOf_len len_Share___eq__ h) (fun cdv A outer s H vs Q E hr h => ⟨t_Share___eq__ (cfg K) E, PSs.nox ?_, fn_go (pure_Share___eq__ (sh_ok X)) vs H Q E h⟩)
  exact (pss_one (ps_ret (pe_and (pe_callB call_isi (by rfl) X.f_isinstance (by decide +kernel) (pa_cons (pv 1) (pa_cons (pe_glob (by rfl) X.g_Share rfl) pa_nil))) (pe_one (pe_cmpR (op_eqD hr.units) (pe_tup (pa_cons (pe_fld (pv 0) rfl) (pa_cons (pe_fld (pv 0) rfl) pa_nil))) (pe_tup (pa_cons (pe_fld (pv 1) rfl) (pa_cons (pe_fld (pv 1) rfl) pa_nil))) (nomark _))))))
theorem b_plus (X : Txt K mg) : Binds K (fdOf K (He.ga K "plus")) ["one", "other"] [] := X.F_plus.bindsN fun _ _ _ _ _ _ us hl => match us, hl with | [_, _], _ => rfl
theorem ok_plus (X : Txt K mg) : FnOk P w K mg base CX0 4 (He.ga K "plus") (fdOf K (He.ga K "plus")) ["one", "other"] (spOf (cfg K) (pu (c_plus (cfg K)))) := by
  obtain ⟨dsShare2, hdShare2, bdShare2⟩ := b_Share___init___2 X
  refine X.F_plus.ok sc_plus (fun vs H Q E h => spOf_len len_plus h) (fun cdv A outer s H vs Q E hr h => ⟨t_plus (cfg K) E, PSs.nox ?_, fn_go (pure_plus (sh_ok X)) vs H Q E h⟩)
  exact (pss_one (ps_ret (pe_make X.mk_Share (ok_Share___init__ X) (hr.mono (by decide)) (by rfl) X.g_Share bdShare2 hdShare2 passL (pa_cons (pe_op op_add (pe_op op_mulO (pe_fld (pv 0) rfl) (pe_fld (pv 1) rfl)) (pe_op op_mulO (pe_fld (pv 1) rfl) (pe_fld (pv 0) rfl))) (pa_cons (pe_op op_mulO (pe_fld (pv 0) rfl) (pe_fld (pv 1) rfl)) pa_nil)))))
theorem b_minus (X : Txt K mg) : Binds K (fdOf K (He.ga K "minus")) ["one", "other"] [] := X.F_minus.bindsN fun _ _ _ _ _ _ us hl => match us, hl with | [_, _], _ => rfl
theorem ok_minus (X : Txt K mg) : FnOk P w K mg base CX0 4 (He.ga K "minus") (fdOf K (He.ga K "minus")) ["one", "other"] (spOf (cfg K) (pu (c_minus (cfg K)))) := by
  obtain ⟨dsShare2, hdShare2, bdShare2⟩ := b_Share___init___2 X
  refine X.F_minus.ok sc_minus (fun vs H Q E h => spOf_len len_minus h) (fun cdv A outer s H vs Q E hr h => ⟨t_minus (cfg K) E, PSs.nox ?_, fn_go (pure_minus (sh_ok X)) vs H Q E h⟩)
  exact (pss_one (ps_ret (pe_make X.mk_Share (ok_Share___init__ X) (hr.mono (by decide)) (by rfl) X.g_Share bdShare2 hdShare2 passL (pa_cons (pe_op op_sub (pe_op op_mulO (pe_fld (pv 0) rfl) (pe_fld (pv 1) rfl)) (pe_op op_mulO (pe_fld (pv 1) rfl) (pe_fld (pv 0) rfl))) (pa_cons (pe_op op_mulO (pe_fld (pv 0) rfl) (pe_fld (pv 1) rfl)) pa_nil)))))
theorem b_times (X : Txt K mg) : Binds K (fdOf K (He.ga K "times")) ["one", "other"] [] := X.F_times.bindsN fun _ _ _ _ _ _ us hl => match us, hl with | [_, _], _ => rfl
theorem ok_times (X : Txt K mg) : FnOk P w K mg base CX0 4 (He.ga K "times") (fdOf K (He.ga K "times")) ["one", "other"] (spOf (cfg K) (pu (c_times (cfg K)))) := by
  obtain ⟨dsShare2, hdShare2, bdShare2⟩ := b_Share___init___2 X
  refine X.F_times.ok sc_times (fun vs H Q E h => spOf_len len_times h) (fun cdv A outer s H vs Q E hr h => ⟨t_times (cfg K) E, PSs.nox ?_, fn_go (pure_times (sh_ok X)) vs H Q E h⟩)
  exact (pss_one (ps_ret (pe_make X.mk_Share (ok_Share___init__ X) (hr.mono (by decide)) (by rfl) X.g_Share bdShare2 hdShare2 passL (pa_cons (pe_op op_mulO (pe_fld (pv 0) rfl) (pe_fld (pv 1) rfl)) (pa_cons (pe_op op_mulO (pe_fld (pv 0) rfl) (pe_fld (pv 1) rfl)) pa_nil)))))
theorem b_less (X : Txt K mg) : Binds K (fdOf K (He.ga K "less")) ["one", "other"] [] := X.F_less.bindsN fun _ _ _ _ _ _ us hl => match us, hl with | [_, _], _ => rfl
theorem ok_less (X : Txt K mg) : FnOk P w K mg base CX0 1 (He.ga K "less") (fdOf K (He.ga K "less")) ["one", "other"] (spOf (cfg K) (pu (c_less (cfg K)))) := by
  refine X.F_less.ok sc_less (fun vs H Q E h => spOf_len len_less h) (fun cdv A outer s H vs Q E hr h => ⟨t_less (cfg K) E, PSs.nox ?_, fn_go (pure_less (sh_ok X)) vs H Q E h⟩)
  exact (pss_one (ps_ret (pe_cmpR op_lt (pe_op op_mulO (pe_fld (pv 0) rfl) (pe_fld (pv 1) rfl)) (pe_op op_mulO (pe_fld (pv 1) rfl) (pe_fld (pv 0) rfl)) (nomark _))))
theorem b_sum_of (X : Txt K mg) : Binds K (fdOf K (He.ga K "sum_of")) ["shares"] [] := X.F_sum_of.bindsN fun _ _ _ _ _ _ us hl => match us, hl with | [_], _ => rfl
theorem ok_sum_of (X : Txt K mg) : FnOk P w K mg base CX0 5 (He.ga K "sum_of") (fdOf K (He.ga K "sum_of")) ["shares"] (spOf (cfg K) (pu (c_sum_of (cfg K)))) := by
  obtain ⟨dsShare1, hdShare1, bdShare1⟩ := b_Share___init___1 X
  refine X.F_sum_of.ok sc_sum_of (fun vs H Q E h => spOf_len len_sum_of h) (fun cdv A outer s H vs Q E hr h => ⟨t_sum_of (cfg K) E, PSs.nox ?_, fn_go (pure_sum_of (sh_ok X)) vs H Q E h⟩)
  exact (pss_cons (ps_set (i := 1) sc_sum_of.nd rfl (by first | exact Or.inl rfl | exact Or.inr rfl) (pe_make X.mk_Share (ok_Share___init__ X) (hr.mono (by decide)) (by rfl) X.g_Share bdShare1 hdShare1 passL (pa_cons pe_int pa_nil)))
      (pss_cons (ps_for PassesOwn.never rfl (pi_list (pv 0)) (pg_name (i := 2) sc_sum_of.nd rfl (by first | exact Or.inl rfl | exact Or.inr rfl)) (pss_one (ps_set (i := 1) sc_sum_of.nd rfl (by first | exact Or.inl rfl | exact Or.inr rfl) (pe_call (ok_plus X) (hr.mono (by decide)) (by rfl) X.g_plus X.F_plus.kp (b_plus X) .nil pass0 (pa_cons (pv 1) (pa_cons (pv 2) pa_nil))))))
      (pss_one (ps_ret (pv 1)))))
theorem b_are_shares (X : Txt K mg) : Binds K (fdOf K (He.ga K "are_shares")) ["thing"] [] := X.F_are_shares.bindsN fun _ _ _ _ _ _ us hl => match us, hl with | [_], _ => rfl
theorem ok_are_shares (X : Txt K mg) : FnOk P w K mg base CX0 1 (He.ga K "are_shares") (fdOf K (He.ga K "are_shares")) ["thing"] (spOf (cfg K) (pu (c_are_shares (cfg K)))) := by
  refine X.F_are_shares.ok sc_are_shares (fun vs H Q E h => spOf_len len_are_shares h) (fun cdv A outer s H vs Q E hr h => ⟨t_are_shares (cfg K) E, PSs.nox ?_, fn_go (pure_are_shares (sh_ok X)) vs H Q E h⟩)
  exact (pss_one (ps_ret (pe_and (pe_callB call_isi (by rfl) X.f_isinstance (by decide +kernel) (pa_cons (pv 0) (pa_cons (pe_bltn (by rfl) X.f_list (by decide +kernel) rfl) pa_nil))) (pe_one (pe_callB (cr_all rfl) (by rfl) X.f_all (by decide +kernel) (pa_cons (pe_lc (own := [("share", 1)]) (g := (gName 1)) (tt := tYes) (by rfl) sc_are_shares.nd (pi_list (pv 0)) (blkOk_by (own := [("share", 1)]) (N := ["thing", "share"]) (sc := defScope s_are_shares) (by decide +kernel)) (fun _ _ _ _ _ => (pg_name (i := 1) sc_are_shares.nd rfl (by first | exact Or.inl rfl | exact Or.inr rfl))) (fun _ _ _ _ _ => pts_nil) (fun _ _ _ _ _ => (pe_callB call_isi (by rfl) X.f_isinstance (by decide +kernel) (pa_cons (pv 1) (pa_cons (pe_glob (by rfl) X.g_Share rfl) pa_nil))))) pa_nil))))))
theorem b_none_below (X : Txt K mg) : Binds K (fdOf K (He.ga K "none_below")) ["shares"] [] := X.F_none_below.bindsN fun _ _ _ _ _ _ us hl => match us, hl with | [_], _ => rfl
theorem ok_none_below (X : Txt K mg) : FnOk P w K mg base CX0 1 (He.ga K "none_below") (fdOf K (He.ga K "none_below")) ["shares"] (spOf (cfg K) (pu (c_none_below (cfg K)))) := by
  refine X.F_none_below.ok sc_none_below (fun vs H Q E h => spOf_len len_none_below h) (fun cdv A outer s H vs Q E hr h => ⟨t_none_below (cfg K) E, PSs.nox ?_, fn_go (pure_none_below (sh_ok X)) vs H Q E h⟩)
  exact (pss_one (ps_ret (pe_callB (cr_all rfl) (by rfl) X.f_all (by decide +kernel) (pa_cons (pe_lc (own := [("share", 1)]) (g := (gName 1)) (tt := tYes) (by rfl) sc_none_below.nd (pi_list (pv 0)) (blkOk_by (own := [("share", 1)]) (N := ["shares", "share"]) (sc := defScope s_none_below) (by decide +kernel)) (fun _ _ _ _ _ => (pg_name (i := 1) sc_none_below.nd rfl (by first | exact Or.inl rfl | exact Or.inr rfl))) (fun _ _ _ _ _ => pts_nil) (fun _ _ _ _ _ => (pe_cmpR op_ge (pe_fld (pv 1) rfl) pe_int (nomark _)))) pa_nil))))
theorem b_is_heap (X : Txt K mg) : Binds K (fdOf K (He.ga K "is_heap")) ["thing"] [] := X.F_is_heap.bindsN fun _ _ _ _ _ _ us hl => match us, hl with | [_], _ => rfl
theorem ok_is_heap (X : Txt K mg) : FnOk P w K mg base CX0 6 (He.ga K "is_heap") (fdOf K (He.ga K "is_heap")) ["thing"] (spOf (cfg K) (pu (c_is_heap (cfg K)))) := by
  obtain ⟨dsShare1, hdShare1, bdShare1⟩ := b_Share___init___1 X
  refine X.F_is_heap.ok sc_is_heap (fun vs H Q E h => spOf_len len_is_heap h) (fun cdv A outer s H vs Q E hr h => ⟨t_is_heap (cfg K) E, PSs.nox ?_, fn_go (pure_is_heap (sh_ok X)) vs H Q E h⟩)
  exact (pss_cons (ps_if (PW.pt (pw_or (pt_not (pt_val (pe_call (ok_are_shares X) (hr.mono (by decide)) (by rfl) X.g_are_shares X.F_are_shares.kp (b_are_shares X) .nil pass0 (pa_cons (pv 0) pa_nil)))) (pw_or1 (pt_not (pt_chain op_le op_le pe_int (pe_callB call_len (by rfl) X.f_len (by decide +kernel) (pa_cons (pv 0) pa_nil)) (pe_glob (by rfl) X.k_MOST_PLACES.choose_spec ⟨_, rfl⟩)))))) (pss_one (ps_ret pe_bl)) pss_nil)
      (pss_one (ps_ret (pe_and (pe_call (ok_none_below X) (hr.mono (by decide)) (by rfl) X.g_none_below X.F_none_below.kp (b_none_below X) .nil pass0 (pa_cons (pv 0) pa_nil)) (pe_one (pe_cmpR (op_ownEq (ok_Share___eq__ X) X.m_Share__eq__.at_ X.m_Share__eq__.fn (b_Share___eq__ X) pass0 (hr.mono (by decide))) (pe_call (ok_sum_of X) (hr.mono (by decide)) (by rfl) X.g_sum_of X.F_sum_of.kp (b_sum_of X) .nil pass0 (pa_cons (pv 0) pa_nil)) (pe_make X.mk_Share (ok_Share___init__ X) (hr.mono (by decide)) (by rfl) X.g_Share bdShare1 hdShare1 passL (pa_cons pe_int pa_nil)) (nomark _)))))))
theorem b_are_rows (X : Txt K mg) : Binds K (fdOf K (He.ga K "are_rows")) ["thing", "many", "long"] [] := X.F_are_rows.bindsN fun _ _ _ _ _ _ us hl => match us, hl with | [_, _, _], _ => rfl
theorem ok_are_rows (X : Txt K mg) : FnOk P w K mg base CX0 2 (He.ga K "are_rows") (fdOf K (He.ga K "are_rows")) ["thing", "many", "long"] (spOf (cfg K) (pu (c_are_rows (cfg K)))) := by
  refine X.F_are_rows.ok sc_are_rows (fun vs H Q E h => spOf_len len_are_rows h) (fun cdv A outer s H vs Q E hr h => ⟨t_are_rows (cfg K) E, PSs.nox ?_, fn_go (pure_are_rows (sh_ok X)) vs H Q E h⟩)
  exact (pss_cons (ps_if (PW.pt (pw_or (pt_not (pt_val (pe_callB call_isi (by rfl) X.f_isinstance (by decide +kernel) (pa_cons (pv 0) (pa_cons (pe_bltn (by rfl) X.f_list (by decide +kernel) rfl) pa_nil))))) (pw_or1 (pt_cmpR op_ne (pe_callB call_len (by rfl) X.f_len (by decide +kernel) (pa_cons (pv 0) pa_nil)) (pv 1) (nomark _))))) (pss_one (ps_ret pe_bl)) pss_nil)
      (pss_one (ps_ret (pe_callB (cr_all rfl) (by rfl) X.f_all (by decide +kernel) (pa_cons (pe_lc (own := [("row", 3)]) (g := (gName 3)) (tt := tYes) (by rfl) sc_are_rows.nd (pi_list (pv 0)) (blkOk_by (own := [("row", 3)]) (N := ["thing", "many", "long", "row"]) (sc := defScope s_are_rows) (by decide +kernel)) (fun _ _ _ _ _ => (pg_name (i := 3) sc_are_rows.nd rfl (by first | exact Or.inl rfl | exact Or.inr rfl))) (fun _ _ _ _ _ => pts_nil) (fun _ _ _ _ _ => (pe_and (pe_call (ok_are_shares X) (hr.mono (by decide)) (by rfl) X.g_are_shares X.F_are_shares.kp (b_are_shares X) .nil pass0 (pa_cons (pv 3) pa_nil)) (pe_and (pe_cmpR op_eq (pe_callB call_len (by rfl) X.f_len (by decide +kernel) (pa_cons (pv 3) pa_nil)) (pv 2) (nomark _)) (pe_one (pe_call (ok_none_below X) (hr.mono (by decide)) (by rfl) X.g_none_below X.F_none_below.kp (b_none_below X) .nil pass0 (pa_cons (pv 3) pa_nil))))))) pa_nil)))))
theorem b_is_plan (X : Txt K mg) : Binds K (fdOf K (He.ga K "is_plan")) ["thing", "first", "second"] [] := X.F_is_plan.bindsN fun _ _ _ _ _ _ us hl => match us, hl with | [_, _, _], _ => rfl
theorem ok_is_plan (X : Txt K mg) : FnOk P w K mg base CX0 6 (He.ga K "is_plan") (fdOf K (He.ga K "is_plan")) ["thing", "first", "second"] (spOf (cfg K) (pu (c_is_plan (cfg K)))) := by
  refine X.F_is_plan.ok sc_is_plan (fun vs H Q E h => spOf_len len_is_plan h) (fun cdv A outer s H vs Q E hr h => ⟨t_is_plan (cfg K) E, PSs.nox ?_, fn_go (pure_is_plan (sh_ok X)) vs H Q E h⟩)
  exact (pss_cons (ps_if (pt_not (pt_val (pe_call (ok_are_rows X) (hr.mono (by decide)) (by rfl) X.g_are_rows X.F_are_rows.kp (b_are_rows X) .nil pass0 (pa_cons (pv 0) (pa_cons (pe_callB call_len (by rfl) X.f_len (by decide +kernel) (pa_cons (pv 1) pa_nil)) (pa_cons (pe_callB call_len (by rfl) X.f_len (by decide +kernel) (pa_cons (pv 2) pa_nil)) pa_nil)))))) (pss_one (ps_ret pe_bl)) pss_nil)
      (pss_cons (ps_if (pt_not (pt_val (pe_callB (cr_all rfl) (by rfl) X.f_all (by decide +kernel) (pa_cons (pe_lc (own := [("row", 5), ("share", 4)]) (g := (gTup (cfg K).K 2 (gCons (gName 5) (gCons (gName 4) gNil)))) (tt := tYes) (by rfl) sc_is_plan.nd (pi_zip (by rfl) X.f_zip (pa_cons (pv 0) (pa_cons (pv 1) pa_nil))) (blkOk_by (own := [("row", 5), ("share", 4)]) (N := ["thing", "first", "second", "at", "share", "row"]) (sc := defScope s_is_plan) (by decide +kernel)) (fun _ _ _ _ _ => (pg_tup rfl (pgs_cons (pg_name (i := 5) sc_is_plan.nd rfl (by first | exact Or.inl rfl | exact Or.inr rfl)) (pgs_cons (pg_name (i := 4) sc_is_plan.nd rfl (by first | exact Or.inl rfl | exact Or.inr rfl)) pgs_nil)))) (fun _ _ _ _ _ => pts_nil) (fun _ _ _ _ _ => (pe_cmpR (op_ownEq (ok_Share___eq__ X) X.m_Share__eq__.at_ X.m_Share__eq__.fn (b_Share___eq__ X) pass0 (hr.mono (by decide))) (pe_call (ok_sum_of X) (hr.mono (by decide)) (by rfl) X.g_sum_of X.F_sum_of.kp (b_sum_of X) .nil pass0 (pa_cons (pv 5) pa_nil)) (pv 4) (nomark _)))) pa_nil)))) (pss_one (ps_ret pe_bl)) pss_nil)
      (pss_one (ps_ret (pe_callB (cr_all rfl) (by rfl) X.f_all (by decide +kernel) (pa_cons (pe_lc (own := [("at", 3), ("share", 4)]) (g := (gTup (cfg K).K 2 (gCons (gName 3) (gCons (gName 4) gNil)))) (tt := tYes) (by rfl) sc_is_plan.nd (pi_enum (by rfl) X.f_enumerate (pa_cons (pv 2) pa_nil)) (blkOk_by (own := [("at", 3), ("share", 4)]) (N := ["thing", "first", "second", "at", "share", "row"]) (sc := defScope s_is_plan) (by decide +kernel)) (fun _ _ _ _ _ => (pg_tup rfl (pgs_cons (pg_name (i := 3) sc_is_plan.nd rfl (by first | exact Or.inl rfl | exact Or.inr rfl)) (pgs_cons (pg_name (i := 4) sc_is_plan.nd rfl (by first | exact Or.inl rfl | exact Or.inr rfl)) pgs_nil)))) (fun _ _ _ _ _ => pts_nil) (fun _ _ _ _ _ => (pe_cmpR (op_ownEq (ok_Share___eq__ X) X.m_Share__eq__.at_ X.m_Share__eq__.fn (b_Share___eq__ X) pass0 (hr.mono (by decide))) (pe_call (ok_sum_of X) (hr.mono (by decide)) (by rfl) X.g_sum_of X.F_sum_of.kp (b_sum_of X) .nil pass0 (pa_cons (pe_lc (own := [("row", 5)]) (g := (gName 5)) (tt := tYes) (by rfl) sc_is_plan.nd (pi_list (pv 0)) (blkOk_by (own := [("row", 5)]) (by rfl)) (fun _ _ _ _ _ => (pg_name (i := 5) sc_is_plan.nd rfl (by first | exact Or.inl rfl | exact Or.inr rfl))) (fun _ _ _ _ _ => pts_nil) (fun _ _ _ _ _ => (pe_ix ix_list (pv 5) (pv 3) (fun _ _ => rfl)))) pa_nil)) (pv 4) (nomark _)))) pa_nil))))))
theorem b_are_prices (X : Txt K mg) : Binds K (fdOf K (He.ga K "are_prices")) ["thing", "costs"] [] := X.F_are_prices.bindsN fun _ _ _ _ _ _ us hl => match us, hl with | [_, _], _ => rfl
theorem ok_are_prices (X : Txt K mg) : FnOk P w K mg base CX0 5 (He.ga K "are_prices") (fdOf K (He.ga K "are_prices")) ["thing", "costs"] (spOf (cfg K) (pu (c_are_prices (cfg K)))) := by
  refine X.F_are_prices.ok sc_are_prices (fun vs H Q E h => spOf_len len_are_prices h) (fun cdv A outer s H vs Q E hr h => ⟨t_are_prices (cfg K) E, PSs.nox ?_, fn_go (pure_are_prices (sh_ok X)) vs H Q E h⟩)
  exact (pss_cons (ps_if (PW.pt (pw_or (pt_not (pt_val (pe_callB call_isi (by rfl) X.f_isinstance (by decide +kernel) (pa_cons (pv 0) (pa_cons (pe_bltn (by rfl) X.f_tuple (by decide +kernel) rfl) pa_nil))))) (pw_or (pt_cmpR op_ne (pe_callB call_len (by rfl) X.f_len (by decide +kernel) (pa_cons (pv 0) pa_nil)) pe_int (nomark _)) (pw_or1 (pt_not (pt_val (pe_callB (cr_all rfl) (by rfl) X.f_all (by decide +kernel) (pa_cons (pe_lc (own := [("some", 6)]) (g := (gName 6)) (tt := tYes) (by rfl) sc_are_prices.nd (pi_tup (pv 0)) (blkOk_by (own := [("some", 6)]) (N := ["thing", "costs", "here", "there", "price", "row", "some", "cost", "other"]) (sc := defScope s_are_prices) (by decide +kernel)) (fun _ _ _ _ _ => (pg_name (i := 6) sc_are_prices.nd rfl (by first | exact Or.inl rfl | exact Or.inr rfl))) (fun _ _ _ _ _ => pts_nil) (fun _ _ _ _ _ => (pe_call (ok_are_shares X) (hr.mono (by decide)) (by rfl) X.g_are_shares X.F_are_shares.kp (b_are_shares X) .nil pass0 (pa_cons (pv 6) pa_nil)))) pa_nil)))))))) (pss_one (ps_ret pe_bl)) pss_nil)
      (pss_cons (ps_asg (pv 0) (pg_tup rfl (pgs_cons (pg_name (i := 2) sc_are_prices.nd rfl (by first | exact Or.inl rfl | exact Or.inr rfl)) (pgs_cons (pg_name (i := 3) sc_are_prices.nd rfl (by first | exact Or.inl rfl | exact Or.inr rfl)) pgs_nil))))
      (pss_cons (ps_if (PW.pt (pw_or (pt_cmpR op_ne (pe_callB call_len (by rfl) X.f_len (by decide +kernel) (pa_cons (pv 2) pa_nil)) (pe_callB call_len (by rfl) X.f_len (by decide +kernel) (pa_cons (pv 1) pa_nil)) (nomark _)) (pw_or1 (pt_cmpR op_ne (pe_callB call_len (by rfl) X.f_len (by decide +kernel) (pa_cons (pv 3) pa_nil)) (pe_callB call_len (by rfl) X.f_len (by decide +kernel) (pa_cons (pe_ix ix_list (pv 1) pe_int (fun _ _ => rfl)) pa_nil)) (nomark _))))) (pss_one (ps_ret pe_bl)) pss_nil)
      (pss_cons (ps_for PassesOwn.never rfl (pi_zip (by rfl) X.f_zip (pa_cons (pv 2) (pa_cons (pv 1) pa_nil))) (pg_tup rfl (pgs_cons (pg_name (i := 4) sc_are_prices.nd rfl (by first | exact Or.inl rfl | exact Or.inr rfl)) (pgs_cons (pg_name (i := 5) sc_are_prices.nd rfl (by first | exact Or.inl rfl | exact Or.inr rfl)) pgs_nil))) (pss_one (ps_if (pt_val (pe_callB (cr_any rfl) (by rfl) X.f_any (by decide +kernel) (pa_cons (pe_lc (own := [("cost", 7), ("other", 8)]) (g := (gTup (cfg K).K 2 (gCons (gName 7) (gCons (gName 8) gNil)))) (tt := tYes) (by rfl) sc_are_prices.nd (pi_zip (by rfl) X.f_zip (pa_cons (pv 5) (pa_cons (pv 3) pa_nil))) (blkOk_by (own := [("cost", 7), ("other", 8)]) (N := ["thing", "costs", "here", "there", "price", "row", "some", "cost", "other"]) (sc := defScope s_are_prices) (by decide +kernel)) (fun _ _ _ _ _ => (pg_tup rfl (pgs_cons (pg_name (i := 7) sc_are_prices.nd rfl (by first | exact Or.inl rfl | exact Or.inr rfl)) (pgs_cons (pg_name (i := 8) sc_are_prices.nd rfl (by first | exact Or.inl rfl | exact Or.inr rfl)) pgs_nil)))) (fun _ _ _ _ _ => pts_nil) (fun _ _ _ _ _ => (pe_call (ok_less X) (hr.mono (by decide)) (by rfl) X.g_less X.F_less.kp (b_less X) .nil pass0 (pa_cons (pv 7) (pa_cons (pe_call (ok_minus X) (hr.mono (by decide)) (by rfl) X.g_minus X.F_minus.kp (b_minus X) .nil pass0 (pa_cons (pv 4) (pa_cons (pv 8) pa_nil))) pa_nil))))) pa_nil))) (pss_one (ps_ret pe_bl)) pss_nil)))
      (pss_one (ps_ret pe_bl))))))
theorem b_costW (X : Txt K mg) : Binds K (fdOf K (He.ga K "cost_of")) ["costs", "plan"] [] := X.F_costW.bindsN fun _ _ _ _ _ _ us hl => match us, hl with | [_, _], _ => rfl
theorem ok_costW (X : Txt K mg) : FnOk P w K mg base CX0 6 (He.ga K "cost_of") (fdOf K (He.ga K "cost_of")) ["costs", "plan"] (spOf (cfg K) (pu (c_costW (cfg K)))) := by
  obtain ⟨dsShare1, hdShare1, bdShare1⟩ := b_Share___init___1 X
  refine X.F_costW.ok sc_costW (fun vs H Q E h => spOf_len len_costW h) (fun cdv A outer s H vs Q E hr h => ⟨t_costW (cfg K) E, PSs.nox ?_, fn_go (pure_costW (sh_ok X)) vs H Q E h⟩)
  exact (pss_cons (ps_set (i := 2) sc_costW.nd rfl (by first | exact Or.inl rfl | exact Or.inr rfl) (pe_make X.mk_Share (ok_Share___init__ X) (hr.mono (by decide)) (by rfl) X.g_Share bdShare1 hdShare1 passL (pa_cons pe_int pa_nil)))
      (pss_cons (ps_for PassesOwn.never rfl (pi_zip (by rfl) X.f_zip (pa_cons (pv 0) (pa_cons (pv 1) pa_nil))) (pg_tup rfl (pgs_cons (pg_name (i := 3) sc_costW.nd rfl (by first | exact Or.inl rfl | exact Or.inr rfl)) (pgs_cons (pg_name (i := 4) sc_costW.nd rfl (by first | exact Or.inl rfl | exact Or.inr rfl)) pgs_nil))) (pss_one (ps_set (i := 2) sc_costW.nd rfl (by first | exact Or.inl rfl | exact Or.inr rfl) (pe_call (ok_plus X) (hr.mono (by decide)) (by rfl) X.g_plus X.F_plus.kp (b_plus X) .nil pass0 (pa_cons (pv 2) (pa_cons (pe_call (ok_sum_of X) (hr.mono (by decide)) (by rfl) X.g_sum_of X.F_sum_of.kp (b_sum_of X) .nil pass0 (pa_cons (pe_lc (own := [("cost", 5), ("amount", 6)]) (g := (gTup (cfg K).K 2 (gCons (gName 5) (gCons (gName 6) gNil)))) (tt := tYes) (by rfl) sc_costW.nd (pi_zip (by rfl) X.f_zip (pa_cons (pv 3) (pa_cons (pv 4) pa_nil))) (blkOk_by (own := [("cost", 5), ("amount", 6)]) (N := ["costs", "plan", "found", "row", "amounts", "cost", "amount"]) (sc := defScope s_costW) (by decide +kernel)) (fun _ _ _ _ _ => (pg_tup rfl (pgs_cons (pg_name (i := 5) sc_costW.nd rfl (by first | exact Or.inl rfl | exact Or.inr rfl)) (pgs_cons (pg_name (i := 6) sc_costW.nd rfl (by first | exact Or.inl rfl | exact Or.inr rfl)) pgs_nil)))) (fun _ _ _ _ _ => pts_nil) (fun _ _ _ _ _ => (pe_call (ok_times X) (hr.mono (by decide)) (by rfl) X.g_times X.F_times.kp (b_times X) .nil pass0 (pa_cons (pv 5) (pa_cons (pv 6) pa_nil))))) pa_nil)) pa_nil))))))
      (pss_one (ps_ret (pv 2)))))
theorem b_brought (X : Txt K mg) : Binds K (fdOf K (He.ga K "brought")) ["prices", "first", "second"] [] := X.F_brought.bindsN fun _ _ _ _ _ _ us hl => match us, hl with | [_, _, _], _ => rfl
theorem ok_brought (X : Txt K mg) : FnOk P w K mg base CX0 6 (He.ga K "brought") (fdOf K (He.ga K "brought")) ["prices", "first", "second"] (spOf (cfg K) (pu (c_brought (cfg K)))) := by
  refine X.F_brought.ok sc_brought (fun vs H Q E h => spOf_len len_brought h) (fun cdv A outer s H vs Q E hr h => ⟨t_brought (cfg K) E, PSs.nox ?_, fn_go (pure_brought (sh_ok X)) vs H Q E h⟩)
  exact (pss_cons (ps_asg (pv 0) (pg_tup rfl (pgs_cons (pg_name (i := 4) sc_brought.nd rfl (by first | exact Or.inl rfl | exact Or.inr rfl)) (pgs_cons (pg_name (i := 5) sc_brought.nd rfl (by first | exact Or.inl rfl | exact Or.inr rfl)) pgs_nil))))
      (pss_cons (ps_set (i := 3) sc_brought.nd rfl (by first | exact Or.inl rfl | exact Or.inr rfl) (pe_call (ok_sum_of X) (hr.mono (by decide)) (by rfl) X.g_sum_of X.F_sum_of.kp (b_sum_of X) .nil pass0 (pa_cons (pe_lc (own := [("price", 6), ("share", 7)]) (g := (gTup (cfg K).K 2 (gCons (gName 6) (gCons (gName 7) gNil)))) (tt := tYes) (by rfl) sc_brought.nd (pi_zip (by rfl) X.f_zip (pa_cons (pv 4) (pa_cons (pv 1) pa_nil))) (blkOk_by (own := [("price", 6), ("share", 7)]) (N := ["prices", "first", "second", "gained", "here", "there", "price", "share"]) (sc := defScope s_brought) (by decide +kernel)) (fun _ _ _ _ _ => (pg_tup rfl (pgs_cons (pg_name (i := 6) sc_brought.nd rfl (by first | exact Or.inl rfl | exact Or.inr rfl)) (pgs_cons (pg_name (i := 7) sc_brought.nd rfl (by first | exact Or.inl rfl | exact Or.inr rfl)) pgs_nil)))) (fun _ _ _ _ _ => pts_nil) (fun _ _ _ _ _ => (pe_call (ok_times X) (hr.mono (by decide)) (by rfl) X.g_times X.F_times.kp (b_times X) .nil pass0 (pa_cons (pv 6) (pa_cons (pv 7) pa_nil))))) pa_nil)))
      (pss_one (ps_ret (pe_call (ok_minus X) (hr.mono (by decide)) (by rfl) X.g_minus X.F_minus.kp (b_minus X) .nil pass0 (pa_cons (pv 3) (pa_cons (pe_call (ok_sum_of X) (hr.mono (by decide)) (by rfl) X.g_sum_of X.F_sum_of.kp (b_sum_of X) .nil pass0 (pa_cons (pe_lc (own := [("price", 6), ("share", 7)]) (g := (gTup (cfg K).K 2 (gCons (gName 6) (gCons (gName 7) gNil)))) (tt := tYes) (by rfl) sc_brought.nd (pi_zip (by rfl) X.f_zip (pa_cons (pv 5) (pa_cons (pv 2) pa_nil))) (blkOk_by (own := [("price", 6), ("share", 7)]) (N := ["prices", "first", "second", "gained", "here", "there", "price", "share"]) (sc := defScope s_brought) (by decide +kernel)) (fun _ _ _ _ _ => (pg_tup rfl (pgs_cons (pg_name (i := 6) sc_brought.nd rfl (by first | exact Or.inl rfl | exact Or.inr rfl)) (pgs_cons (pg_name (i := 7) sc_brought.nd rfl (by first | exact Or.inl rfl | exact Or.inr rfl)) pgs_nil)))) (fun _ _ _ _ _ => pts_nil) (fun _ _ _ _ _ => (pe_call (ok_times X) (hr.mono (by decide)) (by rfl) X.g_times X.F_times.kp (b_times X) .nil pass0 (pa_cons (pv 6) (pa_cons (pv 7) pa_nil))))) pa_nil)) pa_nil)))))))
theorem b_multiple_of (X : Txt K mg) : Binds K (fdOf K (He.ga K "multiple_of")) ["shares"] [] := X.F_multiple_of.bindsN fun _ _ _ _ _ _ us hl => match us, hl with | [_], _ => rfl
theorem ok_multiple_of (X : Txt K mg) : FnOk P w K mg base CX0 2 (He.ga K "multiple_of") (fdOf K (He.ga K "multiple_of")) ["shares"] (spOf (cfg K) (pu (c_multiple_of (cfg K)))) := by
  refine X.F_multiple_of.ok sc_multiple_of (fun vs H Q E h => spOf_len len_multiple_of h) (fun cdv A outer s H vs Q E hr h => ⟨t_multiple_of (cfg K) E, PSs.nox ?_, fn_go (pure_multiple_of (sh_ok X)) vs H Q E h⟩)
  exact (pss_cons (ps_set (i := 1) sc_multiple_of.nd rfl (by first | exact Or.inl rfl | exact Or.inr rfl) pe_int)
      (pss_cons (ps_for PassesOwn.never rfl (pi_list (pv 0)) (pg_name (i := 2) sc_multiple_of.nd rfl (by first | exact Or.inl rfl | exact Or.inr rfl)) (pss_one (ps_set (i := 1) sc_multiple_of.nd rfl (by first | exact Or.inl rfl | exact Or.inr rfl) (pe_op op_mulO (pe_op op_fdivO (pv 1) (pe_call (ok_common X) (hr.mono (by decide)) (by rfl) X.g_common X.F_common.kp (b_common X) .nil pass0 (pa_cons (pv 1) (pa_cons (pe_fld (pv 2) rfl) pa_nil)))) (pe_fld (pv 2) rfl)))))
      (pss_one (ps_ret (pv 1)))))
theorem b_in_whole (X : Txt K mg) : Binds K (fdOf K (He.ga K "in_whole")) ["shares", "by"] [] := X.F_in_whole.bindsN fun _ _ _ _ _ _ us hl => match us, hl with | [_, _], _ => rfl
theorem ok_in_whole (X : Txt K mg) : FnOk P w K mg base CX0 1 (He.ga K "in_whole") (fdOf K (He.ga K "in_whole")) ["shares", "by"] (spOf (cfg K) (pu (c_in_whole (cfg K)))) := by
  refine X.F_in_whole.ok sc_in_whole (fun vs H Q E h => spOf_len len_in_whole h) (fun cdv A outer s H vs Q E hr h => ⟨t_in_whole (cfg K) E, PSs.nox ?_, fn_go (pure_in_whole (sh_ok X)) vs H Q E h⟩)
  exact (pss_one (ps_ret (pe_lc (own := [("share", 2)]) (g := (gName 2)) (tt := tYes) (by rfl) sc_in_whole.nd (pi_list (pv 0)) (blkOk_by (own := [("share", 2)]) (N := ["shares", "by", "share"]) (sc := defScope s_in_whole) (by decide +kernel)) (fun _ _ _ _ _ => (pg_name (i := 2) sc_in_whole.nd rfl (by first | exact Or.inl rfl | exact Or.inr rfl))) (fun _ _ _ _ _ => pts_nil) (fun _ _ _ _ _ => (pe_op op_mulO (pe_fld (pv 2) rfl) (pe_op op_fdivO (pv 1) (pe_fld (pv 2) rfl)))))))
theorem b_Carrying___init__ (X : Txt K mg) : Binds K (fdOf K (He.ma K (He.ga K "Carrying") "__init__")) ["self", "costs", "have", "want"] [] := X.F_Carrying___init__.bindsN fun _ _ _ _ _ _ us hl => match us, hl with | [_, _, _, _], _ => rfl
theorem ok_Carrying___init__ (X : Txt K mg) : FnOk P w K mg base CX0 1 (He.ma K (He.ga K "Carrying") "__init__") (fdOf K (He.ma K (He.ga K "Carrying") "__init__")) ["self", "costs", "have", "want"] (spOf (cfg K) (c_Carrying___init__ (cfg K))) := by
  refine X.F_Carrying___init__.ok sc_Carrying___init__ (fun vs H Q E h => spOf_len len_Carrying___init__ h) (fun cdv A outer s H vs Q E hr h => ⟨t_Carrying___init__ (cfg K) E, PSs.nox ?_, fn_go (pure_Carrying___init__ (ca_ok X)) vs H Q E h⟩)
  exact (pss_cons (ps_fld (pv 0) (pv 1) rfl)
      (pss_cons (ps_fld (pv 0) (pe_callTy call_dictD (by rfl) X.f_dict (by decide +kernel) (pa_cons (pv 2) pa_nil)) rfl)
      (pss_cons (ps_fld (pv 0) (pe_callTy call_dictD (by rfl) X.f_dict (by decide +kernel) (pa_cons (pv 3) pa_nil)) rfl)
      (pss_cons (ps_fld (pv 0) pe_dnewT rfl)
      (pss_one (ps_for PassesOwn.never rfl (pi_keys (pv 2)) (pg_name (i := 4) sc_Carrying___init__.nd rfl (by first | exact Or.inl rfl | exact Or.inr rfl)) (pss_one (ps_expr (pe_bm PySem.F.plainAttrs_dict PySem.F.slot_dict_update PySem.F.type_dict_update (mt_updT (hu1 hr)) (pe_fld (pv 0) rfl) (pa_cons (pe_callTy (call_dictT rfl hr.units) (by rfl) X.f_dict (by decide +kernel) (pa_cons (pe_lc (own := [("y", 5)]) (g := (gName 5)) (tt := tYes) (by rfl) sc_Carrying___init__.nd (pi_keys (pv 3)) (blkOk_by (own := [("y", 5)]) (N := ["self", "costs", "have", "want", "x", "y"]) (sc := defScope s_Carrying___init__) (by decide +kernel)) (fun _ _ _ _ _ => (pg_name (i := 5) sc_Carrying___init__.nd rfl (by first | exact Or.inl rfl | exact Or.inr rfl))) (fun _ _ _ _ _ => pts_nil) (fun _ _ _ _ _ => (pe_tup (pa_cons (pe_tup (pa_cons (pv 4) (pa_cons (pv 5) pa_nil))) (pa_cons pe_int pa_nil))))) pa_nil)) pa_nil))))))))))
theorem b_Carrying_ways_on (X : Txt K mg) : Binds K (fdOf K (He.ma K (He.ga K "Carrying") "ways_on")) ["self", "node"] [] := X.F_Carrying_ways_on.bindsN fun _ _ _ _ _ _ us hl => match us, hl with | [_, _], _ => rfl
theorem ok_Carrying_ways_on (X : Txt K mg) : FnOk P w K mg base CX0 1 (He.ma K (He.ga K "Carrying") "ways_on") (fdOf K (He.ma K (He.ga K "Carrying") "ways_on")) ["self", "node"] (spOf (cfg K) (c_Carrying_ways_on (cfg K))) := by
  refine X.F_Carrying_ways_on.ok sc_Carrying_ways_on (fun vs H Q E h => spOf_len len_Carrying_ways_on h) (fun cdv A outer s H vs Q E hr h => ⟨t_Carrying_ways_on (cfg K) E, PSs.nox ?_, fn_go (pure_Carrying_ways_on (ca_ok X)) vs H Q E h⟩)
  exact (pss_cons (ps_asg (pv 1) (pg_tup rfl (pgs_cons (pg_name (i := 2) sc_Carrying_ways_on.nd rfl (by first | exact Or.inl rfl | exact Or.inr rfl)) (pgs_cons (pg_name (i := 3) sc_Carrying_ways_on.nd rfl (by first | exact Or.inl rfl | exact Or.inr rfl)) pgs_nil))))
      (pss_cons (ps_if (pt_cmpR op_eq (pv 2) pe_int (nomark _)) (pss_one (ps_ret (pe_lock (pe_lc (own := [("y", 5)]) (g := (gName 5)) (tt := tYes) (by rfl) sc_Carrying_ways_on.nd (pi_keys (pe_fld (pv 0) rfl)) (blkOk_by (own := [("y", 5)]) (N := ["self", "node", "side", "at", "x", "y"]) (sc := defScope s_Carrying_ways_on) (by decide +kernel)) (fun _ _ _ _ _ => (pg_name (i := 5) sc_Carrying_ways_on.nd rfl (by first | exact Or.inl rfl | exact Or.inr rfl))) (fun _ _ _ _ _ => pts_nil) (fun _ _ _ _ _ => (pe_tup (pa_cons (pe_tup (pa_cons pe_int (pa_cons (pv 5) pa_nil))) (pa_cons (pe_ix ix_list (pe_ix ix_list (pe_fld (pv 0) rfl) (pv 3) (fun _ _ => rfl)) (pv 5) (fun _ _ => rfl)) pa_nil)))))))) pss_nil)
      (pss_one (ps_ret (pe_lock (pe_lc (own := [("x", 4)]) (g := (gName 4)) (tt := (tTest (tOp (rI0 fun i j => .bl (decide (j < i))) (tDGet (tFld (cfg K).K (tVar 0) "carried") (tTup (tCons (tVar 4) (tCons (tVar 3) tNil)))) (tC (.int 0))))) (by rfl) sc_Carrying_ways_on.nd (pi_keys (pe_fld (pv 0) rfl)) (blkOk_by (own := [("x", 4)]) (N := ["self", "node", "side", "at", "x", "y"]) (sc := defScope s_Carrying_ways_on) (by decide +kernel)) (fun _ _ _ _ _ => (pg_name (i := 4) sc_Carrying_ways_on.nd rfl (by first | exact Or.inl rfl | exact Or.inr rfl))) (fun _ _ _ _ _ => (pts_one (pt_cmpR op_gt (pe_dget (hu1 hr) (pe_fld (pv 0) rfl) (pe_tup (pa_cons (pv 4) (pa_cons (pv 3) pa_nil))) (fun _ _ => rfl)) pe_int (nomark _)))) (fun _ _ _ _ _ => (pe_tup (pa_cons (pe_tup (pa_cons pe_int (pa_cons (pv 4) pa_nil))) (pa_cons (pe_op op_sub pe_int (pe_ix ix_list (pe_ix ix_list (pe_fld (pv 0) rfl) (pv 4) (fun _ _ => rfl)) (pv 3) (fun _ _ => rfl))) pa_nil))))))))))
theorem b_Carrying_led_from (X : Txt K mg) : Binds K (fdOf K (He.ma K (He.ga K "Carrying") "led_from")) ["self", "begins"] [] := X.F_Carrying_led_from.bindsN fun _ _ _ _ _ _ us hl => match us, hl with | [_, _], _ => rfl
theorem ok_Carrying_led_from (X : Txt K mg) : FnOk P w K mg base CX0 2 (He.ma K (He.ga K "Carrying") "led_from") (fdOf K (He.ma K (He.ga K "Carrying") "led_from")) ["self", "begins"] (spOf (cfg K) (c_Carrying_led_from (cfg K))) := by
  refine X.F_Carrying_led_from.ok sc_Carrying_led_from (fun vs H Q E h => spOf_len len_Carrying_led_from h) (fun cdv A outer s H vs Q E hr h => ⟨t_Carrying_led_from (cfg K) E, PSs.nox ?_, fn_go (pure_Carrying_led_from (ca_ok X)) vs H Q E h⟩)
  exact (pss_cons (ps_set (i := 2) sc_Carrying_led_from.nd rfl (by first | exact Or.inl rfl | exact Or.inr rfl) (pe_callTy (call_dictTM rfl hr.units) (by rfl) X.f_dict (by decide +kernel) (pa_cons (pe_lc (own := [("node", 5)]) (g := (gName 5)) (tt := tYes) (by rfl) sc_Carrying_led_from.nd (pi_list (pv 1)) (blkOk_by (own := [("node", 5)]) (N := ["self", "begins", "found", "ahead", "waiting", "node", "to", "cost"]) (sc := defScope s_Carrying_led_from) (by decide +kernel)) (fun _ _ _ _ _ => (pg_name (i := 5) sc_Carrying_led_from.nd rfl (by first | exact Or.inl rfl | exact Or.inr rfl))) (fun _ _ _ _ _ => pts_nil) (fun _ _ _ _ _ => (pe_tup (pa_cons (pv 5) (pa_cons pe_int pa_nil))))) pa_nil)))
      (pss_cons (ps_set (i := 3) sc_Carrying_led_from.nd rfl (by first | exact Or.inl rfl | exact Or.inr rfl) pe_dnewT)
      (pss_cons (ps_set (i := 4) sc_Carrying_led_from.nd rfl (by first | exact Or.inl rfl | exact Or.inr rfl) (pe_callTy call_list_of (by rfl) X.f_list (by decide +kernel) (pa_cons (pv 1) pa_nil)))
      (pss_cons (ps_while PassesOwn.never (pt_cmpR (op_neD hr.units) (pv 4) (pe_lst pa_nil) (nomark _)) (pss_cons (ps_set (i := 5) sc_Carrying_led_from.nd rfl (by first | exact Or.inl rfl | exact Or.inr rfl) (pe_bm PySem.F.plainAttrs_list PySem.F.slot_list_pop PySem.F.type_list_pop mt_popAt (pv 4) (pa_cons pe_int pa_nil)))
      (pss_one (ps_for PassesOwn.never rfl (pi_list (pe_meth (pv 0) X.cl_Carrying X.m_Carryingways_on (ok_Carrying_ways_on X) (hr.mono (by decide)) (b_Carrying_ways_on X) .nil pass0 (pa_cons (pv 5) pa_nil))) (pg_tup rfl (pgs_cons (pg_name (i := 6) sc_Carrying_led_from.nd rfl (by first | exact Or.inl rfl | exact Or.inr rfl)) (pgs_cons (pg_name (i := 7) sc_Carrying_led_from.nd rfl (by first | exact Or.inl rfl | exact Or.inr rfl)) pgs_nil))) (pss_one (ps_if (PW.pt (pw_or (pt_cmp (pc_dnotin (hu1 hr) (pv 6) (pv 2))) (pw_or1 (pt_cmpR op_lt (pe_op op_add (pe_dget (hu1 hr) (pv 2) (pv 5) (fun _ _ => rfl)) (pv 7)) (pe_dget (hu1 hr) (pv 2) (pv 6) (fun _ _ => rfl)) (nomark _))))) (pss_cons (ps_dput (hu1 hr) (pv 2) (pv 6) (pe_op op_add (pe_dget (hu1 hr) (pv 2) (pv 5) (fun _ _ => rfl)) (pv 7)) (by rfl))
      (pss_cons (ps_dput (hu1 hr) (pv 3) (pv 6) (pv 5) (by rfl))
      (pss_one (ps_if (pt_cmpR (op_notInD hr.units) (pv 6) (pv 4) (by rfl)) (pss_one (ps_expr (pe_bm PySem.F.plainAttrs_list PySem.F.slot_list_append PySem.F.type_list_append mt_append (pv 4) (pa_cons (pv 6) pa_nil)))) pss_nil)))) pss_nil))))))
      (pss_one (ps_ret (pe_tup (pa_cons (pv 2) (pa_cons (pv 3) pa_nil)))))))))
theorem b_Carrying_carry_on (X : Txt K mg) : Binds K (fdOf K (He.ma K (He.ga K "Carrying") "carry_on")) ["self"] [] := X.F_Carrying_carry_on.bindsN fun _ _ _ _ _ _ us hl => match us, hl with | [_], _ => rfl
theorem ok_Carrying_carry_on (X : Txt K mg) : FnOk P w K mg base CX0 3 (He.ma K (He.ga K "Carrying") "carry_on") (fdOf K (He.ma K (He.ga K "Carrying") "carry_on")) ["self"] (spOf (cfg K) (c_Carrying_carry_on (cfg K))) := by
  refine X.F_Carrying_carry_on.ok sc_Carrying_carry_on (fun vs H Q E h => spOf_len len_Carrying_carry_on h) (fun cdv A outer s H vs Q E hr h => ⟨t_Carrying_carry_on (cfg K) E, PSs.nox ?_, fn_go (pure_Carrying_carry_on (ca_ok X)) vs H Q E h⟩)
  exact (pss_cons (ps_asg (pe_meth (pv 0) X.cl_Carrying X.m_Carryingled_from (ok_Carrying_led_from X) (hr.mono (by decide)) (b_Carrying_led_from X) .nil pass0 (pa_cons (pe_lock (pe_lc (own := [("x", 14)]) (g := (gName 14)) (tt := (tTest (tOp (rI0 fun i j => .bl (decide (j < i))) (tDGet (tFld (cfg K).K (tVar 0) "have") (tVar 14)) (tC (.int 0))))) (by rfl) sc_Carrying_carry_on.nd (pi_keys (pe_fld (pv 0) rfl)) (blkOk_by (own := [("x", 14)]) (N := ["self", "ends", "row", "begin", "steps", "back", "amount", "found", "ahead", "least", "end", "node", "to", "y", "x"]) (sc := defScope s_Carrying_carry_on) (by decide +kernel)) (fun _ _ _ _ _ => (pg_name (i := 14) sc_Carrying_carry_on.nd rfl (by first | exact Or.inl rfl | exact Or.inr rfl))) (fun _ _ _ _ _ => (pts_one (pt_cmpR op_gt (pe_dget (hu1 hr) (pe_fld (pv 0) rfl) (pv 14) (fun _ _ => rfl)) pe_int (nomark _)))) (fun _ _ _ _ _ => (pe_tup (pa_cons pe_int (pa_cons (pv 14) pa_nil)))))) pa_nil)) (pg_tup rfl (pgs_cons (pg_name (i := 7) sc_Carrying_carry_on.nd rfl (by first | exact Or.inl rfl | exact Or.inr rfl)) (pgs_cons (pg_name (i := 8) sc_Carrying_carry_on.nd rfl (by first | exact Or.inl rfl | exact Or.inr rfl)) pgs_nil))))
      (pss_cons (ps_lock (ps_setLc (i := 1) (own := [("y", 13)]) (g := (gName 13)) (tt := (tTest (tOp (rI0 fun i j => .bl (decide (j < i))) (tDGet (tFld (cfg K).K (tVar 0) "want") (tVar 13)) (tC (.int 0))))) (by rfl) sc_Carrying_carry_on.nd rfl rfl (sw_true rfl rfl rfl (by decide +kernel)) (pi_keys (pe_fld (pv 0) rfl)) (blkOk_by (own := [("y", 13)]) (N := ["self", "ends", "row", "begin", "steps", "back", "amount", "found", "ahead", "least", "end", "node", "to", "y", "x"]) (sc := defScope s_Carrying_carry_on) (by decide +kernel)) (fun _ _ _ _ _ => (pg_name (i := 13) sc_Carrying_carry_on.nd rfl (by first | exact Or.inl rfl | exact Or.inr rfl))) (fun _ _ _ _ _ => (pts_one (pt_cmpR op_gt (pe_dget (hu1 hr) (pe_fld (pv 0) rfl) (pv 13) (fun _ _ => rfl)) pe_int (nomark _)))) (fun _ _ _ _ _ => (pe_tup (pa_cons (pe_dget (hu1 hr) (pv 7) (pe_tup (pa_cons pe_int (pa_cons (pv 13) pa_nil))) (fun _ _ => rfl)) (pa_cons (pv 13) pa_nil))))))
      (pss_cons (ps_asg (pe_callB (cr_minD rfl hr.units) (by rfl) X.f_min (by decide +kernel) (pa_cons (pv 1) pa_nil)) (pg_tup rfl (pgs_cons (pg_name (i := 9) sc_Carrying_carry_on.nd rfl (by first | exact Or.inl rfl | exact Or.inr rfl)) (pgs_cons (pg_name (i := 10) sc_Carrying_carry_on.nd rfl (by first | exact Or.inl rfl | exact Or.inr rfl)) pgs_nil))))
      (pss_cons (ps_set (i := 2) sc_Carrying_carry_on.nd rfl (by first | exact Or.inl rfl | exact Or.inr rfl) (pe_lst (pa_cons (pe_tup (pa_cons pe_int (pa_cons (pv 10) pa_nil))) pa_nil)))
      (pss_cons (ps_while PassesOwn.never (pt_cmp (pc_din (hu1 hr) (pe_ix ix_list (pv 2) (pe_un un_neg pe_int) (fun _ _ => rfl)) (pv 8))) (pss_one (ps_expr (pe_bm PySem.F.plainAttrs_list PySem.F.slot_list_append PySem.F.type_list_append mt_append (pv 2) (pa_cons (pe_dget (hu1 hr) (pv 8) (pe_ix ix_list (pv 2) (pe_un un_neg pe_int) (fun _ _ => rfl)) (fun _ _ => rfl)) pa_nil)))))
      (pss_cons (ps_set (i := 3) sc_Carrying_carry_on.nd rfl (by first | exact Or.inl rfl | exact Or.inr rfl) (pe_ix ix_tup (pe_ix ix_list (pv 2) (pe_un un_neg pe_int) (fun _ _ => rfl)) pe_int (fun _ _ => rfl)))
      (pss_cons (ps_set (i := 4) sc_Carrying_carry_on.nd rfl (by first | exact Or.inl rfl | exact Or.inr rfl) (pe_lz (by rfl) (by rfl) X.f_list (by rfl) X.f_zip (pa_cons (pe_slice sl_list (pv 2) (po_some pe_int) po_none) (pa_cons (pv 2) pa_nil))))
      (pss_cons (ps_setLc (i := 5) (own := [("node", 11), ("to", 12)]) (g := (gTup (cfg K).K 2 (gCons (gName 11) (gCons (gName 12) gNil)))) (tt := (tTest (tOp rEq (tOp (rIxT (cfg K).K) (tVar 11) (tC (.int 0))) (tC (.int 1))))) (by rfl) sc_Carrying_carry_on.nd rfl rfl (sw_true rfl rfl rfl (by decide +kernel)) (pi_list (pv 4)) (blkOk_by (own := [("node", 11), ("to", 12)]) (N := ["self", "ends", "row", "begin", "steps", "back", "amount", "found", "ahead", "least", "end", "node", "to", "y", "x"]) (sc := defScope s_Carrying_carry_on) (by decide +kernel)) (fun _ _ _ _ _ => (pg_tup rfl (pgs_cons (pg_name (i := 11) sc_Carrying_carry_on.nd rfl (by first | exact Or.inl rfl | exact Or.inr rfl)) (pgs_cons (pg_name (i := 12) sc_Carrying_carry_on.nd rfl (by first | exact Or.inl rfl | exact Or.inr rfl)) pgs_nil)))) (fun _ _ _ _ _ => (pts_one (pt_cmpR op_eq (pe_ix ix_tup (pv 11) pe_int (fun _ _ => rfl)) pe_int (nomark _)))) (fun _ _ _ _ _ => (pe_dget (hu1 hr) (pe_fld (pv 0) rfl) (pe_tup (pa_cons (pe_ix ix_tup (pv 12) pe_int (fun _ _ => rfl)) (pa_cons (pe_ix ix_tup (pv 11) pe_int (fun _ _ => rfl)) pa_nil))) (fun _ _ => rfl))))
      (pss_cons (ps_set (i := 6) sc_Carrying_carry_on.nd rfl (by first | exact Or.inl rfl | exact Or.inr rfl) (pe_callB (cr_min rfl) (by rfl) X.f_min (by decide +kernel) (pa_cons (pe_op op_cat (pe_lst (pa_cons (pe_dget (hu1 hr) (pe_fld (pv 0) rfl) (pv 3) (fun _ _ => rfl)) (pa_cons (pe_dget (hu1 hr) (pe_fld (pv 0) rfl) (pv 10) (fun _ _ => rfl)) pa_nil))) (pv 5)) pa_nil)))
      (pss_cons (ps_for PassesOwn.never rfl (pi_list (pv 4)) (pg_tup rfl (pgs_cons (pg_name (i := 11) sc_Carrying_carry_on.nd rfl (by first | exact Or.inl rfl | exact Or.inr rfl)) (pgs_cons (pg_name (i := 12) sc_Carrying_carry_on.nd rfl (by first | exact Or.inl rfl | exact Or.inr rfl)) pgs_nil))) (pss_one (ps_if (pt_cmpR op_eq (pe_ix ix_tup (pv 11) pe_int (fun _ _ => rfl)) pe_int (nomark _)) (pss_one (ps_daug (hu1 hr) (pe_fld (pv 0) rfl) (pe_tup (pa_cons (pe_ix ix_tup (pv 11) pe_int (fun _ _ => rfl)) (pa_cons (pe_ix ix_tup (pv 12) pe_int (fun _ _ => rfl)) pa_nil))) (pv 6) in_add (fun _ _ _ => by rfl))) (pss_one (ps_daug (hu1 hr) (pe_fld (pv 0) rfl) (pe_tup (pa_cons (pe_ix ix_tup (pv 12) pe_int (fun _ _ => rfl)) (pa_cons (pe_ix ix_tup (pv 11) pe_int (fun _ _ => rfl)) pa_nil))) (pv 6) in_sub (fun _ _ _ => by rfl))))))
      (pss_cons (ps_daug (hu1 hr) (pe_fld (pv 0) rfl) (pv 3) (pv 6) in_sub (fun _ _ _ => by rfl))
      (pss_one (ps_daug (hu1 hr) (pe_fld (pv 0) rfl) (pv 10) (pv 6) in_sub (fun _ _ _ => by rfl))))))))))))))
theorem b_Carrying_carry_all (X : Txt K mg) : Binds K (fdOf K (He.ma K (He.ga K "Carrying") "carry_all")) ["self"] [] := X.F_Carrying_carry_all.bindsN fun _ _ _ _ _ _ us hl => match us, hl with | [_], _ => rfl
theorem ok_Carrying_carry_all (X : Txt K mg) : FnOk P w K mg base CX0 4 (He.ma K (He.ga K "Carrying") "carry_all") (fdOf K (He.ma K (He.ga K "Carrying") "carry_all")) ["self"] (spOf (cfg K) (c_Carrying_carry_all (cfg K))) := by
  refine X.F_Carrying_carry_all.ok sc_Carrying_carry_all (fun vs H Q E h => spOf_len len_Carrying_carry_all h) (fun cdv A outer s H vs Q E hr h => ⟨t_Carrying_carry_all (cfg K) E, PSs.nox ?_, fn_go (pure_Carrying_carry_all (ca_ok X)) vs H Q E h⟩)
  exact (pss_one (ps_while PassesOwn.never (pt_val (pe_callB (cr_any rfl) (by rfl) X.f_any (by decide +kernel) (pa_cons (pe_lock (pe_lc (own := [("amount", 1)]) (g := (gName 1)) (tt := tYes) (by rfl) sc_Carrying_carry_all.nd (pi_values (pe_fld (pv 0) rfl)) (blkOk_by (own := [("amount", 1)]) (N := ["self", "amount"]) (sc := defScope s_Carrying_carry_all) (by decide +kernel)) (fun _ _ _ _ _ => (pg_name (i := 1) sc_Carrying_carry_all.nd rfl (by first | exact Or.inl rfl | exact Or.inr rfl))) (fun _ _ _ _ _ => pts_nil) (fun _ _ _ _ _ => (pe_cmpR op_gt (pv 1) pe_int (nomark _))))) pa_nil))) (pss_one (ps_expr (pe_meth0 (pv 0) X.cl_Carrying X.m_Carryingcarry_on (ok_Carrying_carry_on X) (hr.mono (by decide)) (b_Carrying_carry_on X) .nil pass0)))))
theorem b_Carrying_prices (X : Txt K mg) : Binds K (fdOf K (He.ma K (He.ga K "Carrying") "prices")) ["self"] [] := X.F_Carrying_prices.bindsN fun _ _ _ _ _ _ us hl => match us, hl with | [_], _ => rfl
theorem ok_Carrying_prices (X : Txt K mg) : FnOk P w K mg base CX0 3 (He.ma K (He.ga K "Carrying") "prices") (fdOf K (He.ma K (He.ga K "Carrying") "prices")) ["self"] (spOf (cfg K) (c_Carrying_prices (cfg K))) := by
  refine X.F_Carrying_prices.ok sc_Carrying_prices (fun vs H Q E h => spOf_len len_Carrying_prices h) (fun cdv A outer s H vs Q E hr h => ⟨t_Carrying_prices (cfg K) E, PSs.nox ?_, fn_go (pure_Carrying_prices (ca_ok X)) vs H Q E h⟩)
  exact (pss_cons (ps_asg (pe_meth (pv 0) X.cl_Carrying X.m_Carryingled_from (ok_Carrying_led_from X) (hr.mono (by decide)) (b_Carrying_led_from X) .nil pass0 (pa_cons (pe_op op_cat (pe_lock (pe_lc (own := [("x", 4)]) (g := (gName 4)) (tt := tYes) (by rfl) sc_Carrying_prices.nd (pi_keys (pe_fld (pv 0) rfl)) (blkOk_by (own := [("x", 4)]) (N := ["self", "here", "found", "ahead", "x", "y"]) (sc := defScope s_Carrying_prices) (by decide +kernel)) (fun _ _ _ _ _ => (pg_name (i := 4) sc_Carrying_prices.nd rfl (by first | exact Or.inl rfl | exact Or.inr rfl))) (fun _ _ _ _ _ => pts_nil) (fun _ _ _ _ _ => (pe_tup (pa_cons pe_int (pa_cons (pv 4) pa_nil)))))) (pe_lock (pe_lc (own := [("y", 5)]) (g := (gName 5)) (tt := tYes) (by rfl) sc_Carrying_prices.nd (pi_keys (pe_fld (pv 0) rfl)) (blkOk_by (own := [("y", 5)]) (N := ["self", "here", "found", "ahead", "x", "y"]) (sc := defScope s_Carrying_prices) (by decide +kernel)) (fun _ _ _ _ _ => (pg_name (i := 5) sc_Carrying_prices.nd rfl (by first | exact Or.inl rfl | exact Or.inr rfl))) (fun _ _ _ _ _ => pts_nil) (fun _ _ _ _ _ => (pe_tup (pa_cons pe_int (pa_cons (pv 5) pa_nil))))))) pa_nil)) (pg_tup rfl (pgs_cons (pg_name (i := 2) sc_Carrying_prices.nd rfl (by first | exact Or.inl rfl | exact Or.inr rfl)) (pgs_cons (pg_name (i := 3) sc_Carrying_prices.nd rfl (by first | exact Or.inl rfl | exact Or.inr rfl)) pgs_nil))))
      (pss_cons (ps_set (i := 1) sc_Carrying_prices.nd rfl (by first | exact Or.inl rfl | exact Or.inr rfl) (pe_lk (pe_callTy (call_dictP rfl) (by rfl) X.f_dict (by decide +kernel) (pa_cons (pe_lock (pe_lc (own := [("x", 4)]) (g := (gName 4)) (tt := tYes) (by rfl) sc_Carrying_prices.nd (pi_keys (pe_fld (pv 0) rfl)) (blkOk_by (own := [("x", 4)]) (N := ["self", "here", "found", "ahead", "x", "y"]) (sc := defScope s_Carrying_prices) (by decide +kernel)) (fun _ _ _ _ _ => (pg_name (i := 4) sc_Carrying_prices.nd rfl (by first | exact Or.inl rfl | exact Or.inr rfl))) (fun _ _ _ _ _ => pts_nil) (fun _ _ _ _ _ => (pe_tup (pa_cons (pv 4) (pa_cons (pe_op op_sub pe_int (pe_dget (hu1 hr) (pv 2) (pe_tup (pa_cons pe_int (pa_cons (pv 4) pa_nil))) (fun _ _ => rfl))) pa_nil)))))) pa_nil))))
      (pss_one (ps_ret (pe_tup (pa_cons (pv 1) (pa_cons (pe_callTy (call_dictP rfl) (by rfl) X.f_dict (by decide +kernel) (pa_cons (pe_lock (pe_lc (own := [("y", 5)]) (g := (gName 5)) (tt := tYes) (by rfl) sc_Carrying_prices.nd (pi_keys (pe_fld (pv 0) rfl)) (blkOk_by (own := [("y", 5)]) (N := ["self", "here", "found", "ahead", "x", "y"]) (sc := defScope s_Carrying_prices) (by decide +kernel)) (fun _ _ _ _ _ => (pg_name (i := 5) sc_Carrying_prices.nd rfl (by first | exact Or.inl rfl | exact Or.inr rfl))) (fun _ _ _ _ _ => pts_nil) (fun _ _ _ _ _ => (pe_tup (pa_cons (pv 5) (pa_cons (pe_op op_sub pe_int (pe_dget (hu1 hr) (pv 2) (pe_tup (pa_cons pe_int (pa_cons (pv 5) pa_nil))) (fun _ _ => rfl))) pa_nil)))))) pa_nil)) pa_nil)))))))
theorem b_all_prices (X : Txt K mg) : Binds K (fdOf K (He.ga K "all_prices")) ["costs", "here", "there"] [] := X.F_all_prices.bindsN fun _ _ _ _ _ _ us hl => match us, hl with | [_, _, _], _ => rfl
theorem ok_all_prices (X : Txt K mg) : FnOk P w K mg base CX0 1 (He.ga K "all_prices") (fdOf K (He.ga K "all_prices")) ["costs", "here", "there"] (spOf (cfg K) (c_all_prices (cfg K))) := by
  refine X.F_all_prices.ok sc_all_prices (fun vs H Q E h => spOf_len len_all_prices h) (fun cdv A outer s H vs Q E hr h => ⟨t_all_prices (cfg K) E, PSs.nox ?_, fn_go (pure_all_prices (sh_ok X)) vs H Q E h⟩)
  exact (pss_cons (ps_for PassesOwn.never rfl (pi_range1 (by rfl) X.f_range (pa_cons (pe_callB call_len (by rfl) X.f_len (by decide +kernel) (pa_cons (pe_ix ix_list (pv 0) pe_int (fun _ _ => rfl)) pa_nil)) pa_nil)) (pg_name (i := 3) sc_all_prices.nd rfl (by first | exact Or.inl rfl | exact Or.inr rfl)) (pss_one (ps_if (pt_cmp (pc_dnotin (hu1 hr) (pv 3) (pv 2))) (pss_one (ps_dput (hu1 hr) (pv 2) (pv 3) (pe_callB (cr_max rfl) (by rfl) X.f_max (by decide +kernel) (pa_cons (pe_lc (own := [("x", 5)]) (g := (gName 5)) (tt := tYes) (by rfl) sc_all_prices.nd (pi_keys (pv 1)) (blkOk_by (own := [("x", 5)]) (N := ["costs", "here", "there", "y", "some", "x", "row", "cost"]) (sc := defScope s_all_prices) (by decide +kernel)) (fun _ _ _ _ _ => (pg_name (i := 5) sc_all_prices.nd rfl (by first | exact Or.inl rfl | exact Or.inr rfl))) (fun _ _ _ _ _ => pts_nil) (fun _ _ _ _ _ => (pe_op op_sub (pe_dget (hu1 hr) (pv 1) (pv 5) (fun _ _ => rfl)) (pe_ix ix_list (pe_ix ix_list (pv 0) (pv 5) (fun _ _ => rfl)) (pv 3) (fun _ _ => rfl))))) pa_nil)) (by rfl))) pss_nil)))
      (pss_cons (ps_set (i := 4) sc_all_prices.nd rfl (by first | exact Or.inl rfl | exact Or.inr rfl) (pe_callTy call_dictD (by rfl) X.f_dict (by decide +kernel) (pa_cons (pv 1) pa_nil)))
      (pss_cons (ps_for PassesOwn.never rfl (pi_enum (by rfl) X.f_enumerate (pa_cons (pv 0) pa_nil)) (pg_tup rfl (pgs_cons (pg_name (i := 5) sc_all_prices.nd rfl (by first | exact Or.inl rfl | exact Or.inr rfl)) (pgs_cons (pg_name (i := 6) sc_all_prices.nd rfl (by first | exact Or.inl rfl | exact Or.inr rfl)) pgs_nil))) (pss_one (ps_if (pt_cmp (pc_dnotin (hu1 hr) (pv 5) (pv 1))) (pss_one (ps_dput (hu1 hr) (pv 4) (pv 5) (pe_callB (cr_min rfl) (by rfl) X.f_min (by decide +kernel) (pa_cons (pe_lc (own := [("y", 3), ("cost", 7)]) (g := (gTup (cfg K).K 2 (gCons (gName 3) (gCons (gName 7) gNil)))) (tt := tYes) (by rfl) sc_all_prices.nd (pi_enum (by rfl) X.f_enumerate (pa_cons (pv 6) pa_nil)) (blkOk_by (own := [("y", 3), ("cost", 7)]) (N := ["costs", "here", "there", "y", "some", "x", "row", "cost"]) (sc := defScope s_all_prices) (by decide +kernel)) (fun _ _ _ _ _ => (pg_tup rfl (pgs_cons (pg_name (i := 3) sc_all_prices.nd rfl (by first | exact Or.inl rfl | exact Or.inr rfl)) (pgs_cons (pg_name (i := 7) sc_all_prices.nd rfl (by first | exact Or.inl rfl | exact Or.inr rfl)) pgs_nil)))) (fun _ _ _ _ _ => pts_nil) (fun _ _ _ _ _ => (pe_op op_add (pv 7) (pe_dget (hu1 hr) (pv 2) (pv 3) (fun _ _ => rfl))))) pa_nil)) (by rfl))) pss_nil)))
      (pss_one (ps_ret (pe_tup (pa_cons (pe_lc (own := [("x", 5)]) (g := (gName 5)) (tt := tYes) (by rfl) sc_all_prices.nd (pi_range1 (by rfl) X.f_range (pa_cons (pe_callB call_len (by rfl) X.f_len (by decide +kernel) (pa_cons (pv 0) pa_nil)) pa_nil)) (blkOk_by (own := [("x", 5)]) (N := ["costs", "here", "there", "y", "some", "x", "row", "cost"]) (sc := defScope s_all_prices) (by decide +kernel)) (fun _ _ _ _ _ => (pg_name (i := 5) sc_all_prices.nd rfl (by first | exact Or.inl rfl | exact Or.inr rfl))) (fun _ _ _ _ _ => pts_nil) (fun _ _ _ _ _ => (pe_dget (hu1 hr) (pv 4) (pv 5) (fun _ _ => rfl)))) (pa_cons (pe_lc (own := [("y", 3)]) (g := (gName 3)) (tt := tYes) (by rfl) sc_all_prices.nd (pi_range1 (by rfl) X.f_range (pa_cons (pe_callB call_len (by rfl) X.f_len (by decide +kernel) (pa_cons (pe_ix ix_list (pv 0) pe_int (fun _ _ => rfl)) pa_nil)) pa_nil)) (blkOk_by (own := [("y", 3)]) (N := ["costs", "here", "there", "y", "some", "x", "row", "cost"]) (sc := defScope s_all_prices) (by decide +kernel)) (fun _ _ _ _ _ => (pg_name (i := 3) sc_all_prices.nd rfl (by first | exact Or.inl rfl | exact Or.inr rfl))) (fun _ _ _ _ _ => pts_nil) (fun _ _ _ _ _ => (pe_dget (hu1 hr) (pv 2) (pv 3) (fun _ _ => rfl)))) pa_nil))))))))
theorem b_check_carrying (X : Txt K mg) : Binds K (fdOf K (He.ga K "check_carrying")) ["costs", "first", "second"] [] := X.F_check_carrying.bindsN fun _ _ _ _ _ _ us hl => match us, hl with | [_, _, _], _ => rfl
theorem ok_check_carrying (X : Txt K mg) : FnOk P w K mg base CX0 7 (He.ga K "check_carrying") (fdOf K (He.ga K "check_carrying")) ["costs", "first", "second"] (spOf (cfg K) (pu (c_check_carrying (cfg K)))) := by
  refine X.F_check_carrying.ok sc_check_carrying (fun vs H Q E h => spOf_len len_check_carrying h) (fun cdv A outer s H vs Q E hr h => ⟨t_check_carrying (cfg K) E, PSs.nox ?_, fn_go (pure_check_carrying (sh_ok X)) vs H Q E h⟩)
  exact (pss_cons (ps_if (PW.pt (pw_or (pt_not (pt_val (pe_call (ok_is_heap X) (hr.mono (by decide)) (by rfl) X.g_is_heap X.F_is_heap.kp (b_is_heap X) .nil pass0 (pa_cons (pv 1) pa_nil)))) (pw_or1 (pt_not (pt_val (pe_call (ok_is_heap X) (hr.mono (by decide)) (by rfl) X.g_is_heap X.F_is_heap.kp (b_is_heap X) .nil pass0 (pa_cons (pv 2) pa_nil))))))) (pss_one ps_nev) pss_nil)
      (pss_one (ps_if (pt_not (pt_val (pe_call (ok_are_rows X) (hr.mono (by decide)) (by rfl) X.g_are_rows X.F_are_rows.kp (b_are_rows X) .nil pass0 (pa_cons (pv 0) (pa_cons (pe_callB call_len (by rfl) X.f_len (by decide +kernel) (pa_cons (pv 1) pa_nil)) (pa_cons (pe_callB call_len (by rfl) X.f_len (by decide +kernel) (pa_cons (pv 2) pa_nil)) pa_nil)))))) (pss_one ps_nev) pss_nil)))
theorem b_cheapestN (X : Txt K mg) : Binds K (fdOf K (He.ga K "cheapest")) ["costs", "first", "second"] [] := X.F_cheapestN.bindsN fun _ _ _ _ _ _ us hl => match us, hl with | [_, _, _], _ => rfl
theorem ok_cheapestN (X : Txt K mg) : FnOk P w K mg base CX0 8 (He.ga K "cheapest") (fdOf K (He.ga K "cheapest")) ["costs", "first", "second"] (spOf (cfg K) (c_cheapestN (cfg K))) := by
  obtain ⟨dsShare2, hdShare2, bdShare2⟩ := b_Share___init___2 X
  refine X.F_cheapestN.ok sc_cheapestN (fun vs H Q E h => spOf_len len_cheapestN h) (fun cdv A outer s H vs Q E hr h => ⟨t_cheapestN (cfg K) E, PSs.nox ?_, fn_go (pure_cheapestN (ca_ok X)) vs H Q E h⟩)
  exact (pss_cons (ps_expr (pe_call (ok_check_carrying X) (hr.mono (by decide)) (by rfl) X.g_check_carrying X.F_check_carrying.kp (b_check_carrying X) .nil pass0 (pa_cons (pv 0) (pa_cons (pv 1) (pa_cons (pv 2) pa_nil)))))
      (pss_cons (ps_set (i := 3) sc_cheapestN.nd rfl (by first | exact Or.inl rfl | exact Or.inr rfl) (pe_call (ok_multiple_of X) (hr.mono (by decide)) (by rfl) X.g_multiple_of X.F_multiple_of.kp (b_multiple_of X) .nil pass0 (pa_cons (pe_op op_cat (pv 1) (pv 2)) pa_nil)))
      (pss_cons (ps_set (i := 4) sc_cheapestN.nd rfl (by first | exact Or.inl rfl | exact Or.inr rfl) (pe_lk (pe_callTy (call_dictP rfl) (by rfl) X.f_dict (by decide +kernel) (pa_cons (pe_lc (own := [("x", 15), ("amount", 18)]) (g := (gTup (cfg K).K 2 (gCons (gName 15) (gCons (gName 18) gNil)))) (tt := (tTest (tOp (rI0 fun i j => .bl (decide (j < i))) (tVar 18) (tC (.int 0))))) (by rfl) sc_cheapestN.nd (pi_enum (by rfl) X.f_enumerate (pa_cons (pe_call (ok_in_whole X) (hr.mono (by decide)) (by rfl) X.g_in_whole X.F_in_whole.kp (b_in_whole X) .nil pass0 (pa_cons (pv 1) (pa_cons (pv 3) pa_nil))) pa_nil)) (blkOk_by (own := [("x", 15), ("amount", 18)]) (N := ["costs", "first", "second", "by", "have", "want", "scale", "row", "whole", "carrying", "priced", "plan", "prices", "here", "there", "x", "y", "some", "amount", "price"]) (sc := defScope s_cheapestN) (by decide +kernel)) (fun _ _ _ _ _ => (pg_tup rfl (pgs_cons (pg_name (i := 15) sc_cheapestN.nd rfl (by first | exact Or.inl rfl | exact Or.inr rfl)) (pgs_cons (pg_name (i := 18) sc_cheapestN.nd rfl (by first | exact Or.inl rfl | exact Or.inr rfl)) pgs_nil)))) (fun _ _ _ _ _ => (pts_one (pt_cmpR op_gt (pv 18) pe_int (nomark _)))) (fun _ _ _ _ _ => (pe_tup (pa_cons (pv 15) (pa_cons (pv 18) pa_nil))))) pa_nil))))
      (pss_cons (ps_set (i := 5) sc_cheapestN.nd rfl (by first | exact Or.inl rfl | exact Or.inr rfl) (pe_lk (pe_callTy (call_dictP rfl) (by rfl) X.f_dict (by decide +kernel) (pa_cons (pe_lc (own := [("y", 16), ("amount", 18)]) (g := (gTup (cfg K).K 2 (gCons (gName 16) (gCons (gName 18) gNil)))) (tt := (tTest (tOp (rI0 fun i j => .bl (decide (j < i))) (tVar 18) (tC (.int 0))))) (by rfl) sc_cheapestN.nd (pi_enum (by rfl) X.f_enumerate (pa_cons (pe_call (ok_in_whole X) (hr.mono (by decide)) (by rfl) X.g_in_whole X.F_in_whole.kp (b_in_whole X) .nil pass0 (pa_cons (pv 2) (pa_cons (pv 3) pa_nil))) pa_nil)) (blkOk_by (own := [("y", 16), ("amount", 18)]) (N := ["costs", "first", "second", "by", "have", "want", "scale", "row", "whole", "carrying", "priced", "plan", "prices", "here", "there", "x", "y", "some", "amount", "price"]) (sc := defScope s_cheapestN) (by decide +kernel)) (fun _ _ _ _ _ => (pg_tup rfl (pgs_cons (pg_name (i := 16) sc_cheapestN.nd rfl (by first | exact Or.inl rfl | exact Or.inr rfl)) (pgs_cons (pg_name (i := 18) sc_cheapestN.nd rfl (by first | exact Or.inl rfl | exact Or.inr rfl)) pgs_nil)))) (fun _ _ _ _ _ => (pts_one (pt_cmpR op_gt (pv 18) pe_int (nomark _)))) (fun _ _ _ _ _ => (pe_tup (pa_cons (pv 16) (pa_cons (pv 18) pa_nil))))) pa_nil))))
      (pss_cons (ps_set (i := 6) sc_cheapestN.nd rfl (by first | exact Or.inl rfl | exact Or.inr rfl) pe_int)
      (pss_cons (ps_for PassesOwn.never rfl (pi_list (pv 0)) (pg_name (i := 7) sc_cheapestN.nd rfl (by first | exact Or.inl rfl | exact Or.inr rfl)) (pss_one (ps_set (i := 6) sc_cheapestN.nd rfl (by first | exact Or.inl rfl | exact Or.inr rfl) (pe_call (ok_multiple_of X) (hr.mono (by decide)) (by rfl) X.g_multiple_of X.F_multiple_of.kp (b_multiple_of X) .nil pass0 (pa_cons (pe_op op_cat (pv 7) (pe_lst (pa_cons (pe_make X.mk_Share (ok_Share___init__ X) (hr.mono (by decide)) (by rfl) X.g_Share bdShare2 hdShare2 passL (pa_cons pe_int (pa_cons (pv 6) pa_nil))) pa_nil))) pa_nil)))))
      (pss_cons (ps_setLc (i := 8) (own := [("row", 7)]) (g := (gName 7)) (tt := tYes) (by rfl) sc_cheapestN.nd rfl rfl (sw_true rfl rfl rfl (by decide +kernel)) (pi_list (pv 0)) (blkOk_by (own := [("row", 7)]) (N := ["costs", "first", "second", "by", "have", "want", "scale", "row", "whole", "carrying", "priced", "plan", "prices", "here", "there", "x", "y", "some", "amount", "price"]) (sc := defScope s_cheapestN) (by decide +kernel)) (fun _ _ _ _ _ => (pg_name (i := 7) sc_cheapestN.nd rfl (by first | exact Or.inl rfl | exact Or.inr rfl))) (fun _ _ _ _ _ => pts_nil) (fun _ _ _ _ _ => (pe_call (ok_in_whole X) (hr.mono (by decide)) (by rfl) X.g_in_whole X.F_in_whole.kp (b_in_whole X) .nil pass0 (pa_cons (pv 7) (pa_cons (pv 6) pa_nil)))))
      (pss_cons (ps_set (i := 9) sc_cheapestN.nd rfl (by first | exact Or.inl rfl | exact Or.inr rfl) (pe_make X.mk_Carrying (ok_Carrying___init__ X) (hr.mono (by decide)) (by rfl) X.g_Carrying (b_Carrying___init__ X) .nil pass0 (pa_cons (pv 8) (pa_cons (pv 4) (pa_cons (pv 5) pa_nil)))))
      (pss_cons (ps_expr (pe_meth0 (pv 9) X.cl_Carrying X.m_Carryingcarry_all (ok_Carrying_carry_all X) (hr.mono (by decide)) (b_Carrying_carry_all X) .nil pass0))
      (pss_cons (ps_asg (pe_meth0 (pv 9) X.cl_Carrying X.m_Carryingprices (ok_Carrying_prices X) (hr.mono (by decide)) (b_Carrying_prices X) .nil pass0) (pg_tup rfl (pgs_cons (pg_name (i := 13) sc_cheapestN.nd rfl (by first | exact Or.inl rfl | exact Or.inr rfl)) (pgs_cons (pg_name (i := 14) sc_cheapestN.nd rfl (by first | exact Or.inl rfl | exact Or.inr rfl)) pgs_nil))))
      (pss_cons (ps_set (i := 10) sc_cheapestN.nd rfl (by first | exact Or.inl rfl | exact Or.inr rfl) (pe_call (ok_all_prices X) (hr.mono (by decide)) (by rfl) X.g_all_prices X.F_all_prices.kp (b_all_prices X) .nil pass0 (pa_cons (pv 8) (pa_cons (pv 13) (pa_cons (pv 14) pa_nil)))))
      (pss_cons (ps_setLc (i := 11) (own := [("x", 15)]) (g := (gName 15)) (tt := tYes) (by rfl) sc_cheapestN.nd rfl rfl (sw_true rfl rfl rfl (by decide +kernel)) (pi_range1 (by rfl) X.f_range (pa_cons (pe_callB call_len (by rfl) X.f_len (by decide +kernel) (pa_cons (pv 1) pa_nil)) pa_nil)) (blkOk_by (own := [("x", 15)]) (N := ["costs", "first", "second", "by", "have", "want", "scale", "row", "whole", "carrying", "priced", "plan", "prices", "here", "there", "x", "y", "some", "amount", "price"]) (sc := defScope s_cheapestN) (by decide +kernel)) (fun _ _ _ _ _ => (pg_name (i := 15) sc_cheapestN.nd rfl (by first | exact Or.inl rfl | exact Or.inr rfl))) (fun _ _ _ _ _ => pts_nil) (fun _ _ _ _ _ => (pe_lc (own := [("y", 16)]) (g := (gName 16)) (tt := tYes) (by rfl) sc_cheapestN.nd (pi_range1 (by rfl) X.f_range (pa_cons (pe_callB call_len (by rfl) X.f_len (by decide +kernel) (pa_cons (pv 2) pa_nil)) pa_nil)) (blkOk_by (own := [("y", 16)]) (by rfl)) (fun _ _ _ _ _ => (pg_name (i := 16) sc_cheapestN.nd rfl (by first | exact Or.inl rfl | exact Or.inr rfl))) (fun _ _ _ _ _ => pts_nil) (fun _ _ _ _ _ => (pe_make X.mk_Share (ok_Share___init__ X) (hr.mono (by decide)) (by rfl) X.g_Share bdShare2 hdShare2 passL (pa_cons (pe_dget2 (hu1 hr) (pe_fld (pv 9) rfl) (pe_tup (pa_cons (pv 15) (pa_cons (pv 16) pa_nil))) pe_int ⟨by rfl, by rfl, by rfl, by rfl⟩) (pa_cons (pv 3) pa_nil)))))))
      (pss_cons (ps_set (i := 12) sc_cheapestN.nd rfl (by first | exact Or.inl rfl | exact Or.inr rfl) (pe_callTy call_tuple_of (by rfl) X.f_tuple (by decide +kernel) (pa_cons (pe_lc (own := [("some", 17)]) (g := (gName 17)) (tt := tYes) (by rfl) sc_cheapestN.nd (pi_tup (pv 10)) (blkOk_by (own := [("some", 17)]) (N := ["costs", "first", "second", "by", "have", "want", "scale", "row", "whole", "carrying", "priced", "plan", "prices", "here", "there", "x", "y", "some", "amount", "price"]) (sc := defScope s_cheapestN) (by decide +kernel)) (fun _ _ _ _ _ => (pg_name (i := 17) sc_cheapestN.nd rfl (by first | exact Or.inl rfl | exact Or.inr rfl))) (fun _ _ _ _ _ => pts_nil) (fun _ _ _ _ _ => (pe_lc (own := [("price", 19)]) (g := (gName 19)) (tt := tYes) (by rfl) sc_cheapestN.nd (pi_list (pv 17)) (blkOk_by (own := [("price", 19)]) (by rfl)) (fun _ _ _ _ _ => (pg_name (i := 19) sc_cheapestN.nd rfl (by first | exact Or.inl rfl | exact Or.inr rfl))) (fun _ _ _ _ _ => pts_nil) (fun _ _ _ _ _ => (pe_make X.mk_Share (ok_Share___init__ X) (hr.mono (by decide)) (by rfl) X.g_Share bdShare2 hdShare2 passL (pa_cons (pv 19) (pa_cons (pv 6) pa_nil))))))) pa_nil)))
      (pss_one (ps_ret (pe_tup (pa_cons (pe_call (ok_costW X) (hr.mono (by decide)) (by rfl) X.g_costW X.F_costW.kp (b_costW X) .nil pass0 (pa_cons (pv 0) (pa_cons (pv 11) pa_nil))) (pa_cons (pv 11) (pa_cons (pv 12) pa_nil)))))))))))))))))))
theorem b_Lwell (X : Txt K mg) : Binds K (fdOf K (He.ga K "_law_well")) ["_law_cell"] [] := X.F_Lwell.bindsN fun _ _ _ _ _ _ us hl => match us, hl with | [_], _ => rfl
theorem ok_Lwell (X : Txt K mg) : FnOk P w K mg base CX0 1 (He.ga K "_law_well") (fdOf K (He.ga K "_law_well")) ["_law_cell"] (spOf (cfg K) (c_Lwell (cfg K))) := by
  refine X.F_Lwell.ok sc_Lwell (fun vs H Q E h => spOf_len len_Lwell h) (fun cdv A outer s H vs Q E hr h => ⟨t_Lwell (cfg K) E, PSs.nox ?_, fn_go (pure_Lwell (sh_ok X)) vs H Q E h⟩)
  exact (pss_one (ps_ret (pe_lst (pa_cons (pe_op op_mulO (pv 0) (pe_callTy call_int1 (by rfl) X.f_int (by decide +kernel) (pa_cons (pe_cmpR op_ge (pv 0) (pe_op op_pow pe_int pe_int) (nomark _)) pa_nil))) (pa_cons (pe_op op_modN (pv 0) pe_int) (pa_cons pe_int pa_nil))))))
theorem b_Ldraw (X : Txt K mg) : Binds K (fdOf K (He.ga K "_law_draw")) ["_law_well_here", "_law_many"] [] := X.F_Ldraw.bindsN fun _ _ _ _ _ _ us hl => match us, hl with | [_, _], _ => rfl
theorem ok_Ldraw (X : Txt K mg) : FnOk P w K mg base CX0 1 (He.ga K "_law_draw") (fdOf K (He.ga K "_law_draw")) ["_law_well_here", "_law_many"] (spOf (cfg K) (wl (c_Ldraw (cfg K)))) := by
  refine X.F_Ldraw.ok sc_Ldraw (fun vs H Q E h => spOf_len len_Ldraw h) (fun cdv A outer s H vs Q E hr h => ⟨t_Ldraw (cfg K) E, PSs.nox ?_, fn_go (pure_Ldraw (sh_ok X)) vs H Q E h⟩)
  exact (pss_cons (ps_if (pt_cmpR op_gt (pe_ix ix_list (pv 0) pe_int (fun _ _ => rfl)) pe_int (nomark _)) (pss_cons (ps_set (i := 4) sc_Ldraw.nd rfl (by first | exact Or.inl rfl | exact Or.inr rfl) (pe_op op_modN (pe_ix ix_list (pv 0) pe_int (fun _ _ => rfl)) (pv 1)))
      (pss_cons (ps_asg (pe_op op_fdivO (pe_ix ix_list (pv 0) pe_int (fun _ _ => rfl)) (pv 1)) (pg_sub (pv 0) pe_int set_list))
      (pss_one (ps_ret (pv 4))))) pss_nil)
      (pss_cons (ps_asg (pe_op op_add (pe_ix ix_list (pv 0) pe_int (fun _ _ => rfl)) pe_int) (pg_sub (pv 0) pe_int set_list))
      (pss_cons (ps_set (i := 2) sc_Ldraw.nd rfl (by first | exact Or.inl rfl | exact Or.inr rfl) (pe_ix ix_list (pe_lst (pa_cons pe_int (pa_cons pe_int (pa_cons pe_int (pa_cons pe_int (pa_cons pe_int (pa_cons pe_int (pa_cons pe_int pa_nil)))))))) (pe_op op_modN (pe_ix ix_list (pv 0) pe_int (fun _ _ => rfl)) pe_int) (fun _ _ => rfl)))
      (pss_cons (ps_set (i := 3) sc_Ldraw.nd rfl (by first | exact Or.inl rfl | exact Or.inr rfl) (pe_op op_modN (pe_op op_pow (pe_op op_add (pe_op op_add (pe_ix ix_list (pv 0) pe_int (fun _ _ => rfl)) (pe_op op_mulO pe_int (pe_ix ix_list (pv 0) pe_int (fun _ _ => rfl)))) pe_int) pe_int) (pv 2)))
      (pss_cons (ps_set (i := 3) sc_Ldraw.nd rfl (by first | exact Or.inl rfl | exact Or.inr rfl) (pe_op op_modN (pe_op op_mulO (pe_op op_add (pv 3) (pe_ix ix_list (pv 0) pe_int (fun _ _ => rfl))) (pe_op op_add (pe_op op_fdivO (pv 3) pe_int) pe_int)) (pv 2)))
      (pss_one (ps_ret (pe_op op_modN (pe_op op_fdivO (pv 3) pe_int) (pv 1)))))))))
theorem b_Lone (X : Txt K mg) : Binds K (fdOf K (He.ga K "_law_one")) ["_law_well_here", "_law_some"] [] := X.F_Lone.bindsN fun _ _ _ _ _ _ us hl => match us, hl with | [_, _], _ => rfl
theorem ok_Lone (X : Txt K mg) : FnOk P w K mg base CX0 2 (He.ga K "_law_one") (fdOf K (He.ga K "_law_one")) ["_law_well_here", "_law_some"] (spOf (cfg K) (wl (c_Lone (cfg K)))) := by
  refine X.F_Lone.ok sc_Lone (fun vs H Q E h => spOf_len len_Lone h) (fun cdv A outer s H vs Q E hr h => ⟨t_Lone (cfg K) E, PSs.nox ?_, fn_go (pure_Lone (sh_ok X)) vs H Q E h⟩)
  exact (pss_one (ps_ret (pe_ix ix_list (pv 1) (pe_call (ok_Ldraw X) (hr.mono (by decide)) (by rfl) X.g_Ldraw X.F_Ldraw.kp (b_Ldraw X) .nil pass0 (pa_cons (pv 0) (pa_cons (pe_callB call_len (by rfl) X.f_len (by decide +kernel) (pa_cons (pv 1) pa_nil)) pa_nil))) (fun _ _ => rfl))))
theorem b_Llow (X : Txt K mg) : Binds K (fdOf K (He.ga K "_law_low")) ["_law_top", "_law_bottom"] [] := X.F_Llow.bindsN fun _ _ _ _ _ _ us hl => match us, hl with | [_, _], _ => rfl
theorem ok_Llow (X : Txt K mg) : FnOk P w K mg base CX0 1 (He.ga K "_law_low") (fdOf K (He.ga K "_law_low")) ["_law_top", "_law_bottom"] (spOf (cfg K) (pu (c_Llow (cfg K)))) := by
  refine X.F_Llow.ok sc_Llow (fun vs H Q E h => spOf_len len_Llow h) (fun cdv A outer s H vs Q E hr h => ⟨t_Llow (cfg K) E, PSs.nox ?_, fn_go (pure_Llow (sh_ok X)) vs H Q E h⟩)
  exact (pss_cons (ps_par (by rfl) sc_Llow.nd (i := 2) (j := 3) rfl rfl (by decide) rfl rfl (pa_cons (pe_callB call_abs (by rfl) X.f_abs (by decide +kernel) (pa_cons (pv 0) pa_nil)) (pa_cons (pe_callB call_abs (by rfl) X.f_abs (by decide +kernel) (pa_cons (pv 1) pa_nil)) pa_nil)) (by rfl))
      (pss_cons (ps_while PassesOwn.never (pt_cmpR op_gt (pv 3) pe_int (nomark _)) (pss_one (ps_par (by rfl) sc_Llow.nd (i := 2) (j := 3) rfl rfl (by decide) rfl rfl (pa_cons (pv 3) (pa_cons (pe_op op_modN (pv 2) (pv 3)) pa_nil)) (by rfl))))
      (pss_cons (ps_if (pt_cmpR op_lt (pv 1) pe_int (nomark _)) (pss_one (ps_set (i := 2) sc_Llow.nd rfl (by first | exact Or.inl rfl | exact Or.inr rfl) (pe_op op_sub pe_int (pv 2)))) pss_nil)
      (pss_one (ps_ret (pe_tup (pa_cons (pe_op op_fdivO (pv 0) (pv 2)) (pa_cons (pe_op op_fdivO (pv 1) (pv 2)) pa_nil))))))))
theorem b_Lpair (X : Txt K mg) : Binds K (fdOf K (He.ga K "_law_pair")) ["_law_share"] [] := X.F_Lpair.bindsN fun _ _ _ _ _ _ us hl => match us, hl with | [_], _ => rfl
theorem ok_Lpair (X : Txt K mg) : FnOk P w K mg base CX0 2 (He.ga K "_law_pair") (fdOf K (He.ga K "_law_pair")) ["_law_share"] (spOf (cfg K) (pu (c_Lpair (cfg K)))) := by
  refine X.F_Lpair.ok sc_Lpair (fun vs H Q E h => spOf_len len_Lpair h) (fun cdv A outer s H vs Q E hr h => ⟨t_Lpair (cfg K) E, PSs.nox ?_, fn_go (pure_Lpair (sh_ok X)) vs H Q E h⟩)
  exact (pss_cons (ps_if (PW.pt (pw_or (pt_not (pt_val (pe_callB call_isi (by rfl) X.f_isinstance (by decide +kernel) (pa_cons (pv 0) (pa_cons (pe_glob (by rfl) X.g_Share rfl) pa_nil))))) (pw_or (pt_val (pe_callB call_isi (by rfl) X.f_isinstance (by decide +kernel) (pa_cons (pe_fld (pv 0) rfl) (pa_cons (pe_bltn (by rfl) X.f_bool (by decide +kernel) rfl) pa_nil)))) (pw_or1 (pt_val (pe_callB call_isi (by rfl) X.f_isinstance (by decide +kernel) (pa_cons (pe_fld (pv 0) rfl) (pa_cons (pe_bltn (by rfl) X.f_bool (by decide +kernel) rfl) pa_nil)))))))) (pss_one (ps_ret (pe_tup (pa_cons pe_int (pa_cons pe_int pa_nil))))) pss_nil)
      (pss_cons (ps_if (PW.pt (pw_or (pt_not (pt_val (pe_callB call_isi (by rfl) X.f_isinstance (by decide +kernel) (pa_cons (pe_fld (pv 0) rfl) (pa_cons (pe_bltn (by rfl) X.f_int (by decide +kernel) rfl) pa_nil))))) (pw_or (pt_not (pt_val (pe_callB call_isi (by rfl) X.f_isinstance (by decide +kernel) (pa_cons (pe_fld (pv 0) rfl) (pa_cons (pe_bltn (by rfl) X.f_int (by decide +kernel) rfl) pa_nil))))) (pw_or1 (pt_cmpR op_lt (pe_fld (pv 0) rfl) pe_int (nomark _)))))) (pss_one (ps_ret (pe_tup (pa_cons pe_int (pa_cons pe_int pa_nil))))) pss_nil)
      (pss_one (ps_ret (pe_ifExp (pt_cmpR (op_eqD hr.units) (pe_call (ok_Llow X) (hr.mono (by decide)) (by rfl) X.g_Llow X.F_Llow.kp (b_Llow X) .nil pass0 (pa_cons (pe_fld (pv 0) rfl) (pa_cons (pe_fld (pv 0) rfl) pa_nil))) (pe_tup (pa_cons (pe_fld (pv 0) rfl) (pa_cons (pe_fld (pv 0) rfl) pa_nil))) (nomark _)) (pe_tup (pa_cons (pe_fld (pv 0) rfl) (pa_cons (pe_fld (pv 0) rfl) pa_nil))) (pe_tup (pa_cons pe_int (pa_cons pe_int pa_nil))))))))
theorem b_Lheap (X : Txt K mg) : Binds K (fdOf K (He.ga K "_law_heap")) ["_law_well_here", "_law_many"] [] := X.F_Lheap.bindsN fun _ _ _ _ _ _ us hl => match us, hl with | [_, _], _ => rfl
theorem ok_Lheap (X : Txt K mg) : FnOk P w K mg base CX0 2 (He.ga K "_law_heap") (fdOf K (He.ga K "_law_heap")) ["_law_well_here", "_law_many"] (spOf (cfg K) (wl (c_Lheap (cfg K)))) := by
  refine X.F_Lheap.ok sc_Lheap (fun vs H Q E h => spOf_len len_Lheap h) (fun cdv A outer s H vs Q E hr h => ⟨t_Lheap (cfg K) E, PSs.nox ?_, fn_go (pure_Lheap (sh_ok X)) vs H Q E h⟩)
  exact (pss_cons (ps_set (i := 2) sc_Lheap.nd rfl (by first | exact Or.inl rfl | exact Or.inr rfl) (pe_call (ok_Ldraw X) (hr.mono (by decide)) (by rfl) X.g_Ldraw X.F_Ldraw.kp (b_Ldraw X) .nil pass0 (pa_cons (pv 0) (pa_cons pe_int pa_nil))))
      (pss_cons (ps_set (i := 3) sc_Lheap.nd rfl (by first | exact Or.inl rfl | exact Or.inr rfl) (pe_op op_rep (pe_lst (pa_cons pe_int pa_nil)) (pv 1)))
      (pss_cons (ps_for PassesOwn.never rfl (pi_range1 (by rfl) X.f_range (pa_cons (pe_ix ix_list (pe_lst (pa_cons pe_int (pa_cons pe_int (pa_cons pe_int (pa_cons pe_int pa_nil))))) (pv 2) (fun _ _ => rfl)) pa_nil)) (pg_name (i := 4) sc_Lheap.nd rfl (by first | exact Or.inl rfl | exact Or.inr rfl)) (pss_cons (ps_set (i := 5) sc_Lheap.nd rfl (by first | exact Or.inl rfl | exact Or.inr rfl) (pe_call (ok_Ldraw X) (hr.mono (by decide)) (by rfl) X.g_Ldraw X.F_Ldraw.kp (b_Ldraw X) .nil pass0 (pa_cons (pv 0) (pa_cons (pv 1) pa_nil))))
      (pss_one (ps_asg (pe_op op_add (pe_op op_add (pe_ix ix_list (pv 3) (pv 5) (fun _ _ => rfl)) pe_int) (pe_call (ok_Ldraw X) (hr.mono (by decide)) (by rfl) X.g_Ldraw X.F_Ldraw.kp (b_Ldraw X) .nil pass0 (pa_cons (pv 0) (pa_cons pe_int pa_nil)))) (pg_sub (pv 3) (pv 5) set_list)))))
      (pss_cons (ps_if (pt_cmpR op_eq (pv 2) pe_int (nomark _)) (pss_one (ps_set (i := 3) sc_Lheap.nd rfl (by first | exact Or.inl rfl | exact Or.inr rfl) (pe_lc (own := [("_law_place", 7)]) (g := (gName 7)) (tt := tYes) (by rfl) sc_Lheap.nd (pi_range1 (by rfl) X.f_range (pa_cons (pv 1) pa_nil)) (blkOk_by (own := [("_law_place", 7)]) (N := ["_law_well_here", "_law_many", "_law_way", "_law_weights", "_law_k", "_law_at", "_law_weight", "_law_place"]) (sc := defScope s_Lheap) (by decide +kernel)) (fun _ _ _ _ _ => (pg_name (i := 7) sc_Lheap.nd rfl (by first | exact Or.inl rfl | exact Or.inr rfl))) (fun _ _ _ _ _ => pts_nil) (fun _ _ _ _ _ => (pe_call (ok_Ldraw X) (hr.mono (by decide)) (by rfl) X.g_Ldraw X.F_Ldraw.kp (b_Ldraw X) .nil pass0 (pa_cons (pv 0) (pa_cons pe_int pa_nil))))))) pss_nil)
      (pss_cons (ps_if (pt_cmpR op_eq (pe_callB (cr_sum rfl) (by rfl) X.f_sum (by decide +kernel) (pa_cons (pv 3) pa_nil)) pe_int (nomark _)) (pss_one (ps_asg pe_int (pg_sub (pv 3) (pe_call (ok_Ldraw X) (hr.mono (by decide)) (by rfl) X.g_Ldraw X.F_Ldraw.kp (b_Ldraw X) .nil pass0 (pa_cons (pv 0) (pa_cons (pv 1) pa_nil))) set_list))) pss_nil)
      (pss_one (ps_ret (pe_lc (own := [("_law_weight", 6)]) (g := (gName 6)) (tt := tYes) (by rfl) sc_Lheap.nd (pi_list (pv 3)) (blkOk_by (own := [("_law_weight", 6)]) (N := ["_law_well_here", "_law_many", "_law_way", "_law_weights", "_law_k", "_law_at", "_law_weight", "_law_place"]) (sc := defScope s_Lheap) (by decide +kernel)) (fun _ _ _ _ _ => (pg_name (i := 6) sc_Lheap.nd rfl (by first | exact Or.inl rfl | exact Or.inr rfl))) (fun _ _ _ _ _ => pts_nil) (fun _ _ _ _ _ => (pe_call (ok_Llow X) (hr.mono (by decide)) (by rfl) X.g_Llow X.F_Llow.kp (b_Llow X) .nil pass0 (pa_cons (pv 6) (pa_cons (pe_callB (cr_sum rfl) (by rfl) X.f_sum (by decide +kernel) (pa_cons (pv 3) pa_nil)) pa_nil))))))))))))
theorem b_LcostsW (X : Txt K mg) : Binds K (fdOf K (He.ga K "_law_costs")) ["_law_well_here", "_law_here", "_law_there"] [] := X.F_LcostsW.bindsN fun _ _ _ _ _ _ us hl => match us, hl with | [_, _, _], _ => rfl
theorem ok_LcostsW (X : Txt K mg) : FnOk P w K mg base CX0 3 (He.ga K "_law_costs") (fdOf K (He.ga K "_law_costs")) ["_law_well_here", "_law_here", "_law_there"] (spOf (cfg K) (wl (c_LcostsW (cfg K)))) := by
  refine X.F_LcostsW.ok sc_LcostsW (fun vs H Q E h => spOf_len len_LcostsW h) (fun cdv A outer s H vs Q E hr h => ⟨t_LcostsW (cfg K) E, PSs.nox ?_, fn_go (pure_LcostsW (sh_ok X)) vs H Q E h⟩)
  exact (pss_cons (ps_set (i := 3) sc_LcostsW.nd rfl (by first | exact Or.inl rfl | exact Or.inr rfl) (pe_call (ok_Lone X) (hr.mono (by decide)) (by rfl) X.g_Lone X.F_Lone.kp (b_Lone X) .nil pass0 (pa_cons (pv 0) (pa_cons (pe_lst (pa_cons pe_int (pa_cons pe_int (pa_cons pe_int (pa_cons (pe_op op_pow pe_int pe_int) pa_nil))))) pa_nil))))
      (pss_cons (ps_set (i := 4) sc_LcostsW.nd rfl (by first | exact Or.inl rfl | exact Or.inr rfl) (pe_op op_add pe_int (pe_call (ok_Ldraw X) (hr.mono (by decide)) (by rfl) X.g_Ldraw X.F_Ldraw.kp (b_Ldraw X) .nil pass0 (pa_cons (pv 0) (pa_cons (pe_call (ok_Lone X) (hr.mono (by decide)) (by rfl) X.g_Lone X.F_Lone.kp (b_Lone X) .nil pass0 (pa_cons (pv 0) (pa_cons (pe_lst (pa_cons pe_int (pa_cons pe_int (pa_cons pe_int pa_nil)))) pa_nil))) pa_nil)))))
      (pss_one (ps_ret (pe_lc (own := [("_law_x", 5)]) (g := (gName 5)) (tt := tYes) (by rfl) sc_LcostsW.nd (pi_range1 (by rfl) X.f_range (pa_cons (pv 1) pa_nil)) (blkOk_by (own := [("_law_x", 5)]) (N := ["_law_well_here", "_law_here", "_law_there", "_law_most", "_law_bottom", "_law_x", "_law_y"]) (sc := defScope s_LcostsW) (by decide +kernel)) (fun _ _ _ _ _ => (pg_name (i := 5) sc_LcostsW.nd rfl (by first | exact Or.inl rfl | exact Or.inr rfl))) (fun _ _ _ _ _ => pts_nil) (fun _ _ _ _ _ => (pe_lc (own := [("_law_y", 6)]) (g := (gName 6)) (tt := tYes) (by rfl) sc_LcostsW.nd (pi_range1 (by rfl) X.f_range (pa_cons (pv 2) pa_nil)) (blkOk_by (own := [("_law_y", 6)]) (by rfl)) (fun _ _ _ _ _ => (pg_name (i := 6) sc_LcostsW.nd rfl (by first | exact Or.inl rfl | exact Or.inr rfl))) (fun _ _ _ _ _ => pts_nil) (fun _ _ _ _ _ => (pe_call (ok_Llow X) (hr.mono (by decide)) (by rfl) X.g_Llow X.F_Llow.kp (b_Llow X) .nil pass0 (pa_cons (pe_call (ok_Ldraw X) (hr.mono (by decide)) (by rfl) X.g_Ldraw X.F_Ldraw.kp (b_Ldraw X) .nil pass0 (pa_cons (pv 0) (pa_cons (pv 3) pa_nil))) (pa_cons (pv 4) pa_nil)))))))))))
theorem b_Lshares (X : Txt K mg) : Binds K (fdOf K (He.ga K "_law_shares")) ["_law_pairs_here"] [] := X.F_Lshares.bindsN fun _ _ _ _ _ _ us hl => match us, hl with | [_], _ => rfl
theorem ok_Lshares (X : Txt K mg) : FnOk P w K mg base CX0 4 (He.ga K "_law_shares") (fdOf K (He.ga K "_law_shares")) ["_law_pairs_here"] (spOf (cfg K) (pu (c_Lshares (cfg K)))) := by
  obtain ⟨dsShare2, hdShare2, bdShare2⟩ := b_Share___init___2 X
  refine X.F_Lshares.ok sc_Lshares (fun vs H Q E h => spOf_len len_Lshares h) (fun cdv A outer s H vs Q E hr h => ⟨t_Lshares (cfg K) E, PSs.nox ?_, fn_go (pure_Lshares (sh_ok X)) vs H Q E h⟩)
  exact (pss_one (ps_ret (pe_lc (own := [("_law_top", 1), ("_law_bottom", 2)]) (g := (gTup (cfg K).K 2 (gCons (gName 1) (gCons (gName 2) gNil)))) (tt := tYes) (by rfl) sc_Lshares.nd (pi_list (pv 0)) (blkOk_by (own := [("_law_top", 1), ("_law_bottom", 2)]) (N := ["_law_pairs_here", "_law_top", "_law_bottom"]) (sc := defScope s_Lshares) (by decide +kernel)) (fun _ _ _ _ _ => (pg_tup rfl (pgs_cons (pg_name (i := 1) sc_Lshares.nd rfl (by first | exact Or.inl rfl | exact Or.inr rfl)) (pgs_cons (pg_name (i := 2) sc_Lshares.nd rfl (by first | exact Or.inl rfl | exact Or.inr rfl)) pgs_nil)))) (fun _ _ _ _ _ => pts_nil) (fun _ _ _ _ _ => (pe_make X.mk_Share (ok_Share___init__ X) (hr.mono (by decide)) (by rfl) X.g_Share bdShare2 hdShare2 passL (pa_cons (pv 1) (pa_cons (pv 2) pa_nil)))))))
theorem b_LrowsS (X : Txt K mg) : Binds K (fdOf K (He.ga K "_law_rows")) ["_law_rows_here"] [] := X.F_LrowsS.bindsN fun _ _ _ _ _ _ us hl => match us, hl with | [_], _ => rfl
theorem ok_LrowsS (X : Txt K mg) : FnOk P w K mg base CX0 5 (He.ga K "_law_rows") (fdOf K (He.ga K "_law_rows")) ["_law_rows_here"] (spOf (cfg K) (pu (c_LrowsS (cfg K)))) := by
  refine X.F_LrowsS.ok sc_LrowsS (fun vs H Q E h => spOf_len len_LrowsS h) (fun cdv A outer s H vs Q E hr h => ⟨t_LrowsS (cfg K) E, PSs.nox ?_, fn_go (pure_LrowsS (sh_ok X)) vs H Q E h⟩)
  exact (pss_one (ps_ret (pe_lc (own := [("_law_row", 1)]) (g := (gName 1)) (tt := tYes) (by rfl) sc_LrowsS.nd (pi_list (pv 0)) (blkOk_by (own := [("_law_row", 1)]) (N := ["_law_rows_here", "_law_row"]) (sc := defScope s_LrowsS) (by decide +kernel)) (fun _ _ _ _ _ => (pg_name (i := 1) sc_LrowsS.nd rfl (by first | exact Or.inl rfl | exact Or.inr rfl))) (fun _ _ _ _ _ => pts_nil) (fun _ _ _ _ _ => (pe_call (ok_Lshares X) (hr.mono (by decide)) (by rfl) X.g_Lshares X.F_Lshares.kp (b_Lshares X) .nil pass0 (pa_cons (pv 1) pa_nil))))))
theorem b_Ladded (X : Txt K mg) : Binds K (fdOf K (He.ga K "_law_added")) ["_law_one_here", "_law_other"] [] := X.F_Ladded.bindsN fun _ _ _ _ _ _ us hl => match us, hl with | [_, _], _ => rfl
theorem ok_Ladded (X : Txt K mg) : FnOk P w K mg base CX0 2 (He.ga K "_law_added") (fdOf K (He.ga K "_law_added")) ["_law_one_here", "_law_other"] (spOf (cfg K) (pu (c_Ladded (cfg K)))) := by
  refine X.F_Ladded.ok sc_Ladded (fun vs H Q E h => spOf_len len_Ladded h) (fun cdv A outer s H vs Q E hr h => ⟨t_Ladded (cfg K) E, PSs.nox ?_, fn_go (pure_Ladded (sh_ok X)) vs H Q E h⟩)
  exact (pss_one (ps_ret (pe_call (ok_Llow X) (hr.mono (by decide)) (by rfl) X.g_Llow X.F_Llow.kp (b_Llow X) .nil pass0 (pa_cons (pe_op op_add (pe_op op_mulO (pe_ix ix_tup (pv 0) pe_int (fun _ _ => rfl)) (pe_ix ix_tup (pv 1) pe_int (fun _ _ => rfl))) (pe_op op_mulO (pe_ix ix_tup (pv 1) pe_int (fun _ _ => rfl)) (pe_ix ix_tup (pv 0) pe_int (fun _ _ => rfl)))) (pa_cons (pe_op op_mulO (pe_ix ix_tup (pv 0) pe_int (fun _ _ => rfl)) (pe_ix ix_tup (pv 1) pe_int (fun _ _ => rfl))) pa_nil)))))
theorem b_Ltotal (X : Txt K mg) : Binds K (fdOf K (He.ga K "_law_total")) ["_law_pairs_here"] [] := X.F_Ltotal.bindsN fun _ _ _ _ _ _ us hl => match us, hl with | [_], _ => rfl
theorem ok_Ltotal (X : Txt K mg) : FnOk P w K mg base CX0 3 (He.ga K "_law_total") (fdOf K (He.ga K "_law_total")) ["_law_pairs_here"] (spOf (cfg K) (pu (c_Ltotal (cfg K)))) := by
  refine X.F_Ltotal.ok sc_Ltotal (fun vs H Q E h => spOf_len len_Ltotal h) (fun cdv A outer s H vs Q E hr h => ⟨t_Ltotal (cfg K) E, PSs.nox ?_, fn_go (pure_Ltotal (sh_ok X)) vs H Q E h⟩)
  exact (pss_cons (ps_set (i := 1) sc_Ltotal.nd rfl (by first | exact Or.inl rfl | exact Or.inr rfl) (pe_tup (pa_cons pe_int (pa_cons pe_int pa_nil))))
      (pss_cons (ps_for PassesOwn.never rfl (pi_list (pv 0)) (pg_name (i := 2) sc_Ltotal.nd rfl (by first | exact Or.inl rfl | exact Or.inr rfl)) (pss_one (ps_set (i := 1) sc_Ltotal.nd rfl (by first | exact Or.inl rfl | exact Or.inr rfl) (pe_call (ok_Ladded X) (hr.mono (by decide)) (by rfl) X.g_Ladded X.F_Ladded.kp (b_Ladded X) .nil pass0 (pa_cons (pv 1) (pa_cons (pv 2) pa_nil))))))
      (pss_one (ps_ret (pv 1)))))
theorem b_Lby (X : Txt K mg) : Binds K (fdOf K (He.ga K "_law_by")) ["_law_one_here", "_law_other"] [] := X.F_Lby.bindsN fun _ _ _ _ _ _ us hl => match us, hl with | [_, _], _ => rfl
theorem ok_Lby (X : Txt K mg) : FnOk P w K mg base CX0 2 (He.ga K "_law_by") (fdOf K (He.ga K "_law_by")) ["_law_one_here", "_law_other"] (spOf (cfg K) (pu (c_Lby (cfg K)))) := by
  refine X.F_Lby.ok sc_Lby (fun vs H Q E h => spOf_len len_Lby h) (fun cdv A outer s H vs Q E hr h => ⟨t_Lby (cfg K) E, PSs.nox ?_, fn_go (pure_Lby (sh_ok X)) vs H Q E h⟩)
  exact (pss_one (ps_ret (pe_call (ok_Llow X) (hr.mono (by decide)) (by rfl) X.g_Llow X.F_Llow.kp (b_Llow X) .nil pass0 (pa_cons (pe_op op_mulO (pe_ix ix_tup (pv 0) pe_int (fun _ _ => rfl)) (pe_ix ix_tup (pv 1) pe_int (fun _ _ => rfl))) (pa_cons (pe_op op_mulO (pe_ix ix_tup (pv 0) pe_int (fun _ _ => rfl)) (pe_ix ix_tup (pv 1) pe_int (fun _ _ => rfl))) pa_nil)))))
theorem b_Lbelow (X : Txt K mg) : Binds K (fdOf K (He.ga K "_law_below")) ["_law_one_here", "_law_other"] [] := X.F_Lbelow.bindsN fun _ _ _ _ _ _ us hl => match us, hl with | [_, _], _ => rfl
theorem ok_Lbelow (X : Txt K mg) : FnOk P w K mg base CX0 1 (He.ga K "_law_below") (fdOf K (He.ga K "_law_below")) ["_law_one_here", "_law_other"] (spOf (cfg K) (pu (c_Lbelow (cfg K)))) := by
  refine X.F_Lbelow.ok sc_Lbelow (fun vs H Q E h => spOf_len len_Lbelow h) (fun cdv A outer s H vs Q E hr h => ⟨t_Lbelow (cfg K) E, PSs.nox ?_, fn_go (pure_Lbelow (sh_ok X)) vs H Q E h⟩)
  exact (pss_one (ps_ret (pe_cmpR op_lt (pe_op op_mulO (pe_ix ix_tup (pv 0) pe_int (fun _ _ => rfl)) (pe_ix ix_tup (pv 1) pe_int (fun _ _ => rfl))) (pe_op op_mulO (pe_ix ix_tup (pv 1) pe_int (fun _ _ => rfl)) (pe_ix ix_tup (pv 0) pe_int (fun _ _ => rfl))) (nomark _))))
theorem b_LcostG (X : Txt K mg) : Binds K (fdOf K (He.ga K "_law_cost")) ["_law_costs_here", "_law_plan"] [] := X.F_LcostG.bindsN fun _ _ _ _ _ _ us hl => match us, hl with | [_, _], _ => rfl
theorem ok_LcostG (X : Txt K mg) : FnOk P w K mg base CX0 4 (He.ga K "_law_cost") (fdOf K (He.ga K "_law_cost")) ["_law_costs_here", "_law_plan"] (spOf (cfg K) (pu (c_LcostG (cfg K)))) := by
  refine X.F_LcostG.ok sc_LcostG (fun vs H Q E h => spOf_len len_LcostG h) (fun cdv A outer s H vs Q E hr h => ⟨t_LcostG (cfg K) E, PSs.nox ?_, fn_go (pure_LcostG (sh_ok X)) vs H Q E h⟩)
  exact (pss_cons (ps_set (i := 2) sc_LcostG.nd rfl (by first | exact Or.inl rfl | exact Or.inr rfl) (pe_tup (pa_cons pe_int (pa_cons pe_int pa_nil))))
      (pss_cons (ps_for PassesOwn.never rfl (pi_zip (by rfl) X.f_zip (pa_cons (pv 0) (pa_cons (pv 1) pa_nil))) (pg_tup rfl (pgs_cons (pg_name (i := 3) sc_LcostG.nd rfl (by first | exact Or.inl rfl | exact Or.inr rfl)) (pgs_cons (pg_name (i := 4) sc_LcostG.nd rfl (by first | exact Or.inl rfl | exact Or.inr rfl)) pgs_nil))) (pss_one (ps_set (i := 2) sc_LcostG.nd rfl (by first | exact Or.inl rfl | exact Or.inr rfl) (pe_call (ok_Ladded X) (hr.mono (by decide)) (by rfl) X.g_Ladded X.F_Ladded.kp (b_Ladded X) .nil pass0 (pa_cons (pv 2) (pa_cons (pe_call (ok_Ltotal X) (hr.mono (by decide)) (by rfl) X.g_Ltotal X.F_Ltotal.kp (b_Ltotal X) .nil pass0 (pa_cons (pe_lc (own := [("_law_cost_here", 5), ("_law_amount", 6)]) (g := (gTup (cfg K).K 2 (gCons (gName 5) (gCons (gName 6) gNil)))) (tt := tYes) (by rfl) sc_LcostG.nd (pi_zip (by rfl) X.f_zip (pa_cons (pv 3) (pa_cons (pv 4) pa_nil))) (blkOk_by (own := [("_law_cost_here", 5), ("_law_amount", 6)]) (N := ["_law_costs_here", "_law_plan", "_law_found", "_law_row", "_law_amounts", "_law_cost_here", "_law_amount"]) (sc := defScope s_LcostG) (by decide +kernel)) (fun _ _ _ _ _ => (pg_tup rfl (pgs_cons (pg_name (i := 5) sc_LcostG.nd rfl (by first | exact Or.inl rfl | exact Or.inr rfl)) (pgs_cons (pg_name (i := 6) sc_LcostG.nd rfl (by first | exact Or.inl rfl | exact Or.inr rfl)) pgs_nil)))) (fun _ _ _ _ _ => pts_nil) (fun _ _ _ _ _ => (pe_call (ok_Lby X) (hr.mono (by decide)) (by rfl) X.g_Lby X.F_Lby.kp (b_Lby X) .nil pass0 (pa_cons (pv 5) (pa_cons (pv 6) pa_nil))))) pa_nil)) pa_nil))))))
      (pss_one (ps_ret (pv 2)))))
theorem b_Lless (X : Txt K mg) : Binds K (fdOf K (He.ga K "_law_less")) ["_law_one_here", "_law_other"] [] := X.F_Lless.bindsN fun _ _ _ _ _ _ us hl => match us, hl with | [_, _], _ => rfl
theorem ok_Lless (X : Txt K mg) : FnOk P w K mg base CX0 3 (He.ga K "_law_less") (fdOf K (He.ga K "_law_less")) ["_law_one_here", "_law_other"] (spOf (cfg K) (pu (c_Lless (cfg K)))) := by
  refine X.F_Lless.ok sc_Lless (fun vs H Q E h => spOf_len len_Lless h) (fun cdv A outer s H vs Q E hr h => ⟨t_Lless (cfg K) E, PSs.nox ?_, fn_go (pure_Lless (sh_ok X)) vs H Q E h⟩)
  exact (pss_one (ps_ret (pe_call (ok_Ladded X) (hr.mono (by decide)) (by rfl) X.g_Ladded X.F_Ladded.kp (b_Ladded X) .nil pass0 (pa_cons (pv 0) (pa_cons (pe_tup (pa_cons (pe_op op_sub pe_int (pe_ix ix_tup (pv 1) pe_int (fun _ _ => rfl))) (pa_cons (pe_ix ix_tup (pv 1) pe_int (fun _ _ => rfl)) pa_nil))) pa_nil)))))
theorem b_Lpairs13 (X : Txt K mg) : Binds K (fdOf K (He.ga K "_law_pairs")) ["_law_rows_here"] [] := X.F_Lpairs13.bindsN fun _ _ _ _ _ _ us hl => match us, hl with | [_], _ => rfl
theorem ok_Lpairs13 (X : Txt K mg) : FnOk P w K mg base CX0 3 (He.ga K "_law_pairs") (fdOf K (He.ga K "_law_pairs")) ["_law_rows_here"] (spOf (cfg K) (c_Lpairs13 (cfg K))) := by
  refine X.F_Lpairs13.ok sc_Lpairs13 (fun vs H Q E h => spOf_len len_Lpairs13 h) (fun cdv A outer s H vs Q E hr h => ⟨t_Lpairs13 (cfg K) E, PSs.nox ?_, fn_go (pure_Lpairs13 (sh_ok X)) vs H Q E h⟩)
  exact (pss_one (ps_ret (pe_lc (own := [("_law_row", 1)]) (g := (gName 1)) (tt := tYes) (by rfl) sc_Lpairs13.nd (pi_list (pv 0)) (blkOk_by (own := [("_law_row", 1)]) (N := ["_law_rows_here", "_law_row", "_law_share"]) (sc := defScope s_Lpairs13) (by decide +kernel)) (fun _ _ _ _ _ => (pg_name (i := 1) sc_Lpairs13.nd rfl (by first | exact Or.inl rfl | exact Or.inr rfl))) (fun _ _ _ _ _ => pts_nil) (fun _ _ _ _ _ => (pe_lc (own := [("_law_share", 2)]) (g := (gName 2)) (tt := tYes) (by rfl) sc_Lpairs13.nd (pi_list (pv 1)) (blkOk_by (own := [("_law_share", 2)]) (by rfl)) (fun _ _ _ _ _ => (pg_name (i := 2) sc_Lpairs13.nd rfl (by first | exact Or.inl rfl | exact Or.inr rfl))) (fun _ _ _ _ _ => pts_nil) (fun _ _ _ _ _ => (pe_call (ok_Lpair X) (hr.mono (by decide)) (by rfl) X.g_Lpair X.F_Lpair.kp (b_Lpair X) .nil pass0 (pa_cons (pv 2) pa_nil))))))))
theorem b_LpairsT13 (X : Txt K mg) : Binds K (fdOf K (He.ga K "_law_pairs")) ["_law_rows_here"] [] := X.F_LpairsT13.bindsN fun _ _ _ _ _ _ us hl => match us, hl with | [_], _ => rfl
theorem ok_LpairsT13 (X : Txt K mg) : FnOk P w K mg base CX0 3 (He.ga K "_law_pairs") (fdOf K (He.ga K "_law_pairs")) ["_law_rows_here"] (spOf (cfg K) (c_LpairsT13 (cfg K))) := by
  refine X.F_LpairsT13.ok sc_LpairsT13 (fun vs H Q E h => spOf_len len_LpairsT13 h) (fun cdv A outer s H vs Q E hr h => ⟨t_LpairsT13 (cfg K) E, PSs.nox ?_, fn_go (pure_LpairsT13 (sh_ok X)) vs H Q E h⟩)
  exact (pss_one (ps_ret (pe_lc (own := [("_law_row", 1)]) (g := (gName 1)) (tt := tYes) (by rfl) sc_LpairsT13.nd (pi_tup (pv 0)) (blkOk_by (own := [("_law_row", 1)]) (N := ["_law_rows_here", "_law_row", "_law_share"]) (sc := defScope s_LpairsT13) (by decide +kernel)) (fun _ _ _ _ _ => (pg_name (i := 1) sc_LpairsT13.nd rfl (by first | exact Or.inl rfl | exact Or.inr rfl))) (fun _ _ _ _ _ => pts_nil) (fun _ _ _ _ _ => (pe_lc (own := [("_law_share", 2)]) (g := (gName 2)) (tt := tYes) (by rfl) sc_LpairsT13.nd (pi_list (pv 1)) (blkOk_by (own := [("_law_share", 2)]) (by rfl)) (fun _ _ _ _ _ => (pg_name (i := 2) sc_LpairsT13.nd rfl (by first | exact Or.inl rfl | exact Or.inr rfl))) (fun _ _ _ _ _ => pts_nil) (fun _ _ _ _ _ => (pe_call (ok_Lpair X) (hr.mono (by decide)) (by rfl) X.g_Lpair X.F_Lpair.kp (b_Lpair X) .nil pass0 (pa_cons (pv 2) pa_nil))))))))
theorem b_Lplan13 (X : Txt K mg) : Binds K (fdOf K (He.ga K "_law_plan_right")) ["_law_plan", "_law_first", "_law_second"] [] := X.F_Lplan13.bindsN fun _ _ _ _ _ _ us hl => match us, hl with | [_, _, _], _ => rfl
theorem ok_Lplan13 (X : Txt K mg) : FnOk P w K mg base CX0 4 (He.ga K "_law_plan_right") (fdOf K (He.ga K "_law_plan_right")) ["_law_plan", "_law_first", "_law_second"] (spOf (cfg K) (pu (c_Lplan13 (cfg K)))) := by
  refine X.F_Lplan13.ok sc_Lplan13 (fun vs H Q E h => spOf_len len_Lplan13 h) (fun cdv A outer s H vs Q E hr h => ⟨t_Lplan13 (cfg K) E, PSs.nox ?_, fn_go (pure_Lplan13 (sh_ok X)) vs H Q E h⟩)
  exact (pss_cons (ps_if (pt_cmpR (op_neD hr.units) (pe_lc (own := [("_law_row", 3)]) (g := (gName 3)) (tt := (tOr (tTest (tOp rNe (tCB (Pw.rLen (cfg K).K) (tCons (tVar 3) tNil)) (tCB (Pw.rLen (cfg K).K) (tCons (tVar 2) tNil)))) (tTest (tOp (rNeD (cfg K).K) (tLc (iList (cfg K).K (tVar 3)) (gName 5) (tOr (tTest (tOp (rI0 fun i j => .bl (decide (i < j))) (tOp (rIxT (cfg K).K) (tVar 5) (tC (.int 0))) (tC (.int 0)))) (tTest (tOp (rI0 fun i j => .bl (decide (i < j))) (tOp (rIxT (cfg K).K) (tVar 5) (tC (.int 1))) (tC (.int 1))))) (tVar 5) [5]) (tLst tNil))))) (by rfl) sc_Lplan13.nd (pi_list (pv 0)) (blkOk_by (own := [("_law_row", 3)]) (N := ["_law_plan", "_law_first", "_law_second", "_law_row", "_law_at", "_law_one_here"]) (sc := defScope s_Lplan13) (by decide +kernel)) (fun _ _ _ _ _ => (pg_name (i := 3) sc_Lplan13.nd rfl (by first | exact Or.inl rfl | exact Or.inr rfl))) (fun _ _ _ _ _ => (pts_one (PW.pt (pw_or (pt_cmpR op_ne (pe_callB call_len (by rfl) X.f_len (by decide +kernel) (pa_cons (pv 3) pa_nil)) (pe_callB call_len (by rfl) X.f_len (by decide +kernel) (pa_cons (pv 2) pa_nil)) (nomark _)) (pw_or1 (pt_cmpR (op_neD hr.units) (pe_lc (own := [("_law_one_here", 5)]) (g := (gName 5)) (tt := (tOr (tTest (tOp (rI0 fun i j => .bl (decide (i < j))) (tOp (rIxT (cfg K).K) (tVar 5) (tC (.int 0))) (tC (.int 0)))) (tTest (tOp (rI0 fun i j => .bl (decide (i < j))) (tOp (rIxT (cfg K).K) (tVar 5) (tC (.int 1))) (tC (.int 1)))))) (by rfl) sc_Lplan13.nd (pi_list (pv 3)) (blkOk_by (own := [("_law_one_here", 5)]) (by rfl)) (fun _ _ _ _ _ => (pg_name (i := 5) sc_Lplan13.nd rfl (by first | exact Or.inl rfl | exact Or.inr rfl))) (fun _ _ _ _ _ => (pts_one (PW.pt (pw_or (pt_cmpR op_lt (pe_ix ix_tup (pv 5) pe_int (fun _ _ => rfl)) pe_int (nomark _)) (pw_or1 (pt_cmpR op_lt (pe_ix ix_tup (pv 5) pe_int (fun _ _ => rfl)) pe_int (nomark _))))))) (fun _ _ _ _ _ => (pv 5))) (pe_lst pa_nil) (nomark _))))))) (fun _ _ _ _ _ => (pv 3))) (pe_lst pa_nil) (nomark _)) (pss_one (ps_ret pe_bl)) pss_nil)
      (pss_cons (ps_if (pt_cmpR (op_neD hr.units) (pe_lc (own := [("_law_row", 3)]) (g := (gName 3)) (tt := tYes) (by rfl) sc_Lplan13.nd (pi_list (pv 0)) (blkOk_by (own := [("_law_row", 3)]) (N := ["_law_plan", "_law_first", "_law_second", "_law_row", "_law_at", "_law_one_here"]) (sc := defScope s_Lplan13) (by decide +kernel)) (fun _ _ _ _ _ => (pg_name (i := 3) sc_Lplan13.nd rfl (by first | exact Or.inl rfl | exact Or.inr rfl))) (fun _ _ _ _ _ => pts_nil) (fun _ _ _ _ _ => (pe_call (ok_Ltotal X) (hr.mono (by decide)) (by rfl) X.g_Ltotal X.F_Ltotal.kp (b_Ltotal X) .nil pass0 (pa_cons (pv 3) pa_nil)))) (pv 1) (nomark _)) (pss_one (ps_ret pe_bl)) pss_nil)
      (pss_one (ps_ret (pe_cmpR (op_eqD hr.units) (pe_lc (own := [("_law_at", 4)]) (g := (gName 4)) (tt := tYes) (by rfl) sc_Lplan13.nd (pi_range1 (by rfl) X.f_range (pa_cons (pe_callB call_len (by rfl) X.f_len (by decide +kernel) (pa_cons (pv 2) pa_nil)) pa_nil)) (blkOk_by (own := [("_law_at", 4)]) (N := ["_law_plan", "_law_first", "_law_second", "_law_row", "_law_at", "_law_one_here"]) (sc := defScope s_Lplan13) (by decide +kernel)) (fun _ _ _ _ _ => (pg_name (i := 4) sc_Lplan13.nd rfl (by first | exact Or.inl rfl | exact Or.inr rfl))) (fun _ _ _ _ _ => pts_nil) (fun _ _ _ _ _ => (pe_call (ok_Ltotal X) (hr.mono (by decide)) (by rfl) X.g_Ltotal X.F_Ltotal.kp (b_Ltotal X) .nil pass0 (pa_cons (pe_lc (own := [("_law_row", 3)]) (g := (gName 3)) (tt := tYes) (by rfl) sc_Lplan13.nd (pi_list (pv 0)) (blkOk_by (own := [("_law_row", 3)]) (by rfl)) (fun _ _ _ _ _ => (pg_name (i := 3) sc_Lplan13.nd rfl (by first | exact Or.inl rfl | exact Or.inr rfl))) (fun _ _ _ _ _ => pts_nil) (fun _ _ _ _ _ => (pe_ix ix_list (pv 3) (pv 4) (fun _ _ => rfl)))) pa_nil)))) (pv 2) (nomark _))))))
theorem b_Lprices13 (X : Txt K mg) : Binds K (fdOf K (He.ga K "_law_prices_right")) ["_law_prices", "_law_costs_here"] [] := X.F_Lprices13.bindsN fun _ _ _ _ _ _ us hl => match us, hl with | [_, _], _ => rfl
theorem ok_Lprices13 (X : Txt K mg) : FnOk P w K mg base CX0 4 (He.ga K "_law_prices_right") (fdOf K (He.ga K "_law_prices_right")) ["_law_prices", "_law_costs_here"] (spOf (cfg K) (pu (c_Lprices13 (cfg K)))) := by
  refine X.F_Lprices13.ok sc_Lprices13 (fun vs H Q E h => spOf_len len_Lprices13 h) (fun cdv A outer s H vs Q E hr h => ⟨t_Lprices13 (cfg K) E, PSs.nox ?_, fn_go (pure_Lprices13 (sh_ok X)) vs H Q E h⟩)
  exact (pss_cons (ps_asg (pv 0) (pg_lst rfl (pgs_cons (pg_name (i := 2) sc_Lprices13.nd rfl (by first | exact Or.inl rfl | exact Or.inr rfl)) (pgs_cons (pg_name (i := 3) sc_Lprices13.nd rfl (by first | exact Or.inl rfl | exact Or.inr rfl)) pgs_nil))))
      (pss_cons (ps_if (PW.pt (pw_or (pt_cmpR op_ne (pe_callB call_len (by rfl) X.f_len (by decide +kernel) (pa_cons (pv 2) pa_nil)) (pe_callB call_len (by rfl) X.f_len (by decide +kernel) (pa_cons (pv 1) pa_nil)) (nomark _)) (pw_or (pt_cmpR op_ne (pe_callB call_len (by rfl) X.f_len (by decide +kernel) (pa_cons (pv 3) pa_nil)) (pe_callB call_len (by rfl) X.f_len (by decide +kernel) (pa_cons (pe_ix ix_list (pv 1) pe_int (fun _ _ => rfl)) pa_nil)) (nomark _)) (pw_or1 (pt_cmpR (op_inD hr.units) (pe_tup (pa_cons pe_int (pa_cons pe_int pa_nil))) (pe_op op_cat (pv 2) (pv 3)) (by rfl)))))) (pss_one (ps_ret pe_bl)) pss_nil)
      (pss_cons (ps_for PassesOwn.never rfl (pi_zip (by rfl) X.f_zip (pa_cons (pv 1) (pa_cons (pv 2) pa_nil))) (pg_tup rfl (pgs_cons (pg_name (i := 4) sc_Lprices13.nd rfl (by first | exact Or.inl rfl | exact Or.inr rfl)) (pgs_cons (pg_name (i := 5) sc_Lprices13.nd rfl (by first | exact Or.inl rfl | exact Or.inr rfl)) pgs_nil))) (pss_one (ps_if (pt_cmpR (op_neD hr.units) (pe_lc (own := [("_law_cost_here", 6), ("_law_other", 7)]) (g := (gTup (cfg K).K 2 (gCons (gName 6) (gCons (gName 7) gNil)))) (tt := (tB (tCall (spOf (cfg K) (pu (c_Lbelow (cfg K)))) [] E0 (tCons (tVar 6) (tCons (tCall (spOf (cfg K) (pu (c_Lless (cfg K)))) [] E0 (tCons (tVar 5) (tCons (tVar 7) tNil))) tNil))))) (by rfl) sc_Lprices13.nd (pi_zip (by rfl) X.f_zip (pa_cons (pv 4) (pa_cons (pv 3) pa_nil))) (blkOk_by (own := [("_law_cost_here", 6), ("_law_other", 7)]) (N := ["_law_prices", "_law_costs_here", "_law_here", "_law_there", "_law_row", "_law_price", "_law_cost_here", "_law_other"]) (sc := defScope s_Lprices13) (by decide +kernel)) (fun _ _ _ _ _ => (pg_tup rfl (pgs_cons (pg_name (i := 6) sc_Lprices13.nd rfl (by first | exact Or.inl rfl | exact Or.inr rfl)) (pgs_cons (pg_name (i := 7) sc_Lprices13.nd rfl (by first | exact Or.inl rfl | exact Or.inr rfl)) pgs_nil)))) (fun _ _ _ _ _ => (pts_one (pt_val (pe_call (ok_Lbelow X) (hr.mono (by decide)) (by rfl) X.g_Lbelow X.F_Lbelow.kp (b_Lbelow X) .nil pass0 (pa_cons (pv 6) (pa_cons (pe_call (ok_Lless X) (hr.mono (by decide)) (by rfl) X.g_Lless X.F_Lless.kp (b_Lless X) .nil pass0 (pa_cons (pv 5) (pa_cons (pv 7) pa_nil))) pa_nil)))))) (fun _ _ _ _ _ => pe_int)) (pe_lst pa_nil) (nomark _)) (pss_one (ps_ret pe_bl)) pss_nil)))
      (pss_one (ps_ret pe_bl)))))
theorem b_Lright13 (X : Txt K mg) : Binds K (fdOf K (He.ga K "_law_right")) ["_law_costs_here", "_law_first", "_law_second"] [] := X.F_Lright13.bindsN fun _ _ _ _ _ _ us hl => match us, hl with | [_, _, _], _ => rfl
theorem ok_Lright13 (X : Txt K mg) : FnOk P w K mg base CX0 9 (He.ga K "_law_right") (fdOf K (He.ga K "_law_right")) ["_law_costs_here", "_law_first", "_law_second"] (spOf (cfg K) (pu (c_Lright13 (cfg K)))) := by
  refine X.F_Lright13.ok sc_Lright13 (fun vs H Q E h => spOf_len len_Lright13 h) (fun cdv A outer s H vs Q E hr h => ⟨t_Lright13 (cfg K) E, PSs.nox ?_, fn_go (pure_Lright13 (ca_ok X)) vs H Q E h⟩)
  exact (pss_cons (ps_set (i := 3) sc_Lright13.nd rfl (by first | exact Or.inl rfl | exact Or.inr rfl) (pe_tup (pa_cons (pe_call (ok_LrowsS X) (hr.mono (by decide)) (by rfl) X.g_LrowsS X.F_LrowsS.kp (b_LrowsS X) .nil pass0 (pa_cons (pv 0) pa_nil)) (pa_cons (pe_call (ok_Lshares X) (hr.mono (by decide)) (by rfl) X.g_Lshares X.F_Lshares.kp (b_Lshares X) .nil pass0 (pa_cons (pv 1) pa_nil)) (pa_cons (pe_call (ok_Lshares X) (hr.mono (by decide)) (by rfl) X.g_Lshares X.F_Lshares.kp (b_Lshares X) .nil pass0 (pa_cons (pv 2) pa_nil)) pa_nil)))))
      (pss_cons (ps_set (i := 4) sc_Lright13.nd rfl (by first | exact Or.inl rfl | exact Or.inr rfl) (pe_call (ok_cheapestN X) (hr.mono (by decide)) (by rfl) X.g_cheapestN X.F_cheapestN.kp (b_cheapestN X) .nil pass0 (pa_cons (pe_ix ix_tup (pv 3) pe_int (fun _ _ => rfl)) (pa_cons (pe_ix ix_tup (pv 3) pe_int (fun _ _ => rfl)) (pa_cons (pe_ix ix_tup (pv 3) pe_int (fun _ _ => rfl)) pa_nil)))))
      (pss_cons (ps_if (PW.pt (pw_or (pt_not (pt_val (pe_callB call_isi (by rfl) X.f_isinstance (by decide +kernel) (pa_cons (pv 4) (pa_cons (pe_bltn (by rfl) X.f_tuple (by decide +kernel) rfl) pa_nil))))) (pw_or1 (pt_cmpR op_ne (pe_callB call_len (by rfl) X.f_len (by decide +kernel) (pa_cons (pv 4) pa_nil)) pe_int (nomark _))))) (pss_one (ps_ret pe_non)) pss_nil)
      (pss_cons (ps_if (pt_cmpR (op_neG (nrG_tup (mon_or (mon_list (mon_list (mon_sh (cfg K)))) (mon_list (mon_sh (cfg K)))) (eqG_or (eqG_list (mon_list (mon_sh (cfg K))) (eqG_list (mon_sh (cfg K)) (eqG_sh (sh_ok X) (ok_Share___eq__ X) X.m_Share__eq__.at_ X.m_Share__eq__.fn (b_Share___eq__ X) pass0))) (eqG_up (eqG_list (mon_sh (cfg K)) (eqG_sh (sh_ok X) (ok_Share___eq__ X) X.m_Share__eq__.at_ X.m_Share__eq__.fn (b_Share___eq__ X) pass0)) (by decide)))) (hr.mono (by decide))) (pv 3) (pe_tup (pa_cons (pe_call (ok_LrowsS X) (hr.mono (by decide)) (by rfl) X.g_LrowsS X.F_LrowsS.kp (b_LrowsS X) .nil pass0 (pa_cons (pv 0) pa_nil)) (pa_cons (pe_call (ok_Lshares X) (hr.mono (by decide)) (by rfl) X.g_Lshares X.F_Lshares.kp (b_Lshares X) .nil pass0 (pa_cons (pv 1) pa_nil)) (pa_cons (pe_call (ok_Lshares X) (hr.mono (by decide)) (by rfl) X.g_Lshares X.F_Lshares.kp (b_Lshares X) .nil pass0 (pa_cons (pv 2) pa_nil)) pa_nil)))) (nomark _)) (pss_one (ps_ret pe_non)) pss_nil)
      (pss_cons (ps_asg (pv 4) (pg_tup rfl (pgs_cons (pg_name (i := 7) sc_Lright13.nd rfl (by first | exact Or.inl rfl | exact Or.inr rfl)) (pgs_cons (pg_name (i := 8) sc_Lright13.nd rfl (by first | exact Or.inl rfl | exact Or.inr rfl)) (pgs_cons (pg_name (i := 9) sc_Lright13.nd rfl (by first | exact Or.inl rfl | exact Or.inr rfl)) pgs_nil)))))
      (pss_cons (ps_if (PW.pt (pw_or (pt_not (pt_val (pe_call (ok_is_plan X) (hr.mono (by decide)) (by rfl) X.g_is_plan X.F_is_plan.kp (b_is_plan X) .nil pass0 (pa_cons (pv 8) (pa_cons (pe_ix ix_tup (pv 3) pe_int (fun _ _ => rfl)) (pa_cons (pe_ix ix_tup (pv 3) pe_int (fun _ _ => rfl)) pa_nil)))))) (pw_or1 (pt_not (pt_val (pe_call (ok_are_prices X) (hr.mono (by decide)) (by rfl) X.g_are_prices X.F_are_prices.kp (b_are_prices X) .nil pass0 (pa_cons (pv 9) (pa_cons (pe_ix ix_tup (pv 3) pe_int (fun _ _ => rfl)) pa_nil)))))))) (pss_one (ps_ret pe_non)) pss_nil)
      (pss_cons (ps_par (by rfl) sc_Lright13.nd (i := 10) (j := 11) rfl rfl (by decide) rfl rfl (pa_cons (pe_call (ok_Lpairs13 X) (hr.mono (by decide)) (by rfl) X.g_Lpairs13 X.F_Lpairs13.kp (b_Lpairs13 X) .nil pass0 (pa_cons (pv 8) pa_nil)) (pa_cons (pe_call (ok_LpairsT13 X) (hr.mono (by decide)) (by rfl) X.g_Lpairs13 X.F_LpairsT13.kp (b_LpairsT13 X) .nil pass0 (pa_cons (pv 9) pa_nil)) pa_nil)) (by rfl))
      (pss_cons (ps_if (PW.pt (pw_or (pt_not (pt_val (pe_call (ok_Lplan13 X) (hr.mono (by decide)) (by rfl) X.g_Lplan13 X.F_Lplan13.kp (b_Lplan13 X) .nil pass0 (pa_cons (pv 10) (pa_cons (pv 1) (pa_cons (pv 2) pa_nil)))))) (pw_or1 (pt_not (pt_val (pe_call (ok_Lprices13 X) (hr.mono (by decide)) (by rfl) X.g_Lprices13 X.F_Lprices13.kp (b_Lprices13 X) .nil pass0 (pa_cons (pv 11) (pa_cons (pv 0) pa_nil)))))))) (pss_one (ps_ret pe_non)) pss_nil)
      (pss_cons (ps_set (i := 5) sc_Lright13.nd rfl (by first | exact Or.inl rfl | exact Or.inr rfl) (pe_call (ok_Ltotal X) (hr.mono (by decide)) (by rfl) X.g_Ltotal X.F_Ltotal.kp (b_Ltotal X) .nil pass0 (pa_cons (pe_lc (own := [("_law_price", 12), ("_law_share", 13)]) (g := (gTup (cfg K).K 2 (gCons (gName 12) (gCons (gName 13) gNil)))) (tt := tYes) (by rfl) sc_Lright13.nd (pi_zip (by rfl) X.f_zip (pa_cons (pe_ix ix_list (pv 11) pe_int (fun _ _ => rfl)) (pa_cons (pv 1) pa_nil))) (blkOk_by (own := [("_law_price", 12), ("_law_share", 13)]) (N := ["_law_costs_here", "_law_first", "_law_second", "_law_handed", "_law_found", "_law_gained", "_law_spent", "_law_cost_here", "_law_plan", "_law_prices", "_law_rows_here", "_law_some", "_law_price", "_law_share"]) (sc := defScope s_Lright13) (by decide +kernel)) (fun _ _ _ _ _ => (pg_tup rfl (pgs_cons (pg_name (i := 12) sc_Lright13.nd rfl (by first | exact Or.inl rfl | exact Or.inr rfl)) (pgs_cons (pg_name (i := 13) sc_Lright13.nd rfl (by first | exact Or.inl rfl | exact Or.inr rfl)) pgs_nil)))) (fun _ _ _ _ _ => pts_nil) (fun _ _ _ _ _ => (pe_call (ok_Lby X) (hr.mono (by decide)) (by rfl) X.g_Lby X.F_Lby.kp (b_Lby X) .nil pass0 (pa_cons (pv 12) (pa_cons (pv 13) pa_nil))))) pa_nil)))
      (pss_cons (ps_set (i := 6) sc_Lright13.nd rfl (by first | exact Or.inl rfl | exact Or.inr rfl) (pe_call (ok_Ltotal X) (hr.mono (by decide)) (by rfl) X.g_Ltotal X.F_Ltotal.kp (b_Ltotal X) .nil pass0 (pa_cons (pe_lc (own := [("_law_price", 12), ("_law_share", 13)]) (g := (gTup (cfg K).K 2 (gCons (gName 12) (gCons (gName 13) gNil)))) (tt := tYes) (by rfl) sc_Lright13.nd (pi_zip (by rfl) X.f_zip (pa_cons (pe_ix ix_list (pv 11) pe_int (fun _ _ => rfl)) (pa_cons (pv 2) pa_nil))) (blkOk_by (own := [("_law_price", 12), ("_law_share", 13)]) (N := ["_law_costs_here", "_law_first", "_law_second", "_law_handed", "_law_found", "_law_gained", "_law_spent", "_law_cost_here", "_law_plan", "_law_prices", "_law_rows_here", "_law_some", "_law_price", "_law_share"]) (sc := defScope s_Lright13) (by decide +kernel)) (fun _ _ _ _ _ => (pg_tup rfl (pgs_cons (pg_name (i := 12) sc_Lright13.nd rfl (by first | exact Or.inl rfl | exact Or.inr rfl)) (pgs_cons (pg_name (i := 13) sc_Lright13.nd rfl (by first | exact Or.inl rfl | exact Or.inr rfl)) pgs_nil)))) (fun _ _ _ _ _ => pts_nil) (fun _ _ _ _ _ => (pe_call (ok_Lby X) (hr.mono (by decide)) (by rfl) X.g_Lby X.F_Lby.kp (b_Lby X) .nil pass0 (pa_cons (pv 12) (pa_cons (pv 13) pa_nil))))) pa_nil)))
      (pss_cons (ps_if (pt_not (pt_chain (op_eqD hr.units) (op_eqD hr.units) (pe_call (ok_Lpair X) (hr.mono (by decide)) (by rfl) X.g_Lpair X.F_Lpair.kp (b_Lpair X) .nil pass0 (pa_cons (pv 7) pa_nil)) (pe_call (ok_LcostG X) (hr.mono (by decide)) (by rfl) X.g_LcostG X.F_LcostG.kp (b_LcostG X) .nil pass0 (pa_cons (pv 0) (pa_cons (pv 10) pa_nil))) (pe_call (ok_Lless X) (hr.mono (by decide)) (by rfl) X.g_Lless X.F_Lless.kp (b_Lless X) .nil pass0 (pa_cons (pv 5) (pa_cons (pv 6) pa_nil))))) (pss_one (ps_ret pe_non)) pss_nil)
      (pss_cons (ps_if (PW.pt (pw_or (pt_cmpR (op_ownNe (ok_Share___eq__ X) X.obj_Share X.ne_Share X.m_Share__eq__.at_ X.m_Share__eq__.fn (b_Share___eq__ X) pass0 (hr.mono (by decide))) (pe_call (ok_costW X) (hr.mono (by decide)) (by rfl) X.g_costW X.F_costW.kp (b_costW X) .nil pass0 (pa_cons (pe_ix ix_tup (pv 3) pe_int (fun _ _ => rfl)) (pa_cons (pv 8) pa_nil))) (pv 7) (nomark _)) (pw_or1 (pt_cmpR (op_ownNe (ok_Share___eq__ X) X.obj_Share X.ne_Share X.m_Share__eq__.at_ X.m_Share__eq__.fn (b_Share___eq__ X) pass0 (hr.mono (by decide))) (pe_call (ok_brought X) (hr.mono (by decide)) (by rfl) X.g_brought X.F_brought.kp (b_brought X) .nil pass0 (pa_cons (pv 9) (pa_cons (pe_ix ix_tup (pv 3) pe_int (fun _ _ => rfl)) (pa_cons (pe_ix ix_tup (pv 3) pe_int (fun _ _ => rfl)) pa_nil)))) (pv 7) (nomark _))))) (pss_one (ps_ret pe_non)) pss_nil)
      (pss_cons (ps_expr (pe_bm0 PySem.F.plainAttrs_list PySem.F.slot_list_clear PySem.F.type_list_clear mt_clear (pe_ix ix_list (pv 8) pe_int (fun _ _ => rfl))))
      (pss_cons (ps_expr (pe_bm PySem.F.plainAttrs_list PySem.F.slot_list_append PySem.F.type_list_append mt_append (pe_ix ix_tup (pv 9) pe_int (fun _ _ => rfl)) (pa_cons pe_non pa_nil)))
      (pss_one (ps_ret (pe_call (ok_Lpair X) (hr.mono (by decide)) (by rfl) X.g_Lpair X.F_Lpair.kp (b_Lpair X) .nil pass0 (pa_cons (pv 7) pa_nil))))))))))))))))))
theorem ok_law (X : Txt K mg) : FnOk P w K mg base CX0 10 (He.ga K "law") (fdOf K (He.ga K "law")) ["_law_script"] (spOf (cfg K) (c_law (cfg K))) := by
  refine X.F_law.ok sc_law (fun vs H Q E h => spOf_len len_law h) (fun cdv A outer s H vs Q E hr h => ⟨t_law (cfg K) E, PSs.nox ?_, fn_go (pure_law (ca_ok X)) vs H Q E h⟩)
  exact (pss_cons (ps_for PassesOwn.never rfl (pi_list (pe_op op_cat (pe_slice sl_list (pv 0) po_none (po_some pe_int)) (pe_lst (pa_cons pe_int (pa_cons pe_int pa_nil))))) (pg_name (i := 1) sc_law.nd rfl (by first | exact Or.inl rfl | exact Or.inr rfl)) (pss_cons (ps_set (i := 2) sc_law.nd rfl (by first | exact Or.inl rfl | exact Or.inr rfl) (pe_call (ok_Lwell X) (hr.mono (by decide)) (by rfl) X.g_Lwell X.F_Lwell.kp (b_Lwell X) .nil pass0 (pa_cons (pv 1) pa_nil)))
      (pss_cons (ps_set (i := 3) sc_law.nd rfl (by first | exact Or.inl rfl | exact Or.inr rfl) (pe_call (ok_Lone X) (hr.mono (by decide)) (by rfl) X.g_Lone X.F_Lone.kp (b_Lone X) .nil pass0 (pa_cons (pv 2) (pa_cons (pe_lst (pa_cons pe_int (pa_cons pe_int (pa_cons pe_int (pa_cons pe_int pa_nil))))) pa_nil))))
      (pss_cons (ps_set (i := 4) sc_law.nd rfl (by first | exact Or.inl rfl | exact Or.inr rfl) (pe_call (ok_Lheap X) (hr.mono (by decide)) (by rfl) X.g_Lheap X.F_Lheap.kp (b_Lheap X) .nil pass0 (pa_cons (pv 2) (pa_cons (pe_op op_add pe_int (pe_call (ok_Ldraw X) (hr.mono (by decide)) (by rfl) X.g_Ldraw X.F_Ldraw.kp (b_Ldraw X) .nil pass0 (pa_cons (pv 2) (pa_cons (pv 3) pa_nil)))) pa_nil))))
      (pss_cons (ps_set (i := 5) sc_law.nd rfl (by first | exact Or.inl rfl | exact Or.inr rfl) (pe_call (ok_Lheap X) (hr.mono (by decide)) (by rfl) X.g_Lheap X.F_Lheap.kp (b_Lheap X) .nil pass0 (pa_cons (pv 2) (pa_cons (pe_op op_add pe_int (pe_call (ok_Ldraw X) (hr.mono (by decide)) (by rfl) X.g_Ldraw X.F_Ldraw.kp (b_Ldraw X) .nil pass0 (pa_cons (pv 2) (pa_cons (pv 3) pa_nil)))) pa_nil))))
      (pss_cons (ps_set (i := 6) sc_law.nd rfl (by first | exact Or.inl rfl | exact Or.inr rfl) (pe_call (ok_LcostsW X) (hr.mono (by decide)) (by rfl) X.g_LcostsW X.F_LcostsW.kp (b_LcostsW X) .nil pass0 (pa_cons (pv 2) (pa_cons (pe_callB call_len (by rfl) X.f_len (by decide +kernel) (pa_cons (pv 4) pa_nil)) (pa_cons (pe_callB call_len (by rfl) X.f_len (by decide +kernel) (pa_cons (pv 5) pa_nil)) pa_nil)))))
      (pss_cons (ps_set (i := 7) sc_law.nd rfl (by first | exact Or.inl rfl | exact Or.inr rfl) (pe_call (ok_Lright13 X) (hr.mono (by decide)) (by rfl) X.g_Lright13 X.F_Lright13.kp (b_Lright13 X) .nil pass0 (pa_cons (pv 6) (pa_cons (pv 4) (pa_cons (pv 5) pa_nil)))))
      (pss_one (ps_if (PW.pt (pw_or (pt_cmpR op_isN (pv 7) pe_non (nomark _)) (pw_or1 (pt_cmpR (op_neD hr.units) (pe_call (ok_Lright13 X) (hr.mono (by decide)) (by rfl) X.g_Lright13 X.F_Lright13.kp (b_Lright13 X) .nil pass0 (pa_cons (pv 6) (pa_cons (pv 4) (pa_cons (pv 5) pa_nil)))) (pv 7) (nomark _))))) (pss_one (ps_ret pe_bl)) pss_nil)))))))))
      (pss_one (ps_ret pe_bl)))
end
end Lw
open PySem PySem.W PySem.Calls PyProof.Rows
theorem PySem.Challenge.cw_farbetween_k13_cheapest_plans_holds : PySem.Challenge.rw_farbetween_k13_cheapest_plans.Holds := by
  w_on; o_law
  refine HandSHeadRun.head_any (r := OpenLaw.row PySem.Challenge.rw_farbetween_k13_cheapest_plans) (q := view (OpenLaw.row PySem.Challenge.rw_farbetween_k13_cheapest_plans).prog [51]) (H := Lw.hk) (ob := Lw.ob) (M := 6000) (loose := Lw.loose) (d := HandSHeadRun.topDef (OpenLaw.row PySem.Challenge.rw_farbetween_k13_cheapest_plans).prog 51) (kwd := []) Lw.ob_eq
    (by kernel_rfl) (fun s => by kernel_rfl) Lw.run (by kernel_rfl) (by kernel_rfl) (by kernel_rfl) (by rfl) (by first | assumption | decide +kernel) (by decide +kernel) ⟨rfl, rfl, rfl, rfl, rfl, by decide +kernel⟩ ?hw ?hc
  case hw => w_witness2
  case hc =>
    refine L2.walk_ofE (l := PySem.Challenge.rw_farbetween_k13_cheapest_plans) (n := 63) (k := 10) (x := "_law_script") (CX := L2.CX0) rfl (by decide) (by kernel_rfl) ⟨rfl, by decide, by decide⟩ ?F (fun _ _ _ _ z => z)
    intro w mg fa h Y G hmg0
    obtain ⟨K, KX, c⟩ := Y
    have hmg : mg ("law" : PySem.Str) = some (.ref fa) := by
      have e : (HandSHeadRun.topDef (OpenLaw.row PySem.Challenge.rw_farbetween_k13_cheapest_plans).prog 51).name = ("law" : PySem.Str) := by kernel_rfl
      rw [← e]
      exact hmg0
    have X := Lw.txt_of KX G c
    have e := hmg.symm.trans X.g_law
    cases e
    exact ⟨K, _, _, KX, fun s v => (L2.FunD.bindsA (ps := ["_law_script"]) X.F_law fun _ _ _ _ _ _ us hl => match us, hl with | [_], _ => rfl) s [v] rfl, fun H a ns hl _ hS => Pw.law_start hl hS, fun base _ _ => Lw.ok_law X⟩
