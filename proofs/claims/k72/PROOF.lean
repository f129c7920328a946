import PyProof.Rows.All
import Wide.All
import OpenK.AllK
import Wide.FinOn
import HandS.ForMost
import HandS.ForExc
import HandS.Lambda
import HandS.Evl
import HandS.Exc
import HandS.Wide
import HandS.FStr
import HandS.IsInst
import HandS.Defaults
import HandS.OwnEq
import KE.KCallOwn
import HandS.Head0
import HandS.Head1
import HandS.Head2
import HandS.HeadEnd
import HandS.HeadHook1
import HandS.HeadHook2
import HandS.HeadWalk
import KE.KNest
import HandS.Style
import HandS.TryOnly
import HandS.ExcIs
import HandS.TupAny
import HandS.Zip
import HandS.SortKw
import KE.DataMinMax
import HandS.More
import HandS.HeadHook3
import HandS.TupLe
import PyProof.NeKinds
import HandS.TupSets
import HandS.DictTup
import KE.SortData
import KE.GoesMore
import KE.KTupSum
import HandS.Conv
import HandS.ExcInit
import HandS.ExcField
import HandS.TryMany
import HandS.TupMul
import KE.KIsAll
import KE.KDictPairs
import KE.KDictCopyH
import KE.DataCmp
import HandS.Text
import PyProof.StrOps2
import HandS.CallLocal
import KE.GoesEnum
import KE.KDictList
import HandS.DictSubView
import PyProof.Rows.TupDisplay
import PyProof.ZipIter
import KE.KItemsList
import KE.DataEq
import KE.KTurns
import HandS.Deep
import KE.KDictZip
import KE.KEqDict
import HandS.Set
import HandS.EndTab
import HandS.Flow
import KE.GoesZip
import PySem.Challenge.RW_farbetween_k72_recipes_as_texts
set_option Elab.async false
set_option linter.all false
set_option maxRecDepth 100000
set_option maxHeartbeats 4000000
structure Hd (p : Prop) : Prop where
  o : p
theorem hE {p : Prop} (h : p) : Hd p = True := eq_true ⟨h⟩
namespace Pw
open PySem PySem.Spec PyProof.Rows L2
open Evl (Ex)
abbrev mkC : HO := .own 1
abbrev mkO : HO := .own 0
structure IsCod (c : Addr) (oc : Obj) (P : Addr) (q : Str) : Prop where
  hd : ∀ h : PySem.Heap, h.get? c = some oc → PySem.W.CodeHd h c P
  nm : ∃ (vs : Array Value) (t : Tok), oc.data = .fields vs ∧ vs[1]? = some (.str q t)
def Tab (H : Hp) (P : Addr) (q : Str) : Prop := ∃ ps : Array Value, H P = some (.tbl ps) ∧ TriplesOk ps.toList ∧ ∀ (pos : Pos) (cv : Value), codeAmong pos ps.toList = some cv → ∃ c oc P', cv = .ref c ∧ H c = some (.frz oc mkC) ∧ IsCod c oc P' q
def innerQ (q : Str) : Str := (q ++ ".<locals>.") ++ "<lambda>"
def Nm (tbs : List (Addr × Str)) (H : Hp) (P : Addr) (q : Str) : Prop := (P, q) ∈ tbs ∨ ∃ c oc q0, H c = some (.frz oc mkC) ∧ IsCod c oc P q0 ∧ q = innerQ q0
structure TabsOk (tbs : List (Addr × Str)) (H : Hp) : Prop where
  tab : ∀ P q, Nm tbs H P q → Tab H P q
  uniq : ∀ P q q', Nm tbs H P q → Nm tbs H P q' → q = q'
theorem IsCod.one {c P P' : Addr} {oc : Obj} {q q' : Str} {h : PySem.Heap} (e : h.get? c = some oc) (a : IsCod c oc P q) (b : IsCod c oc P' q') : P = P' ∧ q = q' := by
  obtain ⟨o1, vs1, _, _, _, _, _, _, _, e1, _, d1, v1, _⟩ := a.hd h e
  obtain ⟨o2, vs2, _, _, _, _, _, _, _, e2, _, d2, v2, _⟩ := b.hd h e
  rw [e] at e1 e2
  cases e1
  cases e2
  rw [d1] at d2
  cases d2
  rw [v1] at v2
  cases v2
  refine ⟨rfl, ?_⟩
  obtain ⟨vs, t, n1, n2⟩ := a.nm
  obtain ⟨vs', t', n3, n4⟩ := b.nm
  rw [n1] at n3
  cases n3
  rw [n2] at n4
  cases n4
  rfl
theorem TabsOk.keep {tbs : List (Addr × Str)} {H H' : Hp} (t : TabsOk tbs H) (a : ∀ b ps, H b = some (.tbl ps) → H' b = some (.tbl ps)) (k : ∀ b oc, H b = some (.frz oc mkC) → H' b = some (.frz oc mkC)) (n : ∀ b oc, H' b = some (.frz oc mkC) → H b = some (.frz oc mkC)) : TabsOk tbs H' := by
  have key : ∀ P q, Tab H P q → Tab H' P q := fun P q ⟨ps, h1, h2, h3⟩ => ⟨ps, a _ _ h1, h2, fun pos cv hc => by
    obtain ⟨c, oc, P', e1, e2, e3⟩ := h3 pos cv hc
    exact ⟨c, oc, P', e1, k _ _ e2, e3⟩⟩
  have nm : ∀ P q, Nm tbs H' P q → Nm tbs H P q := fun P q h => h.imp id fun ⟨c, oc, q0, e, i, z⟩ => ⟨c, oc, q0, n _ _ e, i, z⟩
  exact ⟨fun P q h => key _ _ (t.tab P q (nm _ _ h)), fun P q q' h h' => t.uniq P q q' (nm _ _ h) (nm _ _ h')⟩
structure LExt (H H' : Hp) : Prop where
  keep : ∀ b u, H b = some u → (∀ ps, u ≠ .tbl ps) → H' b = some u
  tbl : ∀ b ps, H b = some (.tbl ps) → ∃ more, H' b = some (.tbl (ps ++ more))
theorem LExt.refl (H : Hp) : LExt H H := ⟨fun _ _ h _ => h, fun b ps h => ⟨#[], by rw [h]; simp⟩⟩
section
variable {M : Model} {A : Around} {E : Value → Shared → Prop} {s : Shared} {name qual : Str} {params : Arguments} {body : Expr} {scope : Scope} {env : Env} {c P : Addr} {ps : Array Value} {pos : Pos} {firstLine : Nat} {mg : Str → Option Value}
  {clos : List (Str × Addr)} {Q : Value → Shared → Prop}
end
section
variable {X : Cx} {pins : List (Addr × Obj)} {σ : L2.St} {H : Hp} {s : Shared}
structure GStep (G G1 : Hp) (c : Addr) (oc : Obj) : Prop where
  old : ∀ b o, G b = some (.frz o mkC) → G1 b = some (.frz o mkC)
  new : ∀ b o, G1 b = some (.frz o mkC) → G b = some (.frz o mkC) ∨ b = c ∧ o = oc
  tbl : ∀ b u, G1 b = some u → G b = some u ∨ (∃ ps, u = .tbl ps) ∨ b = c ∧ u = .frz oc mkC
  at_ : G1 c = some (.frz oc mkC)
theorem GStep.refl {G : Hp} {c : Addr} {oc : Obj} (h : G c = some (.frz oc mkC)) : GStep G G c oc := ⟨fun _ _ e => e, fun _ _ e => .inl e, fun _ _ e => .inl e, h⟩
end
def CellIs (ob : Obj) (v : V) : Prop := ∃ u, ob.data = .cell (some u) ∧ RelV v u
abbrev SpL := List V → Hp → VK → XK → Prop
def CallOk (P : Program) (w : World) (K : PySem.W.Frag) (mg : Str → Option Value) (base : PySem.Heap) (k : Nat) (f : Addr) (o : Obj) (cells : List (Addr × V)) (cc : Addr × Obj) (sp : SpL) : Prop :=
  ∀ (A : Around) (outer : List Env) (s : Shared) (H : Hp) (us : List Value) (vs : List V) (Q : VK) (E : XK), Room k A → Env0 P w K mg base A outer s H → s.heap.get? f = some o → (∀ p ∈ cells, ∃ ob, H p.1 = some (.frz ob mkO) ∧ CellIs ob p.2) → H cc.1 = some (.frz cc.2 mkC) → Vals vs us → sp vs H Q E →
    codeAny (model P w) A (.call (.ref f) ⟨us, []⟩) (CR (L2.CX P w) outer P w H s Q E) s
structure CapOk (cl : List (Str × Addr)) (fr : List Str) (cells : List (Addr × V)) : Prop where
  inj : ∀ y z c, cl.lookup y = some c → cl.lookup z = some c → y = z
  dom : ∀ y c, cl.lookup y = some c → y ∈ fr
  len : cells.length = fr.length
  get : ∀ (i : Nat) y, fr[i]? = some y → ∃ c v, cl.lookup y = some c ∧ cells[i]? = some (c, v)
theorem CapOk.cell {cl : List (Str × Addr)} {fr : List Str} {cells : List (Addr × V)} (C : CapOk cl fr cells) {y : Str} {c : Addr} (h : cl.lookup y = some c) : c ∈ cells.map (·.1) := by
  obtain ⟨i, hi⟩ := List.getElem?_of_mem (C.dom y c h)
  obtain ⟨c', v, e, g⟩ := C.get i y hi
  rw [h] at e
  cases e
  exact List.mem_map.2 ⟨_, List.mem_of_getElem? g, rfl⟩
def FunO (o : Obj) : Prop := ∃ fd : FuncData, o = { cls := .type "function", data := .func fd }
def fnH (P : Program) (w : World) (K : PySem.W.Frag) (mg : Str → Option Value) (base : PySem.Heap) (k : Nat) (f : Addr) (o : Obj) (cells : List (Addr × V)) (cc : Addr × Obj) (sp : SpL) : HO := .frz o (.ext fun _ => CallOk P w K mg base k f o cells cc sp)
def BmOk (base : PySem.Heap) (mg : Str → Option Value) : Prop := ∃ P, base.BuiltinsAt mg P
theorem BmOk.at {X : Cx} {pins : List (Addr × Obj)} {σ : L2.St} {H : Hp} {s : Shared} (b : BmOk X.base X.mg) (I : Inv X pins σ H s) {P : Addr} {u : HO} (h : H P = some u) : s.heap.BuiltinsAt X.mg P ∧ mainGlobals ≠ P := by
  obtain ⟨P0, bm, ob, b1, b2, b3, b4, b5, b6, b7, b8⟩ := b
  have nb : ∀ a o, X.base.get? a = some o → a ≠ P := fun a o e z => by
    have := (I.bs a o e).2
    rw [z, h] at this; cases this
  refine ⟨⟨bm, ob, b1, b2, b3, nb bm ob b5, I.bk _ _ b5, b6, b7, b8⟩, ?_⟩
  obtain ⟨o, _, _, e, _⟩ := I.mod.glob
  exact nb _ o e
open Evl (Ex ex_l ex_t fresh_back)
inductive D where
  | non | bl (b : Bool) | int (i : Int) | str (x : Str) | ty (n : String) | ptr (a : Addr)
  | lst (ds : List D) | seq (ds : List D) | tup (ds : List D) | ins (c : Nat) (fs : List (Str × D)) | dic (kvs : List (Key × D))
  | key (ks : List Key) | dit (kvs : List (List Key × D)) | dil (kvs : List (Key × D)) | cod (c : Addr) (oc : Obj) (P : Addr) (q : Str) | dut (kvs : List (List Key × D)) | exn (a dd : Addr) (f : Str) (e : D)
inductive MO where
  | lst (ds : List D) | dK (kvs : List (Key × D)) | ins (c : Nat) (fs : List (Str × D)) | well (b : Nat) | dT (kvs : List (List Key × D)) | lkK (kvs : List (Key × D)) (o : HO) | lkT (kvs : List (List Key × D)) (o : HO)
  | clo (k : Nat) (f : Addr) (o : Obj) (cells : List (Addr × V)) (cc : Addr × Obj) (sp : SpL) (caps : List (D × V)) | cel (ob : Obj) | dF (a : Addr) (kvs : List (List Key × D))
abbrev Mu := Addr → Option MO
abbrev mu0 : Mu := fun _ => none
def put (μ : Mu) (a : Addr) (m : MO) : Mu := fun b => if b = a then some m else μ b
def del (μ : Mu) (a : Addr) : Mu := fun b => if b = a then none else μ b
theorem put_same {μ : Mu} {a : Addr} {m : MO} : put μ a m a = some m := if_pos rfl
theorem put_ne {μ : Mu} {a b : Addr} {m : MO} (h : b ≠ a) : put μ a m b = μ b := if_neg h
theorem put_put {μ : Mu} {a : Addr} {m n : MO} : put (put μ a m) a n = put μ a n := by
  funext b; unfold put; split <;> rfl
theorem del_put {μ : Mu} {a : Addr} {m : MO} (h : μ a = none) : del (put μ a m) a = μ := by
  funext b; unfold del put; split
  · rename_i e; rw [e, h]
  · rfl
structure Cfg where
  K : PySem.W.Frag
  cls : Nat → Addr
  P : Program
  w : World
  mg : Str → Option Value
  base : PySem.Heap
  tbs : List (Addr × Str)
  kts : List (Addr × List Key) := []
def Cfg.nl (T : Cfg) : Cfg := { T with tbs := [], kts := [] }
inductive Rep (T : Cfg) (H : Hp) : D → V → Prop where
  | non : Rep T H .non .non
  | bl (b : Bool) : Rep T H (.bl b) (.bl b)
  | int (i : Int) : Rep T H (.int i) (.int i)
  | str (x : Str) : Rep T H (.str x) (.str x)
  | ty (n : String) : Rep T H (.ty n) (.ty n)
  | ptr (a : Addr) : Rep T H (.ptr a) (.ref a)
  | lst {a : Addr} {ds : List D} {xs : List V} (h : H a = some (.lst xs)) (l : ds.length = xs.length) (r : ∀ (i : Nat) (d : D) (v : V), ds[i]? = some d → xs[i]? = some v → Rep T H d v) : Rep T H (.lst ds) (.ref a)
  | seq {a : Addr} {ds : List D} {xs : List V} (h : SqL T.K H a xs) (l : ds.length = xs.length) (r : ∀ (i : Nat) (d : D) (v : V), ds[i]? = some d → xs[i]? = some v → Rep T H d v) : Rep T H (.seq ds) (.ref a)
  | tup {a : Addr} {ds : List D} {xs : List V} (h : SqT T.K H a xs) (l : ds.length = xs.length) (r : ∀ (i : Nat) (d : D) (v : V), ds[i]? = some d → xs[i]? = some v → Rep T H d v) : Rep T H (.tup ds) (.ref a)
  | ins {a dx : Addr} {c : Nat} {gs : List (Str × D)} {fs : List (Str × V)} (h : H a = some (.ins (T.cls c) dx fs)) (l : gs.map (·.1) = fs.map (·.1)) (r : ∀ (i : Nat) (g : Str × D) (f : Str × V), gs[i]? = some g → fs[i]? = some f → Rep T H g.2 f.2) : Rep T H (.ins c gs) (.ref a)
  | dic {a : Addr} {gs : List (Key × D)} {fs : List (Key × V)} (h : H a = some (.dK fs)) (l : gs.map (·.1) = fs.map (·.1)) (r : ∀ (i : Nat) (g : Key × D) (f : Key × V), gs[i]? = some g → fs[i]? = some f → Rep T H g.2 f.2) : Rep T H (.dic gs) (.ref a)
  | key {a : Addr} {ks : List Key} (h : H a = some (.tup (ks.map kV))) : Rep T H (.key ks) (.ref a)
  | dit {a : Addr} {od : Obj} {gs : List (List Key × D)} {fs : List (List Key × V)} (h : H a = some (.frz od (.dT fs))) (l : gs.map (·.1) = fs.map (·.1)) (r : ∀ (i : Nat) (g : List Key × D) (f : List Key × V), gs[i]? = some g → fs[i]? = some f → Rep T H g.2 f.2) : Rep T H (.dit gs) (.ref a)
  | dil {a : Addr} {od : Obj} {gs : List (Key × D)} {fs : List (Key × V)} (h : H a = some (.frz od (.dK fs))) (l : gs.map (·.1) = fs.map (·.1)) (r : ∀ (i : Nat) (g : Key × D) (f : Key × V), gs[i]? = some g → fs[i]? = some f → Rep T H g.2 f.2) : Rep T H (.dil gs) (.ref a)
  | cod {c P : Addr} {oc : Obj} {q : Str} (h : H c = some (.frz oc mkC)) (i : IsCod c oc P q) : Rep T H (.cod c oc P q) (.ref c)
  | dut {a : Addr} {gs : List (List Key × D)} {fs : List (List Key × V)} (h : H a = some (.dT fs)) (l : gs.map (·.1) = fs.map (·.1)) (r : ∀ (i : Nat) (g : List Key × D) (f : List Key × V), gs[i]? = some g → fs[i]? = some f → Rep T H g.2 f.2) : Rep T H (.dut gs) (.ref a)
  | exn {a dd : Addr} {f : Str} {e : D} {v : V} (h : H dd = some (.xd [(f, v)])) (r : Rep T H e v) : Rep T H (.exn a dd f e) (.ref a)
def RepL (T : Cfg) (H : Hp) (ds : List D) (xs : List V) : Prop := ds.length = xs.length ∧ ∀ (i : Nat) (d : D) (v : V), ds[i]? = some d → xs[i]? = some v → Rep T H d v
def RepP {α : Type} (T : Cfg) (H : Hp) (gs : List (α × D)) (fs : List (α × V)) : Prop := gs.map (·.1) = fs.map (·.1) ∧ ∀ (i : Nat) (g : α × D) (f : α × V), gs[i]? = some g → fs[i]? = some f → Rep T H g.2 f.2
section
variable {T : Cfg} {H H' : Hp}
theorem Rep.mono {d : D} {v : V} (e : Ex H H') (h : Rep T H d v) : Rep T H' d v := by
  induction h with
  | non => exact .non
  | bl b => exact .bl b
  | int i => exact .int i
  | str x => exact .str x
  | ty n => exact .ty n
  | ptr a => exact .ptr a
  | lst h l r ih => exact .lst (e _ _ h) l ih
  | seq h l r ih => exact .seq (ex_l e h) l ih
  | tup h l r ih => exact .tup (ex_t e h) l ih
  | ins h l r ih => exact .ins (e _ _ h) l ih
  | dic h l r ih => exact .dic (e _ _ h) l ih
  | key h => exact .key (e _ _ h)
  | dit h l r ih => exact .dit (e _ _ h) l ih
  | dil h l r ih => exact .dil (e _ _ h) l ih
  | dut h l r ih => exact .dut (e _ _ h) l ih
  | exn h r ih => exact .exn (e _ _ h) ih
  | cod h i => exact .cod (e _ _ h) i
theorem RepL.mono {ds : List D} {xs : List V} (e : Ex H H') (h : RepL T H ds xs) : RepL T H' ds xs := ⟨h.1, fun i d v a b => (h.2 i d v a b).mono e⟩
theorem RepP.mono {α : Type} {gs : List (α × D)} {fs : List (α × V)} (e : Ex H H') (h : RepP T H gs fs) : RepP T H' gs fs := ⟨h.1, fun i d v a b => (h.2 i d v a b).mono e⟩
theorem RepL.nil : RepL T H [] [] := ⟨rfl, fun i d v a _ => by simp at a⟩
theorem RepL.cons {d : D} {v : V} {ds : List D} {xs : List V} (h : Rep T H d v) (t : RepL T H ds xs) : RepL T H (d :: ds) (v :: xs) := by
  refine ⟨by simp [t.1], fun i e w a b => ?_⟩
  cases i with
  | zero =>
    simp at a b
    subst a; subst b
    exact h
  | succ i =>
    simp at a b
    exact t.2 i e w a b
theorem RepL.head {d : D} {v : V} {ds : List D} {xs : List V} (h : RepL T H (d :: ds) (v :: xs)) : Rep T H d v := h.2 0 d v rfl rfl
theorem RepL.tail {d : D} {v : V} {ds : List D} {xs : List V} (h : RepL T H (d :: ds) (v :: xs)) : RepL T H ds xs := by
  refine ⟨by have := h.1; simpa using this, fun i e w a b => h.2 (i + 1) e w (by simpa using a) (by simpa using b)⟩
theorem RepL.nil_inv {xs : List V} (h : RepL T H [] xs) : xs = [] := by
  have := h.1
  cases xs with
  | nil => rfl
  | cons _ _ => simp at this
theorem RepL.cons_inv {d : D} {ds : List D} {xs : List V} (h : RepL T H (d :: ds) xs) : ∃ v ys, xs = v :: ys ∧ Rep T H d v ∧ RepL T H ds ys := by
  cases xs with
  | nil => have := h.1; simp at this
  | cons v ys => exact ⟨v, ys, rfl, h.head, h.tail⟩
theorem RepL.app {ds es : List D} {xs ys : List V} (h : RepL T H ds xs) (k : RepL T H es ys) : RepL T H (ds ++ es) (xs ++ ys) := by
  refine ⟨by simp [h.1, k.1], fun i d v a b => ?_⟩
  by_cases hi : i < ds.length
  · rw [List.getElem?_append_left hi] at a
    rw [List.getElem?_append_left (by rw [← h.1]; exact hi)] at b
    exact h.2 i d v a b
  · rw [List.getElem?_append_right (by omega)] at a
    rw [List.getElem?_append_right (by rw [← h.1]; omega), ← h.1] at b
    exact k.2 _ d v a b
theorem RepL.get {ds : List D} {xs : List V} (h : RepL T H ds xs) {i : Nat} {d : D} (a : ds[i]? = some d) : ∃ v, xs[i]? = some v ∧ Rep T H d v := by
  have hi : i < ds.length := (List.getElem?_eq_some_iff.mp a).1
  have hx : i < xs.length := by rw [← h.1]; exact hi
  exact ⟨xs[i], List.getElem?_eq_getElem hx, h.2 i d _ a (List.getElem?_eq_getElem hx)⟩
theorem RepL.drop {ds : List D} {xs : List V} (h : RepL T H ds xs) (n : Nat) : RepL T H (ds.drop n) (xs.drop n) :=
  ⟨by simp [h.1], fun i d v a b => h.2 (n + i) d v (by simpa using a) (by simpa using b)⟩
theorem RepL.take {ds : List D} {xs : List V} (h : RepL T H ds xs) (n : Nat) : RepL T H (ds.take n) (xs.take n) := by
  refine ⟨by simp [h.1], fun i d v a b => ?_⟩
  rw [List.getElem?_take] at a b
  split at a
  · rename_i hi
    rw [if_pos hi] at b
    exact h.2 i d v a b
  · cases a
theorem RepL.set {ds : List D} {xs : List V} (h : RepL T H ds xs) {j : Nat} {d : D} {v : V} (r : Rep T H d v) : RepL T H (ds.set j d) (xs.set j v) := by
  refine ⟨by simp [h.1], fun i e w a b => ?_⟩
  rw [List.getElem?_set] at a b
  split at a
  · rename_i hij
    rw [if_pos hij] at b
    split at a
    · split at b
      · cases a; cases b; exact r
      · cases b
    · cases a
  · rename_i hij
    rw [if_neg hij] at b
    exact h.2 i e w a b
theorem RepL.bls {bs : List Bool} {xs : List V} (h : RepL T H (bs.map D.bl) xs) : xs = bs.map V.bl := by
  induction bs generalizing xs with
  | nil => exact h.nil_inv
  | cons n r ih =>
    obtain ⟨v, ys, rfl, a, b⟩ := RepL.cons_inv (d := D.bl n) (ds := r.map D.bl) h
    cases a
    rw [ih b]
    rfl
theorem Rep.lst_inv {ds : List D} {v : V} (h : Rep T H (.lst ds) v) : ∃ a xs, v = .ref a ∧ H a = some (.lst xs) ∧ RepL T H ds xs := by
  cases h with
  | lst h l r => exact ⟨_, _, rfl, h, l, r⟩
theorem Rep.seq_inv {ds : List D} {v : V} (h : Rep T H (.seq ds) v) : ∃ a xs, v = .ref a ∧ SqL T.K H a xs ∧ RepL T H ds xs := by
  cases h with
  | seq h l r => exact ⟨_, _, rfl, h, l, r⟩
theorem Rep.tup_inv {ds : List D} {v : V} (h : Rep T H (.tup ds) v) : ∃ a xs, v = .ref a ∧ SqT T.K H a xs ∧ RepL T H ds xs := by
  cases h with
  | tup h l r => exact ⟨_, _, rfl, h, l, r⟩
theorem Rep.ins_inv {c : Nat} {gs : List (Str × D)} {v : V} (h : Rep T H (.ins c gs) v) : ∃ a dx fs, v = .ref a ∧ H a = some (.ins (T.cls c) dx fs) ∧ RepP T H gs fs := by
  cases h with
  | ins h l r => exact ⟨_, _, _, rfl, h, l, r⟩
theorem RepP.look {gs : List (Str × D)} {fs : List (Str × V)} (h : RepP T H gs fs) {f : Str} {d : D} (e : gs.lookup f = some d) : ∃ v, fs.lookup f = some v ∧ Rep T H d v := by
  obtain ⟨h1, h2⟩ := h
  induction gs generalizing fs with
  | nil => simp at e
  | cons g gs ih =>
    cases fs with
    | nil => simp at h1
    | cons z fs =>
      obtain ⟨a, d'⟩ := g
      obtain ⟨b, v'⟩ := z
      simp only [List.map_cons, List.cons.injEq] at h1
      obtain ⟨e1, e2⟩ := h1
      have e1 : a = b := e1
      subst e1
      rw [List.lookup_cons] at e ⊢
      by_cases hf : (f == a) = true
      · rw [hf] at e ⊢
        have := h2 0 (a, d') (a, v') rfl rfl
        cases e
        exact ⟨v', rfl, this⟩
      · simp only [Bool.not_eq_true] at hf
        rw [hf] at e ⊢
        exact ih e e2 fun i g f a b => h2 (i + 1) g f (by simpa using a) (by simpa using b)
theorem RepP.lookNone {gs : List (Str × D)} {fs : List (Str × V)} (h : gs.map (·.1) = fs.map (·.1)) {f : Str} (e : gs.lookup f = none) : fs.lookup f = none := by
  induction gs generalizing fs with
  | nil => cases fs with
    | nil => rfl
    | cons _ _ => simp at h
  | cons g gs ih =>
    cases fs with
    | nil => simp at h
    | cons z fs =>
      obtain ⟨a, d'⟩ := g
      obtain ⟨b, v'⟩ := z
      simp only [List.map_cons, List.cons.injEq] at h
      obtain ⟨e1, e2⟩ := h
      have e1 : a = b := e1
      subst e1
      rw [List.lookup_cons] at e ⊢
      by_cases hf : (f == a) = true
      · rw [hf] at e; cases e
      · simp only [Bool.not_eq_true] at hf
        rw [hf] at e ⊢
        exact ih e2 e
end
def putG (f : Str) (d : D) : List (Str × D) → List (Str × D)
  | [] => [(f, d)]
  | (g, x) :: r => if g = f then (g, d) :: r else (g, x) :: putG f d r
def FDo (P : Program) (w : World) (a : Addr) (xs : List (List Key × Addr × V)) : HO := .ext fun h => (a == sysModules) = false ∧ xs.length ≤ sizeLine ∧
  ∃ us : List (List Key × Addr × Value), Paired (fun (p : List Key × Addr × V) (q : List Key × Addr × Value) => p.1 = q.1 ∧ p.2.1 = q.2.1 ∧ RelV p.2.2 q.2.2) xs us ∧
    ∃ o es ep, h.get? a = some o ∧ o.ExactDict ∧ o.data = .dict es ep ∧ es.toList = us.map (entryOfKey (tupleKind (mixKind P w))) ∧ (us.map (·.1)).Nodup
def KeyRow (T : Cfg) (Hb : Hp) (kvs : List (List Key × D)) (xs : List (List Key × Addr × V)) : Prop := kvs.map (·.1) = xs.map (·.1) ∧
  ∀ (i : Nat) (g : List Key × D) (f : List Key × Addr × V), kvs[i]? = some g → xs[i]? = some f → Rep T Hb g.2 f.2.2 ∧ SqT T.K Hb f.2.1 (f.1.map kV)
theorem KeyRow.mono {T : Cfg} {H H' : Hp} {kvs : List (List Key × D)} {xs : List (List Key × Addr × V)} (e : Ex H H') (h : KeyRow T H kvs xs) : KeyRow T H' kvs xs :=
  ⟨h.1, fun i g f a b => let ⟨r, k⟩ := h.2 i g f a b; ⟨r.mono e, ex_t e k⟩⟩
def ObjRep (T : Cfg) (Hb : Hp) : MO → HO → Prop
  | .lst ds, .lst xs => RepL T Hb ds xs
  | .dK kvs, .dK es => RepP T Hb kvs es
  | .dT kvs, .dT es => RepP T Hb kvs es
  | .lkK kvs o, o' => o' = o ∧ ∃ od fs, o = .frz od (.dK fs) ∧ RepP T Hb kvs fs
  | .lkT kvs o, o' => o' = o ∧ ∃ od fs, o = .frz od (.dT fs) ∧ RepP T Hb kvs fs
  | .ins c gs, .ins C _ fs => C = T.cls c ∧ RepP T Hb gs fs
  | .clo k f o cells cc sp caps, o' => o' = fnH T.P T.w T.K T.mg T.base k f o cells cc sp ∧ FunO o ∧ Hb cc.1 = some (.frz cc.2 mkC) ∧ ∀ z ∈ caps, Rep T Hb z.1 z.2
  | .cel ob, o' => o' = .frz ob mkO
  | .dF a kvs, o' => ∃ xs, o' = FDo T.P T.w a xs ∧ KeyRow T Hb kvs xs
  | .well b, .lst xs => ∃ w0 w1 w2 : Int, xs = [.int w0, .int w1, .int w2, .int 0] ∧ 0 ≤ w0 ∧ 0 ≤ w1 ∧ w1 < 2147483647 ∧ 0 ≤ w2 ∧ w2 + (b : Int) ≤ 1073741824
  | _, _ => False
theorem ObjRep.mono {T : Cfg} {H H' : Hp} {m : MO} {o : HO} (e : Ex H H') (h : ObjRep T H m o) : ObjRep T H' m o := by
  cases m <;> cases o <;> first
    | exact h.elim
    | exact RepL.mono e h
    | exact RepP.mono e h
    | exact ⟨h.1, RepP.mono e h.2⟩
    | (obtain ⟨xs, h1, h2⟩ := h; exact ⟨xs, h1, KeyRow.mono e h2⟩)
    | (obtain ⟨h1, od, fs, h2, h3⟩ := h; exact ⟨h1, od, fs, h2, RepP.mono e h3⟩)
    | (obtain ⟨h1, h2, h3, h4⟩ := h; exact ⟨h1, h2, e _ _ h3, fun z hz => (h4 z hz).mono e⟩)
    | exact h
def NoTC (o : HO) : Prop := (∀ ps, o ≠ .tbl ps) ∧ ∀ oc, o ≠ .frz oc mkC
theorem ObjRep.ntc {T : Cfg} {Hb : Hp} {m : MO} {o : HO} (r : ObjRep T Hb m o) : NoTC o := by
  refine ⟨fun ps e => ?_, fun oc e => ?_⟩ <;> subst e <;> cases m <;> first
    | exact r
    | (obtain ⟨h1, od, fs, h2, h3⟩ := r; rw [h2] at h1; cases h1)
    | (obtain ⟨xs, h1, _⟩ := r; unfold FDo at h1; exact HO.noConfusion h1)
    | (obtain ⟨h1, _⟩ := r; exact HO.noConfusion h1)
    | exact HO.noConfusion r
    | (obtain ⟨h1, _⟩ := r; exact HO.noConfusion (HO.frz.inj h1).2)
    | exact absurd (HO.own.inj (HO.frz.inj r).2) (by decide)
def TabsIn (T : Cfg) (Hb H : Hp) : Prop := ∃ G, Ex G H ∧ TabsOk T.tbs G ∧ (∀ c oc, G c = some (.frz oc mkC) ↔ Hb c = some (.frz oc mkC)) ∧ ∀ a u, G a = some u → ¬ NoTC u
def Kt (T : Cfg) (Hb : Hp) : Prop := ∀ z ∈ T.kts, Hb z.1 = some (.tup (z.2.map kV))
theorem Kt.ex {T : Cfg} {Hb Hb' : Hp} (k : Kt T Hb) (e : Ex Hb Hb') : Kt T Hb' := fun z h => e _ _ (k z h)
structure SimMu (T : Cfg) (μ : Mu) (Hb H : Hp) : Prop where
  of : ∀ a m, μ a = some m → Hb a = none ∧ ∃ o, H a = some o ∧ ObjRep T Hb m o
  tab : TabsIn T Hb H
  ntb : ∀ a ps, Hb a ≠ some (.tbl ps)
  kt : Kt T Hb
instance {T : Cfg} {μ : Mu} {Hb H : Hp} : CoeFun (SimMu T μ Hb H) (fun _ => ∀ a m, μ a = some m → Hb a = none ∧ ∃ o, H a = some o ∧ ObjRep T Hb m o) := ⟨SimMu.of⟩
theorem SimMu.nil {T : Cfg} {μ : Mu} {Hb H : Hp} (s : SimMu T μ Hb H) : SimMu T mu0 Hb H := ⟨fun _ _ h => (nomatch h), s.tab, s.ntb, s.kt⟩
theorem SimMu.as {T : Cfg} {μ μ' : Mu} {Hb H : Hp} (s : SimMu T μ Hb H) (h : ∀ a m, μ' a = some m → Hb a = none ∧ ∃ o, H a = some o ∧ ObjRep T Hb m o) : SimMu T μ' Hb H := ⟨h, s.tab, s.ntb, s.kt⟩
theorem SimMu.up {T : Cfg} {μ μ' : Mu} {Hb H Hb' H' : Hp} (s : SimMu T μ Hb H) (e : ∀ a u, ¬ NoTC u → H a = some u → H' a = some u) (x : ∀ a u, ¬ NoTC u → (Hb' a = some u ↔ Hb a = some u)) (h : ∀ a m, μ' a = some m → Hb' a = none ∧ ∃ o, H' a = some o ∧ ObjRep T Hb' m o) (k : Kt T Hb') : SimMu T μ' Hb' H' := by
  obtain ⟨G, xG, TO, hc, hn⟩ := s.tab
  exact ⟨h, ⟨G, fun a u q => e a u (hn a u q) (xG a u q), TO, fun c oc => (hc c oc).trans (x c _ fun z => z.2 oc rfl).symm, hn⟩, fun a ps q => s.ntb a ps ((x a _ fun z => z.1 ps rfl).1 q), k⟩
theorem upd_ntc {H : Hp} {p : Addr} {o : HO} (hp : ∀ u, H p = some u → NoTC u) (ho : NoTC o) : ∀ a u, ¬ NoTC u → (upd H p o a = some u ↔ H a = some u) := fun a u hu => by
  by_cases e : a = p
  · subst e
    rw [upd_same]
    exact ⟨fun q => absurd (Option.some.inj q ▸ ho) hu, fun q => absurd (hp u q) hu⟩
  · rw [upd_ne e]
structure Go (T : Cfg) (μ : Mu) (Hb H : Hp) (μ' : Mu) (Hb' H' : Hp) : Prop where
  ex : Ex Hb Hb'
  keep : ∀ a o, H a = some o → Hb a = none → μ a = none → (T.tbs = [] ∨ ∀ ps, o ≠ .tbl ps) → H' a = some o ∧ ((∀ xs, o ≠ .tup xs) → Hb' a = none)
  new : ∀ a m, μ' a = some m → μ a ≠ none ∨ H a = none
  alive : ∀ a o, H a = some o → ∃ o', H' a = some o'
  sub : Ex Hb' H'
  mu : SimMu T μ' Hb' H'
section
variable {T : Cfg} {μ μ1 μ2 : Mu} {Hb H Hb1 H1 Hb2 H2 : Hp}
theorem Go.refl (s : Ex Hb H) (m : SimMu T μ Hb H) : Go T μ Hb H μ Hb H :=
  ⟨Ex.refl _, fun _ _ h n _ _ => ⟨h, fun _ => n⟩, fun _ _ h => .inl (by rw [h]; simp), fun _ o h => ⟨o, h⟩, s, m⟩
theorem Go.trans (a : Go T μ Hb H μ1 Hb1 H1) (b : Go T μ1 Hb1 H1 μ2 Hb2 H2) : Go T μ Hb H μ2 Hb2 H2 where
  ex := a.ex.trans b.ex
  keep := fun c o h n m nt => by
    obtain ⟨h1, n1⟩ := a.keep c o h n m nt
    have m1 : μ1 c = none := by
      cases e : μ1 c with
      | none => rfl
      | some z =>
        rcases a.new c z e with q | q
        · exact absurd m q
        · rw [h] at q; cases q
    cases hb : Hb1 c with
    | none => exact b.keep c o h1 hb m1 nt
    | some o' =>
      have eo : o' = o := by
        have := a.sub c o' hb
        rw [h1] at this
        exact (Option.some.inj this).symm
      subst eo
      refine ⟨b.sub c _ (b.ex c _ hb), fun nt => ?_⟩
      rw [n1 nt] at hb
      cases hb
  new := fun c z h => by
    have dead : H1 c = none → H c = none := fun q => by
      cases e : H c with
      | none => rfl
      | some o =>
        obtain ⟨o', e'⟩ := a.alive c o e
        rw [q] at e'; cases e'
    rcases b.new c z h with q | q
    · cases e : μ1 c with
      | none => exact absurd e q
      | some y => exact a.new c y e
    · exact .inr (dead q)
  alive := fun c o h => by
    obtain ⟨o', e⟩ := a.alive c o h
    exact b.alive c o' e
  sub := b.sub
  mu := b.mu
theorem Go.lay (s : Ex Hb H) (m : SimMu T μ Hb H) {p : Addr} {o : HO} (hp : H p = none) (ho : NoTC o := by exact ⟨fun _ z => (nomatch z), fun _ z => (nomatch z)⟩) : Go T μ Hb H μ (upd Hb p o) (upd H p o) := by
  have hb : Hb p = none := fresh_back s hp
  refine ⟨Evl.Ex.new hb, fun a u h n _ _ => ?_, fun _ _ h => .inl (by rw [h]; simp), fun a u h => ?_, fun a u h => ?_, m.up (k := m.kt.ex (Evl.Ex.new hb)) (fun a u n q => (upd_ntc (fun u q => by rw [hp] at q; cases q) ho a u n).2 q) (upd_ntc (fun u q => by rw [hb] at q; cases q) ho) fun a z h => ?_⟩
  · have ne : a ≠ p := ne_of_none h hp
    rw [upd_ne ne, upd_ne ne]
    exact ⟨h, fun _ => n⟩
  · have ne : a ≠ p := ne_of_none h hp
    exact ⟨u, by rw [upd_ne ne]; exact h⟩
  · by_cases e : a = p
    · subst e; rw [upd_same] at h ⊢; exact h
    · rw [upd_ne e] at h ⊢; exact s a u h
  · obtain ⟨n, u, hu, r⟩ := m a z h
    have ne : a ≠ p := ne_of_none hu hp
    exact ⟨by rw [upd_ne ne]; exact n, u, by rw [upd_ne ne]; exact hu, r.mono (Evl.Ex.new hb)⟩
theorem Go.own (s : Ex Hb H) (m : SimMu T μ Hb H) {p : Addr} {o : HO} {z : MO} (hp : H p = none) (r : ObjRep T Hb z o) : Go T μ Hb H (put μ p z) Hb (upd H p o) := by
  have hb : Hb p = none := fresh_back s hp
  refine ⟨Ex.refl _, fun a u h n _ _ => ⟨by rw [upd_ne (ne_of_none h hp)]; exact h, fun _ => n⟩, fun a y h => ?_, fun a u h => ⟨u, by rw [upd_ne (ne_of_none h hp)]; exact h⟩, fun a u h => ?_, m.up (k := m.kt) (fun a u n q => (upd_ntc (fun u q => by rw [hp] at q; cases q) r.ntc a u n).2 q) (fun _ _ _ => Iff.rfl) fun a y h => ?_⟩
  · by_cases e : a = p
    · subst e; exact .inr hp
    · rw [put_ne e] at h; exact .inl (by rw [h]; simp)
  · rw [upd_ne (ne_of_none (s a u h) hp)]; exact s a u h
  · by_cases e : a = p
    · subst e
      rw [put_same] at h
      cases h
      exact ⟨hb, o, upd_same, r⟩
    · rw [put_ne e] at h
      obtain ⟨n, u, hu, q⟩ := m a y h
      exact ⟨n, u, by rw [upd_ne e]; exact hu, q⟩
theorem Go.chg (s : Ex Hb H) (m : SimMu T μ Hb H) {p : Addr} {o : HO} {z y : MO} (hp : μ p = some y) (r : ObjRep T Hb z o) : Go T μ Hb H (put μ p z) Hb (upd H p o) := by
  obtain ⟨hb, u0, hu0, r0⟩ := m p y hp
  refine ⟨Ex.refl _, fun a u h n w _ => ?_, fun a x h => ?_, fun a u h => ?_, fun a u h => ?_, m.up (k := m.kt) (fun a u n q => (upd_ntc (fun u q => by rw [hu0] at q; cases q; exact r0.ntc) r.ntc a u n).2 q) (fun _ _ _ => Iff.rfl) fun a x h => ?_⟩
  · have ne : a ≠ p := fun e => by subst e; rw [hp] at w; cases w
    exact ⟨by rw [upd_ne ne]; exact h, fun _ => n⟩
  · by_cases e : a = p
    · subst e; exact .inl (by rw [hp]; simp)
    · rw [put_ne e] at h; exact .inl (by rw [h]; simp)
  · by_cases e : a = p
    · subst e; exact ⟨o, upd_same⟩
    · exact ⟨u, by rw [upd_ne e]; exact h⟩
  · have ne : a ≠ p := fun e => by subst e; rw [h] at hb; cases hb
    rw [upd_ne ne]; exact s a u h
  · by_cases e : a = p
    · subst e
      rw [put_same] at h
      cases h
      exact ⟨hb, o, upd_same, r⟩
    · rw [put_ne e] at h
      obtain ⟨n, u, hu, q⟩ := m a x h
      exact ⟨n, u, by rw [upd_ne e]; exact hu, q⟩
theorem Go.freeze (s : Ex Hb H) (m : SimMu T μ Hb H) {p : Addr} {o : HO} {y : MO} (hp : μ p = some y) (ho : H p = some o) : Go T μ Hb H (del μ p) (upd Hb p o) H := by
  obtain ⟨hb, u0, hu0, r0⟩ := m p y hp
  have ex : Ex Hb (upd Hb p o) := Evl.Ex.new hb
  refine ⟨ex, fun a u h n w _ => ?_, fun a x h => ?_, fun a u h => ⟨u, h⟩, fun a u h => ?_, m.up (k := m.kt.ex ex) (fun _ _ _ q => q) (upd_ntc (fun u q => by rw [hb] at q; cases q) (by rw [ho] at hu0; cases hu0; exact r0.ntc)) fun a x h => ?_⟩
  · have ne : a ≠ p := fun e => by subst e; rw [hp] at w; cases w
    exact ⟨h, fun _ => by rw [upd_ne ne]; exact n⟩
  · unfold del at h
    split at h
    · cases h
    · exact .inl (by rw [h]; simp)
  · by_cases e : a = p
    · subst e; rw [upd_same] at h; cases h; exact ho
    · rw [upd_ne e] at h; exact s a u h
  · unfold del at h
    split at h
    · cases h
    · rename_i e
      obtain ⟨n, u, hu, q⟩ := m a x h
      exact ⟨by rw [upd_ne e]; exact n, u, hu, q.mono ex⟩
end
theorem ObjRep.notTup {T : Cfg} {Hb : Hp} {m : MO} {o : HO} (r : ObjRep T Hb m o) (xs : List V) : o ≠ .tup xs := fun e => by
  subst e
  cases m <;> first
    | exact r
    | (obtain ⟨h1, od, fs, h2, h3⟩ := r; rw [h2] at h1; cases h1)
    | (obtain ⟨xs, h1, _⟩ := r; unfold FDo at h1; exact HO.noConfusion h1)
    | (obtain ⟨h1, _⟩ := r; exact HO.noConfusion h1)
    | exact HO.noConfusion r
theorem Go.keepN {T : Cfg} {μ μ' : Mu} {Hb H Hb' H' Hc : Hp} {a : Addr} {o : HO} {m : MO} (g : Go T μ Hb H μ' Hb' H') (h : H a = some o) (hb : Hb a = none) (hm : μ a = none) (r : ObjRep T Hc m o) : H' a = some o ∧ Hb' a = none :=
  ⟨(g.keep a o h hb hm (.inr r.ntc.1)).1, (g.keep a o h hb hm (.inr r.ntc.1)).2 r.notTup⟩
theorem Go.tup {T : Cfg} {μ : Mu} {Hb H : Hp} (s : Ex Hb H) (m : SimMu T μ Hb H) {p : Addr} {xs : List V} (hp : H p = some (.tup xs)) : Go T μ Hb H μ (upd Hb p (.tup xs)) H := by
  have ex : Ex Hb (upd Hb p (.tup xs)) := fun a o h => by
    by_cases e : a = p
    · subst e
      have := s a o h
      rw [hp] at this
      rw [upd_same]
      exact this
    · rw [upd_ne e]; exact h
  refine ⟨ex, fun a u h n w _ => ⟨h, fun nt => ?_⟩, fun a x h => .inl (by rw [h]; simp), fun a u h => ⟨u, h⟩, fun a u h => ?_, m.up (k := m.kt.ex ex) (fun _ _ _ q => q) (upd_ntc (fun u q => by have := s p u q; rw [hp] at this; cases this; exact ⟨fun _ z => (nomatch z), fun _ z => (nomatch z)⟩) ⟨fun _ z => (nomatch z), fun _ z => (nomatch z)⟩) fun a x h => ?_⟩
  · have ne : a ≠ p := fun e => by subst e; rw [hp] at h; exact nt xs (Option.some.inj h).symm
    rw [upd_ne ne]; exact n
  · by_cases e : a = p
    · subst e; rw [upd_same] at h; cases h; exact hp
    · rw [upd_ne e] at h; exact s a u h
  · obtain ⟨n, u, hu, r⟩ := m a x h
    have ne : a ≠ p := fun e => by
      subst e
      rw [hp] at hu
      exact r.notTup xs (Option.some.inj hu).symm
    exact ⟨by rw [upd_ne ne]; exact n, u, hu, r.mono ex⟩
structure S where
  r : List (Option D)
  m : Mu
structure Sim (T : Cfg) (s : S) (σ : L2.St) (Hb H : Hp) : Prop where
  len : s.r.length = σ.length
  vars : ∀ (i : Nat) (d : D), s.r[i]? = some (some d) → ∃ v, σ[i]? = some (some v) ∧ Rep T Hb d v
  sub : Ex Hb H
  mu : SimMu T s.m Hb H
section
variable {T : Cfg} {s : S} {ρ : List (Option D)} {m0 : Mu} {σ : L2.St} {Hb H Hb' H' : Hp} {μ' : Mu}
theorem Sim.refl (h : Sim T s σ Hb H) : Go T s.m Hb H s.m Hb H := .refl h.sub h.mu
theorem Sim.go (h : Sim T s σ Hb H) (g : Go T s.m Hb H μ' Hb' H') : Sim T ⟨s.r, μ'⟩ σ Hb' H' :=
  ⟨h.len, fun i d e => by obtain ⟨v, a, b⟩ := h.vars i d e; exact ⟨v, a, b.mono g.ex⟩, g.sub, g.mu⟩
theorem Sim.set (h : Sim T s σ Hb H) (i : Nat) {d : D} {v : V} (r : Rep T Hb d v) : Sim T ⟨s.r.set i (some d), s.m⟩ (σ.set i (some v)) Hb H := by
  refine ⟨by simp [h.len], fun j e a => ?_, h.sub, h.mu⟩
  have a : (s.r.set i (some d))[j]? = some (some e) := a
  rw [List.getElem?_set] at a
  rw [List.getElem?_set]
  split at a
  · rename_i hij
    rw [if_pos hij]
    split at a
    · rename_i hl
      rw [if_pos (by rw [← h.len]; exact hl)]
      cases a
      exact ⟨v, rfl, r⟩
    · cases a
  · rename_i hij
    rw [if_neg hij]
    exact h.vars j e a
end
structure XD where
  cls : Value
  val : Option (Str × D)
def RepX (T : Cfg) (Hb : Hp) (x : XD) (cls : Value) (dd : Option Addr) : Prop :=
  cls = x.cls ∧ match x.val with
  | none => dd = none
  | some (f, d) => ∃ a v, dd = some a ∧ Hb a = some (.xd [(f, v)]) ∧ Rep T Hb d v
abbrev XW := XD → Mu → Prop
def EV (T : Cfg) (te : TE) (W : WX) (s : S) (P : D → Mu → Prop) (XP : XW) : Prop :=
  ∀ σ Hb H Q, Sim T s σ Hb H → (∀ d μ' v Hb' H', Go T s.m Hb H μ' Hb' H' → Rep T Hb' d v → P d μ' → Q v H') →
    (∀ x μ' cls dd Hb' H', Go T s.m Hb H μ' Hb' H' → RepX T Hb' x cls dd → XP x μ' → W cls dd σ H') → te σ H Q
def EA (T : Cfg) (ta : TA) (W : WX) (s : S) (P : List D → Mu → Prop) (XP : XW) : Prop :=
  ∀ σ Hb H Q, Sim T s σ Hb H → (∀ ds μ' vs Hb' H', Go T s.m Hb H μ' Hb' H' → RepL T Hb' ds vs → P ds μ' → Q vs H') →
    (∀ x μ' cls dd Hb' H', Go T s.m Hb H μ' Hb' H' → RepX T Hb' x cls dd → XP x μ' → W cls dd σ H') → ta σ H Q
def TV (T : Cfg) (tt : TT) (W : WX) (s : S) (P : Bool → Mu → Prop) (XP : XW) : Prop :=
  ∀ σ Hb H Q, Sim T s σ Hb H → (∀ b μ' Hb' H', Go T s.m Hb H μ' Hb' H' → P b μ' → Q b H') →
    (∀ x μ' cls dd Hb' H', Go T s.m Hb H μ' Hb' H' → RepX T Hb' x cls dd → XP x μ' → W cls dd σ H') → tt σ H Q
def OV' (T : Cfg) (to : TO) (W : WX) (s : S) (P : Option Int → Mu → Prop) (XP : XW) : Prop :=
  ∀ σ Hb H Q, Sim T s σ Hb H → (∀ o μ' Hb' H', Go T s.m Hb H μ' Hb' H' → P o μ' → Q o H') →
    (∀ x μ' cls dd Hb' H', Go T s.m Hb H μ' Hb' H' → RepX T Hb' x cls dd → XP x μ' → W cls dd σ H') → to σ H Q
def OV (T : Cfg) (r : R2) (d e : D) (μ : Mu) (P : D → Mu → Prop) : Prop :=
  ∀ x y Hb H Q, Ex Hb H → SimMu T μ Hb H → Rep T Hb d x → Rep T Hb e y → (∀ z μ' v Hb' H', Go T μ Hb H μ' Hb' H' → Rep T Hb' z v → P z μ' → Q v H') → r x y H Q
def UV (T : Cfg) (r : V → Hp → VK → Prop) (d : D) (μ : Mu) (P : D → Mu → Prop) : Prop :=
  ∀ x Hb H Q, Ex Hb H → SimMu T μ Hb H → Rep T Hb d x → (∀ z μ' v Hb' H', Go T μ Hb H μ' Hb' H' → Rep T Hb' z v → P z μ' → Q v H') → r x H Q
def CV (T : Cfg) (r : List V → Hp → VK → Prop) (ds : List D) (μ : Mu) (P : D → Mu → Prop) : Prop :=
  ∀ xs Hb H Q, Ex Hb H → SimMu T μ Hb H → RepL T Hb ds xs → (∀ z μ' v Hb' H', Go T μ Hb H μ' Hb' H' → Rep T Hb' z v → P z μ' → Q v H') → r xs H Q
section
variable {T : Cfg} {W : WX} {s : S} {ρ : List (Option D)} {m0 : Mu} {P : D → Mu → Prop} {XP : XW} {ta tb te : TE}
theorem EV.imp {P' : D → Mu → Prop} (h : EV T te W s P XP) (k : ∀ d μ, P d μ → P' d μ) : EV T te W s P' XP := fun σ Hb H Q S q x => h σ Hb H Q S (fun d μ' v Hb' H' g r p => q d μ' v Hb' H' g r (k d μ' p)) x
theorem ev_var {i : Nat} {d : D} (h : ρ[i]? = some (some d)) (p : P d m0) : EV T (tVar i) W ⟨ρ, m0⟩ P XP := fun σ Hb H Q S q _ => by
  obtain ⟨v, e, r⟩ := S.vars i d h
  exact ⟨v, e, q d m0 v Hb H S.refl r p⟩
theorem ev_int {i : Int} (p : P (.int i) m0) : EV T (tC (.int i)) W ⟨ρ, m0⟩ P XP := fun σ Hb H Q S q _ => q _ _ _ _ _ S.refl (.int i) p
theorem ev_bl {i : Bool} (p : P (.bl i) m0) : EV T (tC (.bl i)) W ⟨ρ, m0⟩ P XP := fun σ Hb H Q S q _ => q _ _ _ _ _ S.refl (.bl i) p
theorem ev_str {i : Str} (p : P (.str i) m0) : EV T (tC (.str i)) W ⟨ρ, m0⟩ P XP := fun σ Hb H Q S q _ => q _ _ _ _ _ S.refl (.str i) p
theorem ev_non (p : P .non m0) : EV T (tC .non) W ⟨ρ, m0⟩ P XP := fun σ Hb H Q S q _ => q _ _ _ _ _ S.refl .non p
theorem ev_ty {n : String} (p : P (.ty n) m0) : EV T (tC (.ty n)) W ⟨ρ, m0⟩ P XP := fun σ Hb H Q S q _ => q _ _ _ _ _ S.refl (.ty n) p
theorem ev_ref {a : Addr} (p : P (.ptr a) m0) : EV T (tC (.ref a)) W ⟨ρ, m0⟩ P XP := fun σ Hb H Q S q _ => q _ _ _ _ _ S.refl (.ptr a) p
theorem ev_op {r : R2} (h : EV T ta W ⟨ρ, m0⟩ (fun d μ1 => EV T tb W ⟨ρ, μ1⟩ (fun e μ2 => OV T r d e μ2 P) XP) XP) : EV T (tOp r ta tb) W ⟨ρ, m0⟩ P XP := fun σ Hb H Q S q x =>
  h σ Hb H _ S (fun d μ1 v Hb1 H1 g1 r1 p1 => p1 σ Hb1 H1 _ (S.go g1) (fun e μ2 w Hb2 H2 g2 r2 p2 =>
    p2 v w Hb2 H2 Q g2.sub g2.mu (r1.mono g2.ex) r2 fun z μ' u Hb' H' g3 r3 p3 => q z μ' u Hb' H' ((g1.trans g2).trans g3) r3 p3)
    (fun y μ' cls dd Hb' H' g r p => x y μ' cls dd Hb' H' (g1.trans g) r p)) x
theorem ev_un {r : V → Hp → VK → Prop} (h : EV T ta W ⟨ρ, m0⟩ (fun d μ1 => UV T r d μ1 P) XP) : EV T (tUn r ta) W ⟨ρ, m0⟩ P XP := fun σ Hb H Q S q x =>
  h σ Hb H _ S (fun d μ1 v Hb1 H1 g1 r1 p1 => p1 v Hb1 H1 Q g1.sub g1.mu r1 fun z μ' u Hb' H' g3 r3 p3 => q z μ' u Hb' H' (g1.trans g3) r3 p3) x
theorem ea_nil {P : List D → Mu → Prop} (p : P [] m0) : EA T tNil W ⟨ρ, m0⟩ P XP := fun σ Hb H Q S q _ => q [] _ [] _ _ S.refl .nil p
theorem ea_cons {tr : TA} {P : List D → Mu → Prop} (h : EV T ta W ⟨ρ, m0⟩ (fun d μ1 => EA T tr W ⟨ρ, μ1⟩ (fun ds μ2 => P (d :: ds) μ2) XP) XP) : EA T (tCons ta tr) W ⟨ρ, m0⟩ P XP := fun σ Hb H Q S q x =>
  h σ Hb H _ S (fun d μ1 v Hb1 H1 g1 r1 p1 => p1 σ Hb1 H1 _ (S.go g1) (fun ds μ2 vs Hb2 H2 g2 r2 p2 => q (d :: ds) μ2 (v :: vs) Hb2 H2 (g1.trans g2) (.cons (r1.mono g2.ex) r2) p2)
    (fun y μ' cls dd Hb' H' g r p => x y μ' cls dd Hb' H' (g1.trans g) r p)) x
theorem ev_cb {r : List V → Hp → VK → Prop} {ta : TA} (h : EA T ta W ⟨ρ, m0⟩ (fun ds μ1 => CV T r ds μ1 P) XP) : EV T (tCB r ta) W ⟨ρ, m0⟩ P XP := fun σ Hb H Q S q x =>
  h σ Hb H _ S (fun ds μ1 vs Hb1 H1 g1 r1 p1 => p1 vs Hb1 H1 Q g1.sub g1.mu r1 fun z μ' u Hb' H' g3 r3 p3 => q z μ' u Hb' H' (g1.trans g3) r3 p3) x
theorem ev_lst {ta : TA} (h : EA T ta W ⟨ρ, m0⟩ (fun ds μ1 => ds.length ≤ 100000 ∧ P (.lst ds) μ1) XP) : EV T (tLst ta) W ⟨ρ, m0⟩ P XP := fun σ Hb H Q S q x =>
  h σ Hb H _ S (fun ds μ1 vs Hb1 H1 g1 r1 ⟨hl, p1⟩ => ⟨by rw [← r1.1]; exact Evl.sz_of hl, fun p hp => by
    have g := Go.lay g1.sub g1.mu (o := .lst vs) hp
    exact q _ _ _ _ _ (g1.trans g) (.lst upd_same r1.1 (r1.mono g.ex).2) p1⟩) x
theorem ev_tup {ta : TA} (h : EA T ta W ⟨ρ, m0⟩ (fun ds μ1 => ds.length ≤ 100000 ∧ P (.tup ds) μ1) XP) : EV T (tTup ta) W ⟨ρ, m0⟩ P XP := fun σ Hb H Q S q x =>
  h σ Hb H _ S (fun ds μ1 vs Hb1 H1 g1 r1 ⟨hl, p1⟩ => ⟨by rw [← r1.1]; exact Evl.sz_of hl, fun p hp => by
    have g := Go.lay g1.sub g1.mu (o := .tup vs) hp
    exact q _ _ _ _ _ (g1.trans g) (.tup (Evl.st_of upd_same) r1.1 (r1.mono g.ex).2) p1⟩) x
theorem ev_lstM {ta : TA} (h : EA T ta W ⟨ρ, m0⟩ (fun ds μ1 => ds.length ≤ 100000 ∧ ∀ p, μ1 p = none → P (.ptr p) (put μ1 p (.lst ds))) XP) : EV T (tLst ta) W ⟨ρ, m0⟩ P XP := fun σ Hb H Q S q x =>
  h σ Hb H _ S (fun ds μ1 vs Hb1 H1 g1 r1 ⟨hl, p1⟩ => ⟨by rw [← r1.1]; exact Evl.sz_of hl, fun p hp => by
    have g := Go.own g1.sub g1.mu (o := .lst vs) (z := .lst ds) hp r1
    refine q _ _ _ _ _ (g1.trans g) (.ptr p) (p1 p ?_)
    cases e : μ1 p with
    | none => rfl
    | some m =>
      obtain ⟨_, o, ho, _⟩ := g1.mu p m e
      rw [hp] at ho; cases ho⟩) x
theorem ev_fld {f : Str} (h : EV T ta W ⟨ρ, m0⟩ (fun d μ1 => ∃ c gs e, d = .ins c gs ∧ Cls T.K (T.cls c) ∧ NoAttr T.K (T.cls c) f ∧ gs.lookup f = some e ∧ P e μ1) XP) : EV T (tFld T.K ta f) W ⟨ρ, m0⟩ P XP := fun σ Hb H Q S q x =>
  h σ Hb H _ S (fun d μ1 v Hb1 H1 g1 r1 p1 => by
    obtain ⟨c, gs, e, rfl, hc, hn, hl, p⟩ := p1
    obtain ⟨a, dx, fs, rfl, ha, r⟩ := r1.ins_inv
    obtain ⟨v, hv, rv⟩ := r.look hl
    exact ⟨a, T.cls c, dx, fs, v, rfl, g1.sub _ _ ha, hc, hn, hv, q e μ1 v Hb1 H1 g1 rv p⟩) x
theorem ev_fldM {f : Str} (h : EV T ta W ⟨ρ, m0⟩ (fun d μ1 => ∃ a c gs e, d = .ptr a ∧ μ1 a = some (.ins c gs) ∧ Cls T.K (T.cls c) ∧ NoAttr T.K (T.cls c) f ∧ gs.lookup f = some e ∧ P e μ1) XP) : EV T (tFld T.K ta f) W ⟨ρ, m0⟩ P XP := fun σ Hb H Q S q x =>
  h σ Hb H _ S (fun d μ1 v Hb1 H1 g1 r1 p1 => by
    obtain ⟨a, c, gs, e, rfl, hm, hc, hn, hl, p⟩ := p1
    cases r1
    obtain ⟨_, o, ho, r⟩ := g1.mu a _ hm
    cases o with
    | ins C dx fs =>
      obtain ⟨rfl, r⟩ := r
      obtain ⟨v, hv, rv⟩ := r.look hl
      exact ⟨a, T.cls c, dx, fs, v, rfl, ho, hc, hn, hv, q e μ1 v Hb1 H1 g1 rv p⟩
    | _ => exact r.elim) x
theorem ev_if {t : TT} (h : TV T t W ⟨ρ, m0⟩ (fun b μ1 => (b = true → EV T ta W ⟨ρ, μ1⟩ P XP) ∧ (b = false → EV T tb W ⟨ρ, μ1⟩ P XP)) XP) : EV T (tIf t ta tb) W ⟨ρ, m0⟩ P XP := fun σ Hb H Q S q x =>
  h σ Hb H _ S (fun b μ1 Hb1 H1 g1 ⟨p1, p2⟩ => by
    cases b with
    | true =>
      show ta σ H1 Q
      exact p1 rfl σ Hb1 H1 Q (S.go g1) (fun d μ' v Hb' H' g r p => q d μ' v Hb' H' (g1.trans g) r p) (fun y μ' cls dd Hb' H' g r p => x y μ' cls dd Hb' H' (g1.trans g) r p)
    | false =>
      show tb σ H1 Q
      exact p2 rfl σ Hb1 H1 Q (S.go g1) (fun d μ' v Hb' H' g r p => q d μ' v Hb' H' (g1.trans g) r p) (fun y μ' cls dd Hb' H' g r p => x y μ' cls dd Hb' H' (g1.trans g) r p)) x
theorem ev_and (h : EV T ta W ⟨ρ, m0⟩ (fun d μ1 => ∃ b, d = .bl b ∧ (b = true → EV T tb W ⟨ρ, μ1⟩ P XP) ∧ (b = false → P (.bl false) μ1)) XP) : EV T (tAndV ta tb) W ⟨ρ, m0⟩ P XP := fun σ Hb H Q S q x =>
  h σ Hb H _ S (fun d μ1 v Hb1 H1 g1 r1 p1 => by
    obtain ⟨b, rfl, p1, p2⟩ := p1
    cases r1
    refine ⟨b, rfl, ?_⟩
    cases b with
    | true =>
      show tb σ H1 Q
      exact p1 rfl σ Hb1 H1 Q (S.go g1) (fun d μ' v Hb' H' g r p => q d μ' v Hb' H' (g1.trans g) r p) (fun y μ' cls dd Hb' H' g r p => x y μ' cls dd Hb' H' (g1.trans g) r p)
    | false => exact q _ _ _ _ _ g1 (.bl false) (p2 rfl)) x
theorem ev_or (h : EV T ta W ⟨ρ, m0⟩ (fun d μ1 => ∃ b, d = .bl b ∧ (b = false → EV T tb W ⟨ρ, μ1⟩ P XP) ∧ (b = true → P (.bl true) μ1)) XP) : EV T (tOrV ta tb) W ⟨ρ, m0⟩ P XP := fun σ Hb H Q S q x =>
  h σ Hb H _ S (fun d μ1 v Hb1 H1 g1 r1 p1 => by
    obtain ⟨b, rfl, p1, p2⟩ := p1
    cases r1
    refine ⟨b, rfl, ?_⟩
    cases b with
    | false =>
      show tb σ H1 Q
      exact p1 rfl σ Hb1 H1 Q (S.go g1) (fun d μ' v Hb' H' g r p => q d μ' v Hb' H' (g1.trans g) r p) (fun y μ' cls dd Hb' H' g r p => x y μ' cls dd Hb' H' (g1.trans g) r p)
    | true => exact q _ _ _ _ _ g1 (.bl true) (p2 rfl)) x
theorem ev_not (h : EV T ta W ⟨ρ, m0⟩ (fun d μ1 => ∃ b, d = .bl b ∧ P (.bl (!b)) μ1) XP) : EV T (tNotV ta) W ⟨ρ, m0⟩ P XP := fun σ Hb H Q S q x =>
  h σ Hb H _ S (fun d μ1 v Hb1 H1 g1 r1 p1 => by
    obtain ⟨b, rfl, p⟩ := p1
    cases r1
    exact ⟨b, rfl, q _ _ _ _ _ g1 (.bl _) p⟩) x
theorem tv_test {P : Bool → Mu → Prop} (h : EV T te W ⟨ρ, m0⟩ (fun d μ1 => ∃ b, d = .bl b ∧ P b μ1) XP) : TV T (tTest te) W ⟨ρ, m0⟩ P XP := fun σ Hb H Q S q x =>
  h σ Hb H _ S (fun d μ1 v Hb1 H1 g1 r1 p1 => by
    obtain ⟨b, rfl, p⟩ := p1
    cases r1
    exact ⟨b, rfl, q _ _ _ _ g1 p⟩) x
theorem tv_B {P : Bool → Mu → Prop} (h : EV T te W ⟨ρ, m0⟩ (fun d μ1 => ∃ b, d = .bl b ∧ P b μ1) XP) : TV T (tB te) W ⟨ρ, m0⟩ P XP := fun σ Hb H Q S q x =>
  h σ Hb H _ S (fun d μ1 v Hb1 H1 g1 r1 p1 => by
    obtain ⟨b, rfl, p⟩ := p1
    cases r1
    exact ⟨b, rfl, q _ _ _ _ g1 p⟩) x
theorem tv_and {t u : TT} {P : Bool → Mu → Prop} (h : TV T t W ⟨ρ, m0⟩ (fun b μ1 => (b = true → TV T u W ⟨ρ, μ1⟩ P XP) ∧ (b = false → P false μ1)) XP) : TV T (tAnd t u) W ⟨ρ, m0⟩ P XP := fun σ Hb H Q S q x =>
  h σ Hb H _ S (fun b μ1 Hb1 H1 g1 ⟨p1, p2⟩ => by
    cases b with
    | true =>
      show u σ H1 Q
      exact p1 rfl σ Hb1 H1 Q (S.go g1) (fun d μ' Hb' H' g p => q d μ' Hb' H' (g1.trans g) p) (fun y μ' cls dd Hb' H' g r p => x y μ' cls dd Hb' H' (g1.trans g) r p)
    | false => exact q _ _ _ _ g1 (p2 rfl)) x
theorem tv_or {t u : TT} {P : Bool → Mu → Prop} (h : TV T t W ⟨ρ, m0⟩ (fun b μ1 => (b = false → TV T u W ⟨ρ, μ1⟩ P XP) ∧ (b = true → P true μ1)) XP) : TV T (tOr t u) W ⟨ρ, m0⟩ P XP := fun σ Hb H Q S q x =>
  h σ Hb H _ S (fun b μ1 Hb1 H1 g1 ⟨p1, p2⟩ => by
    cases b with
    | false =>
      show u σ H1 Q
      exact p1 rfl σ Hb1 H1 Q (S.go g1) (fun d μ' Hb' H' g p => q d μ' Hb' H' (g1.trans g) p) (fun y μ' cls dd Hb' H' g r p => x y μ' cls dd Hb' H' (g1.trans g) r p)
    | true => exact q _ _ _ _ g1 (p2 rfl)) x
theorem tv_not {t : TT} {P : Bool → Mu → Prop} (h : TV T t W ⟨ρ, m0⟩ (fun b μ1 => P (!b) μ1) XP) : TV T (tNot t) W ⟨ρ, m0⟩ P XP := fun σ Hb H Q S q x =>
  h σ Hb H _ S (fun b μ1 Hb1 H1 g1 p => q _ _ _ _ g1 p) x
theorem tv_yes {P : Bool → Mu → Prop} (p : P true m0) : TV T tYes W ⟨ρ, m0⟩ P XP := fun σ Hb H Q S q _ => q _ _ _ _ S.refl p
theorem po_no {P : Option Int → Mu → Prop} (p : P none m0) : OV' T tNoPart W ⟨ρ, m0⟩ P XP := fun σ Hb H Q S q _ => q _ _ _ _ S.refl p
theorem po_so {P : Option Int → Mu → Prop} (h : EV T te W ⟨ρ, m0⟩ (fun d μ1 => ∃ i, d = .int i ∧ P (some i) μ1) XP) : OV' T (tPart te) W ⟨ρ, m0⟩ P XP := fun σ Hb H Q S q x =>
  h σ Hb H _ S (fun d μ1 v Hb1 H1 g1 r1 p1 => by
    obtain ⟨i, rfl, p⟩ := p1
    cases r1
    exact ⟨i, rfl, q _ _ _ _ g1 p⟩) x
end
inductive Out where
  | nx (s : S) | rt (d : D) (m : Mu) | bk (s : S) | ct (s : S) | xr (x : XD) (s : S)
structure Cn (T : Cfg) (W : WX) (m : Mu) (Hb H : Hp) (Dn : Ends) (K : Out → Prop) : Prop where
  nx : ∀ s' σ' Hb' H', Go T m Hb H s'.m Hb' H' → Sim T s' σ' Hb' H' → K (.nx s') → Dn.nx σ' H'
  rt : ∀ d μ' v Hb' H', Go T m Hb H μ' Hb' H' → Rep T Hb' d v → K (.rt d μ') → Dn.rt v H'
  bk : ∀ s' σ' Hb' H', Go T m Hb H s'.m Hb' H' → Sim T s' σ' Hb' H' → K (.bk s') → Dn.bk σ' H'
  ct : ∀ s' σ' Hb' H', Go T m Hb H s'.m Hb' H' → Sim T s' σ' Hb' H' → K (.ct s') → Dn.ct σ' H'
  xr : ∀ x s' cls dd σ' Hb' H', Go T m Hb H s'.m Hb' H' → Sim T s' σ' Hb' H' → RepX T Hb' x cls dd → K (.xr x s') → W cls dd σ' H'
def SV (T : Cfg) (ts : TS) (W : WX) (s : S) (K : Out → Prop) : Prop := ∀ σ Hb H Dn, Sim T s σ Hb H → Cn T W s.m Hb H Dn K → ts Dn σ H
section
variable {T : Cfg} {W : WX} {s : S} {ρ : List (Option D)} {m0 : Mu} {K : Out → Prop} {ta tb te : TE} {m m1 : Mu} {Hb H Hb1 H1 : Hp} {Dn : Ends}
theorem Cn.go (c : Cn T W m Hb H Dn K) (g : Go T m Hb H m1 Hb1 H1) : Cn T W m1 Hb1 H1 Dn K :=
  ⟨fun s' σ' Hb' H' g' S k => c.nx s' σ' Hb' H' (g.trans g') S k, fun d μ' v Hb' H' g' r k => c.rt d μ' v Hb' H' (g.trans g') r k, fun s' σ' Hb' H' g' S k => c.bk s' σ' Hb' H' (g.trans g') S k,
    fun s' σ' Hb' H' g' S k => c.ct s' σ' Hb' H' (g.trans g') S k, fun x s' cls dd σ' Hb' H' g' S r k => c.xr x s' cls dd σ' Hb' H' (g.trans g') S r k⟩
theorem SV.imp {ts : TS} {K' : Out → Prop} (h : SV T ts W s K) (k : ∀ o, K o → K' o) : SV T ts W s K' := fun σ Hb H Dn S c => h σ Hb H Dn S
  ⟨fun s' σ' Hb' H' g S q => c.nx s' σ' Hb' H' g S (k _ q), fun d μ' v Hb' H' g r q => c.rt d μ' v Hb' H' g r (k _ q), fun s' σ' Hb' H' g S q => c.bk s' σ' Hb' H' g S (k _ q),
    fun s' σ' Hb' H' g S q => c.ct s' σ' Hb' H' g S (k _ q), fun x s' cls dd σ' Hb' H' g S r q => c.xr x s' cls dd σ' Hb' H' g S r (k _ q)⟩
abbrev xk (s : S) (K : Out → Prop) : XW := fun x μ => K (.xr x ⟨s.r, μ⟩)
theorem Cn.x (c : Cn T W s.m Hb H Dn K) {σ : L2.St} (S : Sim T s σ Hb H) : ∀ x μ' cls dd Hb' H', Go T s.m Hb H μ' Hb' H' → RepX T Hb' x cls dd → xk s K x μ' → W cls dd σ H' :=
  fun x μ' cls dd Hb' H' g r k => c.xr x ⟨s.r, μ'⟩ cls dd σ Hb' H' g (S.go g) r k
def seqK (T : Cfg) (u : TS) (W : WX) (K : Out → Prop) : Out → Prop
  | .nx s' => SV T u W s' K
  | o => K o
theorem sv_seq {t u : TS} (h : SV T t W ⟨ρ, m0⟩ (seqK T u W K)) : SV T (tSeq t u) W ⟨ρ, m0⟩ K := fun σ Hb H Dn S c =>
  h σ Hb H { Dn with nx := u Dn } S ⟨fun s' σ' Hb' H' g S' k => k σ' Hb' H' Dn S' (c.go g), c.rt, c.bk, c.ct, c.xr⟩
theorem sv_next (k : K (.nx ⟨ρ, m0⟩)) : SV T tNext W ⟨ρ, m0⟩ K := fun σ Hb H Dn S c => c.nx ⟨ρ, m0⟩ σ Hb H S.refl S k
theorem sv_asg {i : Nat} (h : EV T te W ⟨ρ, m0⟩ (fun d μ => K (.nx ⟨ρ.set i (some d), μ⟩)) (xk ⟨ρ, m0⟩ K)) : SV T (tAsg te (gName i)) W ⟨ρ, m0⟩ K := fun σ Hb H Dn S c =>
  h σ Hb H _ S (fun d μ' v Hb' H' g r k => c.nx _ _ _ _ g ((S.go g).set i r) k) (c.x S)
theorem sv_ret (h : EV T te W ⟨ρ, m0⟩ (fun d μ => K (.rt d μ)) (xk ⟨ρ, m0⟩ K)) : SV T (tRet te) W ⟨ρ, m0⟩ K := fun σ Hb H Dn S c =>
  h σ Hb H _ S (fun d μ' v Hb' H' g r k => c.rt _ _ _ _ _ g r k) (c.x S)
theorem sv_drop (h : EV T te W ⟨ρ, m0⟩ (fun _ μ => K (.nx ⟨ρ, μ⟩)) (xk ⟨ρ, m0⟩ K)) : SV T (tDrop te) W ⟨ρ, m0⟩ K := fun σ Hb H Dn S c =>
  h σ Hb H _ S (fun d μ' v Hb' H' g r k => c.nx _ _ _ _ g (S.go g) k) (c.x S)
theorem sv_if {t : TT} {u v : TS} (h : TV T t W ⟨ρ, m0⟩ (fun b μ => (b = true → SV T u W ⟨ρ, μ⟩ K) ∧ (b = false → SV T v W ⟨ρ, μ⟩ K)) (xk ⟨ρ, m0⟩ K)) : SV T (tIfS t u v) W ⟨ρ, m0⟩ K := fun σ Hb H Dn S c =>
  h σ Hb H _ S (fun b μ' Hb' H' g ⟨k1, k2⟩ => by
    cases b with
    | true => exact k1 rfl σ Hb' H' Dn (S.go g) (c.go g)
    | false => exact k2 rfl σ Hb' H' Dn (S.go g) (c.go g)) (c.x S)
theorem sv_par {i j : Nat} {ta : TA} (h : EA T ta W ⟨ρ, m0⟩ (fun ds μ => ∃ d e, ds = [d, e] ∧ K (.nx ⟨(ρ.set i (some d)).set j (some e), μ⟩)) (xk ⟨ρ, m0⟩ K)) : SV T (tPar i j ta) W ⟨ρ, m0⟩ K := fun σ Hb H Dn S c =>
  h σ Hb H _ S (fun ds μ' vs Hb' H' g r k => by
    obtain ⟨d, e, rfl, k⟩ := k
    obtain ⟨v, ys, rfl, r1, r⟩ := r.cons_inv
    obtain ⟨w, zs, rfl, r2, r⟩ := r.cons_inv
    obtain rfl := r.nil_inv
    have S1 := ((S.go g).set i r1)
    have S2 := S1.set j (d := e) (v := w) r2
    exact ⟨v, w, rfl, c.nx _ _ _ _ g S2 k⟩) (c.x S)
def GV (T : Cfg) (g : TG) (is : List Nat) (d : D) (s : S) (K : S → Prop) : Prop := ∀ x σ Hb H Kt, Sim T s σ Hb H → Rep T Hb d x →
  (∀ s' σ', s'.m = s.m → Sim T s' σ' Hb H → (∀ vs, (∀ i ∈ is, i ∈ vs) → wipe σ' vs = wipe σ vs) → K s' → Kt σ' H) → g x σ H Kt
def GVs (T : Cfg) (g : TGs) (is : List Nat) (ds : List D) (s : S) (K : S → Prop) : Prop := ∀ xs σ Hb H Kt, Sim T s σ Hb H → RepL T Hb ds xs →
  (∀ s' σ', s'.m = s.m → Sim T s' σ' Hb H → (∀ vs, (∀ i ∈ is, i ∈ vs) → wipe σ' vs = wipe σ vs) → K s' → Kt σ' H) → g xs σ H Kt
theorem wipe_set {σ : L2.St} {i : Nat} {x : Option V} : ∀ {vs : List Nat}, i ∈ vs → wipe (σ.set i x) vs = wipe σ vs
  | [], h => by cases h
  | v :: vs, h => by
    unfold wipe
    by_cases e : v = i
    · subst e
      by_cases hi : v ∈ vs
      · rw [wipe_set hi]
      · have comm : ∀ (vs : List Nat), v ∉ vs → wipe (σ.set v x) vs = (wipe σ vs).set v x := by
          intro vs
          induction vs with
          | nil => intro _; rfl
          | cons u us ih =>
            intro hu
            simp only [List.mem_cons, not_or] at hu
            unfold wipe
            rw [ih hu.2, List.set_comm _ _ (fun z => hu.1 z)]
        rw [comm vs hi, List.set_set]
    · have hi : i ∈ vs := by
        rcases List.mem_cons.mp h with z | z
        · exact absurd z.symm e
        · exact z
      rw [wipe_set hi]
theorem gv_name {i : Nat} {d : D} {K : S → Prop} (k : K ⟨ρ.set i (some d), m0⟩) : GV T (gName i) [i] d ⟨ρ, m0⟩ K := fun x σ Hb H Kt S r q =>
  q ⟨ρ.set i (some d), m0⟩ _ rfl (S.set i r) (fun vs hv => wipe_set (hv i (by simp))) k
theorem gvs_nil {K : S → Prop} (k : K ⟨ρ, m0⟩) : GVs T gNil [] [] ⟨ρ, m0⟩ K := fun xs σ Hb H Kt S r q => by
  obtain rfl := r.nil_inv
  exact ⟨rfl, q ⟨ρ, m0⟩ σ rfl S (fun _ _ => rfl) k⟩
theorem gvs_cons {g : TG} {gs : TGs} {is js : List Nat} {d : D} {ds : List D} {K : S → Prop} (h : GV T g is d ⟨ρ, m0⟩ (fun s' => GVs T gs js ds s' K)) : GVs T (gCons g gs) (is ++ js) (d :: ds) ⟨ρ, m0⟩ K := fun xs σ Hb H Kt S r q => by
  obtain ⟨v, ys, rfl, r1, r2⟩ := r.cons_inv
  refine ⟨v, ys, rfl, h v σ Hb H _ S r1 fun s' σ' em S' w k => ?_⟩
  refine k ys σ' Hb H Kt S' r2 fun s'' σ'' em' S'' w' k' => q s'' σ'' (em'.trans em) S'' (fun vs hv => ?_) k'
  rw [w' vs fun i hi => hv i (List.mem_append_right _ hi), w vs fun i hi => hv i (List.mem_append_left _ hi)]
theorem gv_tup {n : Nat} {gs : TGs} {is : List Nat} {ds : List D} {K : S → Prop} (hn : ds.length = n) (h : GVs T gs is ds ⟨ρ, m0⟩ K) : GV T (gTup T.K n gs) is (.tup ds) ⟨ρ, m0⟩ K := fun x σ Hb H Kt S r q => by
  obtain ⟨a, xs, rfl, hx, r⟩ := r.tup_inv
  exact ⟨a, xs, rfl, ex_t S.sub hx, by rw [← r.1]; exact hn, h xs σ Hb H Kt S r q⟩
theorem sv_asgG {g : TG} {is : List Nat} (h : EV T te W ⟨ρ, m0⟩ (fun d μ => GV T g is d ⟨ρ, μ⟩ (fun s' => K (.nx s'))) (xk ⟨ρ, m0⟩ K)) : SV T (tAsg te g) W ⟨ρ, m0⟩ K := fun σ Hb H Dn S c =>
  h σ Hb H _ S (fun d μ' v Hb' H' g' r k => k v σ Hb' H' _ (S.go g') r fun s' σ' em S' _ k' => c.nx s' σ' Hb' H' (by rw [em]; exact g') S' k') (c.x S)
theorem putF_rep {Hb : Hp} {gs : List (Str × D)} {fs : List (Str × V)} {f : Str} {d : D} {v : V} (h : RepP T Hb gs fs) (r : Rep T Hb d v) : RepP T Hb (putG f d gs) (putF f v fs) := by
  obtain ⟨h1, h2⟩ := h
  induction gs generalizing fs with
  | nil =>
    cases fs with
    | nil =>
      refine ⟨rfl, fun i g z a b => ?_⟩
      cases i with
      | zero =>
        simp [putG, putF] at a b
        subst a; subst b
        exact r
      | succ i => simp [putG] at a
    | cons _ _ => simp at h1
  | cons g gs ih =>
    cases fs with
    | nil => simp at h1
    | cons z fs =>
      obtain ⟨a, d'⟩ := g
      obtain ⟨b, v'⟩ := z
      simp only [List.map_cons, List.cons.injEq] at h1
      obtain ⟨e1, e2⟩ := h1
      have e1 : a = b := e1
      subst e1
      have h2t : ∀ (i : Nat) (g : Str × D) (f : Str × V), gs[i]? = some g → fs[i]? = some f → Rep T Hb g.2 f.2 := fun i g f a b => h2 (i + 1) g f (by simpa using a) (by simpa using b)
      have h20 : Rep T Hb d' v' := h2 0 (a, d') (a, v') rfl rfl
      unfold putG putF
      by_cases hf : a = f
      · rw [if_pos hf, if_pos hf]
        refine ⟨by simp [e2], fun i g z p q => ?_⟩
        cases i with
        | zero => simp at p q; subst p; subst q; exact r
        | succ i => exact h2t i g z (by simpa using p) (by simpa using q)
      · rw [if_neg hf, if_neg hf]
        obtain ⟨i1, i2⟩ := ih e2 h2t
        refine ⟨by simp [i1], fun i g z p q => ?_⟩
        cases i with
        | zero => simp at p q; subst p; subst q; exact h20
        | succ i => exact i2 i g z (by simpa using p) (by simpa using q)
theorem sv_fld {f : Str} {tv : TE} (h : EV T tv W ⟨ρ, m0⟩ (fun e μ1 => EV T ta W ⟨ρ, μ1⟩ (fun d μ2 => ∃ a c gs, d = .ptr a ∧ μ2 a = some (.ins c gs) ∧ Cls T.K (T.cls c) ∧ NoAttr T.K (T.cls c) f ∧ gs.length < 1000 ∧ K (.nx ⟨ρ, put μ2 a (.ins c (putG f e gs))⟩)) (xk ⟨ρ, m0⟩ K)) (xk ⟨ρ, m0⟩ K)) : SV T (sFld T.K ta tv f) W ⟨ρ, m0⟩ K := fun σ Hb H Dn S c =>
  h σ Hb H _ S (fun e μ1 v Hb1 H1 g1 r1 p1 => p1 σ Hb1 H1 _ (S.go g1) (fun d μ2 w Hb2 H2 g2 r2 p2 => by
    obtain ⟨a, cc, gs, rfl, hm, hc, hn, hl, k⟩ := p2
    cases r2
    obtain ⟨n, o, ho, r⟩ := g2.mu a _ hm
    cases o with
    | ins C dx fs =>
      obtain ⟨rfl, r⟩ := r
      have hz : fs.length < 1000 := by
        have := congrArg List.length r.1
        simp at this
        omega
      have g3 := Go.chg g2.sub g2.mu (p := a) (o := .ins (T.cls cc) dx (putF f v fs)) (z := .ins cc (putG f e gs)) hm ⟨rfl, putF_rep r (r1.mono g2.ex)⟩
      have g := (g1.trans g2).trans g3
      exact ⟨a, T.cls cc, dx, fs, rfl, ho, hc, hn, hz, c.nx _ _ _ _ g (S.go g) k⟩
    | _ => exact r.elim) (fun x μ' cls dd Hb' H' g r k => c.x S x μ' cls dd Hb' H' (g1.trans g) r k)) (c.x S)
theorem sv_app (h : EV T ta W ⟨ρ, m0⟩ (fun d μ1 => ∃ a ds0, d = .ptr a ∧ μ1 a = some (.lst ds0) ∧ EV T te W ⟨ρ, μ1⟩ (fun e μ2 => ∃ ds, μ2 a = some (.lst ds) ∧ ds.length < 100000 ∧ K (.nx ⟨ρ, put μ2 a (.lst (ds ++ [e]))⟩)) (xk ⟨ρ, m0⟩ K)) (xk ⟨ρ, m0⟩ K)) :
    SV T (tDrop (tBM T.K "list" rAppend ta (tCons te tNil))) W ⟨ρ, m0⟩ K := fun σ Hb H Dn S c => by
  refine h σ Hb H _ S (fun d μ1 v Hb1 H1 g1 r1 p1 => ?_) (c.x S)
  obtain ⟨a, ds0, rfl, hm, p1⟩ := p1
  cases r1
  obtain ⟨n, o, ho, r⟩ := g1.mu a _ hm
  cases o with
  | lst xs0 =>
    refine ⟨Or.inl ⟨rfl, xs0, Evl.sq_of ho⟩, ?_⟩
    refine p1 σ Hb1 H1 _ (S.go g1) (fun e μ2 w Hb2 H2 g2 r2 p2 => ?_) (fun x μ' cls dd Hb' H' g r k => c.x S x μ' cls dd Hb' H' (g1.trans g) r k)
    obtain ⟨ds, hm2, hl, k⟩ := p2
    obtain ⟨n2, o2, ho2, rr⟩ := g2.mu a _ hm2
    cases o2 with
    | lst xs =>
      have rr : RepL T Hb2 ds xs := rr
      have g3 := Go.chg g2.sub g2.mu (p := a) (o := .lst (xs ++ [w])) (z := .lst (ds ++ [e])) hm2 (rr.app (.cons r2 .nil))
      have g := (g1.trans g2).trans g3
      exact ⟨a, xs, w, rfl, rfl, ho2, Evl.sz_lt (by rw [← rr.1]; exact hl), c.nx _ _ _ _ g (S.go g) k⟩
    | _ => exact rr.elim
  | _ => exact r.elim
theorem sv_setL (h : EV T te W ⟨ρ, m0⟩ (fun e μ1 => EV T ta W ⟨ρ, μ1⟩ (fun d μ2 => EV T tb W ⟨ρ, μ2⟩ (fun i μ3 => ∃ a ds k j, d = .ptr a ∧ μ3 a = some (.lst ds) ∧ i = .int k ∧ ixN ds.length k = some j ∧ K (.nx ⟨ρ, put μ3 a (.lst (ds.set j e))⟩)) (xk ⟨ρ, m0⟩ K)) (xk ⟨ρ, m0⟩ K)) (xk ⟨ρ, m0⟩ K)) :
    SV T (tAsg te (gSub ta tb rSetL)) W ⟨ρ, m0⟩ K := fun σ Hb H Dn S c => by
  refine h σ Hb H _ S (fun e μ1 v Hb1 H1 g1 r1 p1 => ?_) (c.x S)
  refine p1 σ Hb1 H1 _ (S.go g1) (fun d μ2 w Hb2 H2 g2 r2 p2 => ?_) (fun x μ' cls dd Hb' H' g r k => c.x S x μ' cls dd Hb' H' (g1.trans g) r k)
  refine p2 σ Hb2 H2 _ (S.go (g1.trans g2)) (fun i μ3 u Hb3 H3 g3 r3 p3 => ?_) (fun x μ' cls dd Hb' H' g r k => c.x S x μ' cls dd Hb' H' ((g1.trans g2).trans g) r k)
  obtain ⟨a, ds, k, j, rfl, hm, rfl, hj, kk⟩ := p3
  cases r2
  cases r3
  obtain ⟨n, o, ho, rr⟩ := g3.mu a _ hm
  cases o with
  | lst xs =>
    have rr : RepL T Hb3 ds xs := rr
    have g4 := Go.chg g3.sub g3.mu (p := a) (o := .lst (xs.set j v)) (z := .lst (ds.set j e)) hm (rr.set ((r1.mono g2.ex).mono g3.ex))
    have g := ((g1.trans g2).trans g3).trans g4
    exact ⟨a, xs, k, j, rfl, rfl, ho, by rw [← rr.1]; exact hj, c.nx _ _ _ _ g (S.go g) kk⟩
  | _ => exact rr.elim
def whK (I : Nat → S → Prop) (n : Nat) (K : Out → Prop) : Out → Prop
  | .nx s' => ∃ n', n' < n ∧ I n' s'
  | .ct s' => ∃ n', n' < n ∧ I n' s'
  | .bk s' => K (.nx s')
  | o => K o
def ItOk (T : Cfg) (J : It) (n : Nat) (f : Nat → D) (Hb0 : Hp) : Prop := ∀ Hb H, Ex Hb0 Hb → Ex Hb H →
  (∀ i, i < n → J.go i H) ∧ (∀ i, n ≤ i → J.stop i H) ∧ ∀ i x H', i < n → J.yld i H x H' → ∀ μ, SimMu T μ Hb H → ∃ Hb', Go T μ Hb H μ Hb' H' ∧ Rep T Hb' (f i) x
def IV (T : Cfg) (wi : TI) (W : WX) (s : S) (P : Nat → (Nat → D) → Mu → Prop) (XP : XW) : Prop :=
  ∀ σ Hb H R, Sim T s σ Hb H → (∀ J n f μ' Hb' H', Go T s.m Hb H μ' Hb' H' → ItOk T J n f Hb' → P n f μ' → R J H') →
    (∀ x μ' cls dd Hb' H', Go T s.m Hb H μ' Hb' H' → RepX T Hb' x cls dd → XP x μ' → W cls dd σ H') → wi σ H R
def forK (I : Nat → S → Prop) (i : Nat) (K : Out → Prop) : Out → Prop
  | .nx s' => I (i + 1) s'
  | .ct s' => I (i + 1) s'
  | .bk s' => K (.nx s')
  | o => K o
theorem sv_for {wi : TI} {g : TG} {is : List Nat} {u : TS} (h : IV T wi W ⟨ρ, m0⟩ (fun n f μ => ∃ I : Nat → S → Prop, I 0 ⟨ρ, μ⟩ ∧ (∀ i s', i < n → I i s' → GV T g is (f i) s' (fun s'' => SV T u W s'' (forK I i K))) ∧ ∀ s', I n s' → K (.nx s')) (xk ⟨ρ, m0⟩ K)) :
    SV T (tFor wi g u) W ⟨ρ, m0⟩ K := fun σ Hb H Dn S c => by
  refine h σ Hb H _ S (fun J n f μ Hb1 H1 g1 ok p => ?_) (c.x S)
  obtain ⟨I, i0, turn, done⟩ := p
  have S1 := S.go g1
  refine ⟨fun i m σ' H' => m = n - i ∧ i ≤ n ∧ ∃ s' Hb', Go T μ Hb1 H1 s'.m Hb' H' ∧ Sim T s' σ' Hb' H' ∧ I i s', ⟨n, by simp, Nat.zero_le _, _, Hb1, S1.refl, S1, i0⟩, ?_⟩
  rintro i m σ' H' ⟨rfl, hi, s', Hb', g', S', i'⟩
  obtain ⟨go, stop, yld⟩ := ok Hb' H' g'.ex S'.sub
  by_cases hlt : i < n
  · refine .inr ⟨go i hlt, fun σ2 H2 => ∃ s2 Hb2, Go T μ Hb1 H1 s2.m Hb2 H2 ∧ Sim T s2 σ2 Hb2 H2 ∧ I (i + 1) s2, ?_, ?_⟩
    · rintro σ2 H2 ⟨s2, Hb2, g2, S2, i2⟩
      exact ⟨n - (i + 1), by omega, rfl, hlt, s2, Hb2, g2, S2, i2⟩
    · intro x H2 y
      obtain ⟨Hb2, g2, r2⟩ := yld i x H2 hlt y s'.m S'.mu
      refine turn i s' hlt i' x σ' Hb2 H2 _ (S'.go g2) r2 fun s3 σ3 em S3 _ k => ?_
      have g3 : Go T μ Hb1 H1 s3.m Hb2 H2 := by
        rw [em]
        exact g'.trans g2
      have g03 := g1.trans g3
      refine k σ3 Hb2 H2 _ S3 ⟨?_, ?_, ?_, ?_, ?_⟩
      · exact fun s4 σ4 Hb4 H4 g4 S4 k4 => ⟨s4, Hb4, g3.trans g4, S4, k4⟩
      · exact fun d μ' v Hb4 H4 g4 r k4 => c.rt d μ' v Hb4 H4 (g03.trans g4) r k4
      · exact fun s4 σ4 Hb4 H4 g4 S4 k4 => c.nx s4 σ4 Hb4 H4 (g03.trans g4) S4 k4
      · exact fun s4 σ4 Hb4 H4 g4 S4 k4 => ⟨s4, Hb4, g3.trans g4, S4, k4⟩
      · exact fun x s4 cls dd σ4 Hb4 H4 g4 S4 r k4 => c.xr x s4 cls dd σ4 Hb4 H4 (g03.trans g4) S4 r k4
  · have e : i = n := by omega
    subst e
    exact .inl ⟨stop i (Nat.le_refl _), c.nx s' σ' Hb' H' (g1.trans g') S' (done s' i')⟩
def wipeD (ρ : List (Option D)) : List Nat → List (Option D)
  | [] => ρ
  | v :: vs => (wipeD ρ vs).set v none
theorem Sim.unset {σ : L2.St} {Hb H : Hp} (h : Sim T s σ Hb H) (i : Nat) : Sim T ⟨s.r.set i none, s.m⟩ (σ.set i none) Hb H := by
  refine ⟨by simp [h.len], fun j e a => ?_, h.sub, h.mu⟩
  have a : (s.r.set i none)[j]? = some (some e) := a
  rw [List.getElem?_set] at a
  rw [List.getElem?_set]
  split at a
  · split at a <;> cases a
  · rename_i hij
    rw [if_neg hij]
    exact h.vars j e a
theorem Sim.wipe {σ : L2.St} {Hb H : Hp} (h : Sim T s σ Hb H) : ∀ vs : List Nat, Sim T ⟨wipeD s.r vs, s.m⟩ (L2.wipe σ vs) Hb H
  | [] => h
  | v :: vs => (Sim.wipe h vs).unset (s := ⟨wipeD s.r vs, s.m⟩) v
theorem ev_lc {wi : TI} {g : TG} {is vs : List Nat} {tt : TT} {P : D → Mu → Prop} {XP : XW} (hv : ∀ i ∈ is, i ∈ vs)
    (h : IV T wi W ⟨ρ, m0⟩ (fun n f μ => n ≤ 100000 ∧ ∃ I : Nat → List D → Mu → Prop, I 0 [] μ ∧ (∀ i acc μ', i < n → acc.length ≤ i → I i acc μ' → GV T g is (f i) ⟨wipeD ρ vs, μ'⟩ (fun s'' => TV T tt (fun _ _ _ _ => False) s'' (fun b μ1 =>
      (b = true → EV T te (fun _ _ _ _ => False) ⟨s''.r, μ1⟩ (fun e μ2 => I (i + 1) (acc ++ [e]) μ2) (fun _ _ => False)) ∧ (b = false → I (i + 1) acc μ1)) (fun _ _ => False))) ∧ ∀ acc μ', I n acc μ' → P (.lst acc) μ') XP) :
    EV T (tLc wi g tt te vs) W ⟨ρ, m0⟩ P XP := fun σ Hb H Q S q x => by
  refine h σ Hb H _ S (fun J n f μ Hb1 H1 g1 ok p => ?_) x
  obtain ⟨hn, I, i0, turn, done⟩ := p
  have S1 := S.go g1
  intro Dl hD
  have hDb : Hb1 Dl = none := fresh_back S1.sub hD
  have hDm : μ Dl = none := by
    cases e : μ Dl with
    | none => rfl
    | some m =>
      obtain ⟨_, o, ho, _⟩ := g1.mu Dl m e
      rw [hD] at ho; cases ho
  -- the new list is one's own at Dl
  have gD : Go T μ Hb1 H1 (put μ Dl (.lst [])) Hb1 (upd H1 Dl (.lst [])) := Go.own g1.sub g1.mu hD RepL.nil
  refine ⟨fun i m H' => m = n - i ∧ i ≤ n ∧ ∃ acc μ' Hb', acc.length ≤ i ∧ μ' Dl = none ∧ Go T μ Hb1 H1 (put μ' Dl (.lst acc)) Hb' H' ∧ I i acc μ', ⟨n, by simp, Nat.zero_le _, [], μ, Hb1, Nat.le_refl _, hDm, gD, i0⟩, ?_⟩
  rintro i m H' ⟨rfl, hi, acc, μ', Hb', hl, hm', g', i'⟩
  have S' : Sim T ⟨ρ, put μ' Dl (.lst acc)⟩ σ Hb' H' := S1.go g'
  obtain ⟨go, stop, yld⟩ := ok Hb' H' g'.ex g'.sub
  by_cases hlt : i < n
  · refine .inr ⟨go i hlt, fun H2 => ∃ acc2 μ2 Hb2, acc2.length ≤ i + 1 ∧ μ2 Dl = none ∧ Go T μ Hb1 H1 (put μ2 Dl (.lst acc2)) Hb2 H2 ∧ I (i + 1) acc2 μ2, ?_, ?_⟩
    · rintro H2 ⟨acc2, μ2, Hb2, hl2, hm2, g2, i2⟩
      exact ⟨n - (i + 1), by omega, rfl, hlt, acc2, μ2, Hb2, hl2, hm2, g2, i2⟩
    · intro y H2 hy
      obtain ⟨Hb2, g2, r2⟩ := yld i y H2 hlt hy _ g'.mu
      have g02 := g'.trans g2
      -- the list set aside: the store without it
      have aside : ∀ {μa : Mu} {Hba Ha : Hp} {ac : List D}, μa Dl = none → SimMu T (put μa Dl (.lst ac)) Hba Ha → SimMu T μa Hba Ha := fun {μa Hba Ha ac} hn hs => hs.as fun a m ha => by
        refine hs a m ?_
        rw [put_ne (fun e => by rw [e, hn] at ha; cases ha)]
        exact ha
      have back : ∀ {μa μb : Mu} {Hba Ha Hbb Hc : Hp} {ac : List D}, μa Dl = none → SimMu T (put μa Dl (.lst ac)) Hba Ha → Go T μa Hba Ha μb Hbb Hc → μb Dl = none ∧ Go T (put μa Dl (.lst ac)) Hba Ha (put μb Dl (.lst ac)) Hbb Hc := fun {μa μb Hba Ha Hbb Hc ac} hn hs gg => by
        obtain ⟨hbn, o, ho, ro⟩ := hs Dl _ put_same
        obtain ⟨ho', hbn'⟩ := gg.keepN ho hbn hn ro
        have mb : μb Dl = none := by
          cases e : μb Dl with
          | none => rfl
          | some m =>
            rcases gg.new Dl m e with z | z
            · exact absurd hn z
            · rw [ho] at z; cases z
        refine ⟨mb, gg.ex, fun a u h1 h2 h3 h4 => ?_, fun a m h1 => ?_, gg.alive, gg.sub, gg.mu.as fun a m h1 => ?_⟩
        · have ne : a ≠ Dl := fun e => by rw [e, put_same] at h3; cases h3
          rw [put_ne ne] at h3
          exact gg.keep a u h1 h2 h3 h4
        · by_cases e : a = Dl
          · subst e; exact .inl (by rw [put_same]; simp)
          · rw [put_ne e] at h1 ⊢; exact gg.new a m h1
        · by_cases e : a = Dl
          · subst e
            rw [put_same] at h1
            cases h1
            exact ⟨hbn', o, ho', ro.mono gg.ex⟩
          · rw [put_ne e] at h1; exact gg.mu a m h1
      have Sw0 : Sim T ⟨ρ, put μ' Dl (.lst acc)⟩ σ Hb2 H2 := S'.go g2
      have Sw : Sim T ⟨ρ, μ'⟩ σ Hb2 H2 := ⟨Sw0.len, Sw0.vars, Sw0.sub, aside hm' Sw0.mu⟩
      have Sww : Sim T ⟨wipeD ρ vs, μ'⟩ (L2.wipe σ vs) Hb2 H2 := Sw.wipe vs
      refine turn i acc μ' hlt hl i' y (L2.wipe σ vs) Hb2 H2 _ Sww r2 fun s3 σ3 em S3 wq k => ?_
      have em : s3.m = μ' := em
      refine ⟨?_, ?_⟩
      · have e1 := wq vs hv
        have idem : ∀ (us : List Nat), (∀ u ∈ us, u ∈ vs) → L2.wipe (L2.wipe σ vs) us = L2.wipe σ vs := by
          intro us
          induction us with
          | nil => intro _; rfl
          | cons u us ih =>
            intro hu
            show (L2.wipe (L2.wipe σ vs) us).set u none = L2.wipe σ vs
            rw [ih fun z hz => hu z (List.mem_cons_of_mem _ hz)]
            have : ∀ (ws : List Nat) (u : Nat), u ∈ ws → (L2.wipe σ ws).set u none = L2.wipe σ ws := by
              intro ws
              induction ws with
              | nil => intro u hu; cases hu
              | cons w ws ih2 =>
                intro u hu
                show ((L2.wipe σ ws).set w none).set u none = (L2.wipe σ ws).set w none
                by_cases e : u = w
                · subst e; rw [List.set_set]
                · have hu2 : u ∈ ws := by
                    rcases List.mem_cons.mp hu with z | z
                    · exact absurd z e
                    · exact z
                  rw [List.set_comm _ _ (fun z => e z.symm), ih2 u hu2]
            exact this vs u (hu u (by simp))
        rw [e1]
        exact idem vs fun _ z => z
      · refine k σ3 Hb2 H2 _ S3 (fun b μ3 Hb3 H3 g3 kk => ?_) (fun _ _ _ _ _ _ _ _ z => z.elim)
        rw [em] at g3
        obtain ⟨hm3, g3'⟩ := back hm' Sw0.mu g3
        have S3' : Sim T ⟨s3.r, μ3⟩ σ3 Hb3 H3 := S3.go (by rw [em]; exact g3)
        cases b with
        | false =>
          show ∃ acc2 μ2 Hb2, _
          exact ⟨acc, μ3, Hb3, by omega, hm3, g02.trans g3', kk.2 rfl⟩
        | true =>
          show te σ3 H3 _
          refine kk.1 rfl σ3 Hb3 H3 _ S3' (fun e μ4 w Hb4 H4 g4 r4 i4 => ?_) (fun _ _ _ _ _ _ _ _ z => z.elim)
          obtain ⟨hm4, g4'⟩ := back hm3 g3'.mu g4
          obtain ⟨_, o, ho, ro⟩ := g4'.mu Dl _ put_same
          cases o with
          | lst xs =>
            have ro : RepL T Hb4 acc xs := ro
            have g5 := Go.chg g4'.sub g4'.mu (p := Dl) (o := .lst (xs ++ [w])) (z := .lst (acc ++ [e])) put_same (ro.app (.cons r4 .nil))
            rw [put_put] at g5
            exact ⟨xs, ho, Evl.sz_lt (by rw [← ro.1]; omega), acc ++ [e], μ4, Hb4, by simp; omega, hm4, ((g02.trans g3').trans g4').trans g5, i4⟩
          | _ => exact ro.elim
  · have e : i = n := by omega
    subst e
    obtain ⟨hbn, o, ho, ro⟩ := g'.mu Dl _ put_same
    cases o with
    | lst xs =>
      have gf := Go.freeze g'.sub g'.mu (p := Dl) put_same ho
      rw [del_put hm'] at gf
      have ro : RepL T Hb' acc xs := ro
      exact .inl ⟨stop i (Nat.le_refl _), q _ _ _ _ _ ((g1.trans g').trans gf) (.lst upd_same ro.1 (ro.mono gf.ex).2) (done acc μ' i')⟩
    | _ => exact ro.elim
end
section
variable {T : Cfg} {W : WX} {s : S} {ρ : List (Option D)} {m0 : Mu} {XP : XW} {ta tb te : TE} {P : D → Mu → Prop}
def nth (ds : List D) (i : Nat) : D := ds.getD i .non
theorem nth_get {ds : List D} {i : Nat} (h : i < ds.length) : ds[i]? = some (nth ds i) := by
  unfold nth
  rw [List.getD_eq_getElem?_getD, List.getElem?_eq_getElem h] <;> rfl
theorem nth_of {ds : List D} {i : Nat} {d : D} (h : ds[i]? = some d) : nth ds i = d := by
  unfold nth
  rw [List.getD_eq_getElem?_getD, h] <;> rfl
theorem itl_ok {a : Addr} {ds : List D} {xs : List V} {Hb0 : Hp} (hx : SqL T.K Hb0 a xs) (r : RepL T Hb0 ds xs) : ItOk T (Itl T.K a) ds.length (nth ds) Hb0 := fun Hb H e1 e2 => by
  have hH : SqL T.K H a xs := ex_l e2 (ex_l e1 hx)
  refine ⟨fun i hi => ⟨xs, xs[i]'(by rw [← r.1]; exact hi), hH, List.getElem?_eq_getElem _⟩, fun i hi => ⟨xs, hH, by rw [← r.1]; exact hi⟩, ?_⟩
  rintro i x H' hi ⟨rfl, y⟩ μ sm
  refine ⟨Hb, .refl e2 sm, ?_⟩
  exact (r.2 i _ x (nth_get hi) (y xs hH)).mono e1
theorem itt_ok {a : Addr} {ds : List D} {xs : List V} {Hb0 : Hp} (hx : SqT T.K Hb0 a xs) (r : RepL T Hb0 ds xs) : ItOk T (Itt T.K a) ds.length (nth ds) Hb0 := fun Hb H e1 e2 => by
  have hH : SqT T.K H a xs := ex_t e2 (ex_t e1 hx)
  refine ⟨fun i hi => ⟨xs, xs[i]'(by rw [← r.1]; exact hi), hH, List.getElem?_eq_getElem _⟩, fun i hi => ⟨xs, hH, by rw [← r.1]; exact hi⟩, ?_⟩
  rintro i x H' hi ⟨rfl, y⟩ μ sm
  refine ⟨Hb, .refl e2 sm, ?_⟩
  exact (r.2 i _ x (nth_get hi) (y xs hH)).mono e1
theorem itr_ok {lo : Int} {n : Nat} {Hb0 : Hp} : ItOk T (Itr lo n) n (fun i => .int (lo + (i : Nat))) Hb0 := fun Hb H e1 e2 => by
  refine ⟨fun i hi => hi, fun i hi => hi, ?_⟩
  rintro i x H' hi ⟨rfl, rfl⟩ μ sm
  exact ⟨Hb, .refl e2 sm, .int _⟩
def Seqd (d : D) (ds : List D) : Prop := d = .lst ds ∨ d = .seq ds
theorem Seqd.inv {d : D} {ds : List D} {v : V} {Hb : Hp} (h : Seqd d ds) (r : Rep T Hb d v) : ∃ a xs, v = .ref a ∧ SqL T.K Hb a xs ∧ RepL T Hb ds xs := by
  rcases h with rfl | rfl
  · obtain ⟨a, xs, e, h, r⟩ := r.lst_inv
    exact ⟨a, xs, e, Evl.sq_of h, r⟩
  · exact r.seq_inv
theorem iv_list {P : Nat → (Nat → D) → Mu → Prop} (h : EV T te W ⟨ρ, m0⟩ (fun d μ => ∃ ds, Seqd d ds ∧ P ds.length (nth ds) μ) XP) : IV T (iList T.K te) W ⟨ρ, m0⟩ P XP := fun σ Hb H R S q x =>
  h σ Hb H _ S (fun d μ v Hb1 H1 g r p => by
    obtain ⟨ds, hd, p⟩ := p
    obtain ⟨a, xs, rfl, hx, r⟩ := hd.inv r
    exact ⟨a, rfl, ⟨xs, ex_l g.sub hx⟩, q _ _ _ _ _ _ g (itl_ok hx r) p⟩) x
theorem iv_tup {P : Nat → (Nat → D) → Mu → Prop} (h : EV T te W ⟨ρ, m0⟩ (fun d μ => ∃ ds, d = .tup ds ∧ P ds.length (nth ds) μ) XP) : IV T (iTup T.K te) W ⟨ρ, m0⟩ P XP := fun σ Hb H R S q x =>
  h σ Hb H _ S (fun d μ v Hb1 H1 g r p => by
    obtain ⟨ds, rfl, p⟩ := p
    obtain ⟨a, xs, rfl, hx, r⟩ := r.tup_inv
    exact ⟨a, rfl, ⟨xs, ex_t g.sub hx⟩, q _ _ _ _ _ _ g (itt_ok hx r) p⟩) x
theorem iv_rng1 {ta : TA} {P : Nat → (Nat → D) → Mu → Prop} (h : EA T ta W ⟨ρ, m0⟩ (fun ds μ => ∃ n : Int, ds = [.int n] ∧ n ≤ 1000000 ∧ -1000000 ≤ n ∧ P n.toNat (fun i => .int (0 + (i : Nat))) μ) XP) : IV T (iRng1 ta) W ⟨ρ, m0⟩ P XP := fun σ Hb H R S q x =>
  h σ Hb H _ S (fun ds μ vs Hb1 H1 g r p => by
    obtain ⟨n, rfl, h1, h2, p⟩ := p
    obtain ⟨v, ys, rfl, r1, r⟩ := r.cons_inv
    obtain rfl := r.nil_inv
    cases r1
    exact ⟨n, rfl, by omega, by omega, q _ _ _ _ _ _ g itr_ok p⟩) x
theorem its_ok {x : Str} {Hb0 : Hp} : ItOk T (Its x) x.cps.size (fun i => .str ⟨#[x.cps.getD i 0]⟩) Hb0 := fun Hb H e1 e2 => by
  refine ⟨fun i hi => hi, fun i hi => hi, ?_⟩
  rintro i v H' hi ⟨rfl, c, hc, rfl⟩ μ sm
  refine ⟨Hb, .refl e2 sm, ?_⟩
  have : x.cps.getD i 0 = c := by
    rw [Array.getD_eq_getD_getElem?, hc] <;> rfl
  show Rep T Hb (.str ⟨#[x.cps.getD i 0]⟩) _
  rw [this]
  exact .str _
theorem iv_str {P : Nat → (Nat → D) → Mu → Prop} (h : EV T te W ⟨ρ, m0⟩ (fun d μ => ∃ x : Str, d = .str x ∧ P x.cps.size (fun i => .str ⟨#[x.cps.getD i 0]⟩) μ) XP) : IV T (iStr te) W ⟨ρ, m0⟩ P XP := fun σ Hb H R S q x =>
  h σ Hb H _ S (fun d μ v Hb1 H1 g r p => by
    obtain ⟨z, rfl, p⟩ := p
    cases r
    exact ⟨z, rfl, q _ _ _ _ _ _ g its_ok p⟩) x
end
abbrev Ct := List D → Mu → (D → Mu → Prop) → XW → Prop
def spOf (T : Cfg) (c : Ct) : Sp := fun vs H Q E => ∃ ds μ Hb P XP, Ex Hb H ∧ SimMu T μ Hb H ∧ RepL T Hb ds vs ∧ c ds μ P XP ∧
  (∀ d μ' v Hb' H', Go T μ Hb H μ' Hb' H' → Rep T Hb' d v → P d μ' → Q v H') ∧ (∀ x μ' cls dd Hb' H', Go T μ Hb H μ' Hb' H' → RepX T Hb' x cls dd → XP x μ' → E cls dd H')
theorem spOf_len {T : Cfg} {c : Ct} {n : Nat} (h : ∀ ds μ P XP, c ds μ P XP → ds.length = n) {vs : List V} {H : Hp} {Q : VK} {E : XK} (q : spOf T c vs H Q E) : vs.length = n := by
  obtain ⟨ds, μ, Hb, P, XP, _, _, r, hc, _⟩ := q
  rw [← r.1]
  exact h ds μ P XP hc
def fnK (P : D → Mu → Prop) (XP : XW) : Out → Prop
  | .nx s => P .non s.m
  | .rt d m => P d m
  | .xr x s => XP x s.m
  | _ => False
def slots (n : Nat) (ds : List D) : List (Option D) := ds.map some ++ List.replicate (n - ds.length) none
theorem fn_go {T : Cfg} {t : XK → TS} {c : Ct} {N : List Str} (h : ∀ E ds μ P XP, c ds μ P XP → SV T (t E) (fun cls dd _ H => E cls dd H) ⟨slots N.length ds, μ⟩ (fnK P XP))
    (vs : List V) (H : Hp) (Q : VK) (E : XK) (q : spOf T c vs H Q E) : t E { nx := fun _ H' => Q .non H', rt := Q } (start N vs) H := by
  obtain ⟨ds, μ, Hb, P, XP, ex, sm, r, hc, hq, hx⟩ := q
  refine h E ds μ P XP hc (start N vs) Hb H _ ⟨?_, ?_, ex, sm⟩ ⟨?_, ?_, ?_, ?_, ?_⟩
  · simp [slots, L2.start, r.1]
  · intro i d e
    have e : (ds.map some ++ List.replicate (N.length - ds.length) none)[i]? = some (some d) := e
    by_cases hi : i < ds.length
    · rw [List.getElem?_append_left (by simpa using hi), List.getElem?_map, Option.map_eq_some_iff] at e
      obtain ⟨d', e1, e2⟩ := e
      cases e2
      obtain ⟨v, hv, rv⟩ := r.get e1
      refine ⟨v, ?_, rv⟩
      unfold L2.start
      rw [List.getElem?_append_left (by rw [List.length_map, ← r.1]; exact hi), List.getElem?_map, hv] <;> rfl
    · rw [List.getElem?_append_right (by simpa using hi)] at e
      have := List.mem_of_getElem? e
      rw [List.mem_replicate] at this
      cases this.2
  · exact fun s' σ' Hb' H' g S k => hq .non s'.m .non Hb' H' g .non k
  · exact fun d μ' v Hb' H' g r k => hq d μ' v Hb' H' g r k
  · exact fun _ _ _ _ _ _ k => k.elim
  · exact fun _ _ _ _ _ _ k => k.elim
  · exact fun x s' cls dd σ' Hb' H' g S r k => hx x s'.m cls dd Hb' H' g r k
def mrg (μ μ1 μ2 : Mu) : Mu := fun a => match μ2 a with
  | some m => some m
  | none => if (μ1 a).isSome = true then none else μ a
section
variable {T : Cfg} {W : WX} {s : S} {ρ : List (Option D)} {m0 : Mu} {XP : XW} {ta tb te : TE} {P : D → Mu → Prop} {μ μ1 μ2 : Mu} {Hb H Hb' H' : Hp}
def Subm (μ1 μ : Mu) : Prop := ∀ a m, μ1 a = some m → μ a = some m
theorem Subm.sim (h : Subm μ1 μ) (m : SimMu T μ Hb H) : SimMu T μ1 Hb H := m.as fun a z e => m a z (h a z e)
theorem Go.widen (h : Subm μ1 μ) (m : SimMu T μ Hb H) (g : Go T μ1 Hb H μ2 Hb' H') : Go T μ Hb H (mrg μ μ1 μ2) Hb' H' := by
  have sub0 : ∀ a, μ a = none → μ1 a = none := fun a e => by
    cases q : μ1 a with
    | none => rfl
    | some z => rw [h a z q] at e; cases e
  refine ⟨g.ex, fun a o h1 h2 h3 => g.keep a o h1 h2 (sub0 a h3), fun a z e => ?_, g.alive, g.sub, g.mu.as fun a z e => ?_⟩
  · unfold mrg at e
    cases q : μ2 a with
    | some y =>
      rcases g.new a y q with w | w
      · left
        intro e0
        exact w (sub0 a e0)
      · exact .inr w
    | none =>
      rw [q] at e
      left
      intro e0
      simp [e0] at e
  · unfold mrg at e
    cases q : μ2 a with
    | some y =>
      rw [q] at e
      cases e
      exact g.mu a _ q
    | none =>
      rw [q] at e
      by_cases w : (μ1 a).isSome = true
      · simp [w] at e
      · simp [w] at e
        have w1 : μ1 a = none := by simpa using w
        obtain ⟨n, o, ho, r⟩ := m a z e
        obtain ⟨ho', n'⟩ := g.keepN ho n w1 r
        exact ⟨n', o, ho', r.mono g.ex⟩
theorem Go.forget (g : Go T μ Hb H μ1 Hb' H') (h : Subm μ2 μ1) : Go T μ Hb H μ2 Hb' H' :=
  ⟨g.ex, g.keep, fun a z e => g.new a z (h a z e), g.alive, g.sub, h.sim g.mu⟩
theorem sub_nil : Subm mu0 μ := fun _ _ e => nomatch e
theorem mrg_nil : mrg μ mu0 mu0 = μ := by funext a; unfold mrg; simp
def pu (c : List D → (D → Prop) → (XD → Prop) → Prop) : Ct := fun ds μ P XP => μ = mu0 ∧ ∃ Pf Xf, c ds Pf Xf ∧ (∀ d, Pf d → P d mu0) ∧ ∀ x, Xf x → XP x mu0
theorem ev_call0 {c : List D → (D → Prop) → (XD → Prop) → Prop} {dvs : List V} {dds : List D} {E : XK} {ta : TA} (hd : ∀ Hb, RepL T Hb dds dvs)
    (h : EA T ta W ⟨ρ, m0⟩ (fun ds μ => c (ds ++ dds) (fun d => P d μ) (fun _ => False)) XP) : EV T (tCall (spOf T (pu c)) dvs E ta) W ⟨ρ, m0⟩ P XP := fun σ Hb H Q S q x =>
  h σ Hb H _ S (fun ds μ vs Hb1 H1 g r p => by
    refine ⟨ds ++ dds, mu0, Hb1, fun d μ' => μ' = mu0 ∧ P d μ, fun y μ' => False, g.sub, g.mu.nil, r.app (hd Hb1), ⟨rfl, _, _, p, fun d k => ⟨rfl, k⟩, fun y k => k⟩, fun d μ' v Hb' H' g' r' k => ?_, fun y μ' cls dd Hb' H' g' r' k => k.elim⟩
    obtain ⟨rfl, k⟩ := k
    have g'' := g'.widen sub_nil g.mu
    rw [mrg_nil] at g''
    exact q _ _ _ _ _ (g.trans g'') r' k) x
def wl (c : Nat → List D → (D → Nat → Prop) → Prop) : Ct := fun ds μ P _ => ∃ a b rest, ds = .ptr a :: rest ∧ μ = put mu0 a (.well b) ∧ ∃ Pf, c b rest Pf ∧ ∀ d b', Pf d b' → P d (put mu0 a (.well b'))
theorem mrg_one {a : Addr} {m n : MO} : mrg μ (put mu0 a m) (put mu0 a n) = put μ a n := by
  funext b
  unfold mrg put
  by_cases e : b = a
  · simp [e]
  · simp [e]
theorem sub_one {a : Addr} {m : MO} (h : μ a = some m) : Subm (put mu0 a m) μ := fun b z e => by
  unfold put at e
  split at e
  · rename_i q; cases e; rw [q]; exact h
  · cases e
theorem ev_callW {c : Nat → List D → (D → Nat → Prop) → Prop} {dvs : List V} {dds : List D} {E : XK} {ta : TA} (hd : ∀ Hb, RepL T Hb dds dvs)
    (h : EA T ta W ⟨ρ, m0⟩ (fun ds μ => ∃ a b rest, ds ++ dds = .ptr a :: rest ∧ μ a = some (.well b) ∧ c b rest (fun d b' => P d (put μ a (.well b')))) XP) : EV T (tCall (spOf T (wl c)) dvs E ta) W ⟨ρ, m0⟩ P XP := fun σ Hb H Q S q x =>
  h σ Hb H _ S (fun ds μ vs Hb1 H1 g r p => by
    obtain ⟨a, b, rest, e1, hm, p⟩ := p
    refine ⟨ds ++ dds, put mu0 a (.well b), Hb1, fun d μ' => ∃ b', μ' = put mu0 a (.well b') ∧ P d (put μ a (.well b')), fun y μ' => False, g.sub, (sub_one hm).sim g.mu, r.app (hd Hb1), ⟨a, b, rest, e1, rfl, _, p, fun d b' k => ⟨b', rfl, k⟩⟩, fun d μ' v Hb' H' g' r' k => ?_, fun y μ' cls dd Hb' H' g' r' k => k.elim⟩
    obtain ⟨b', rfl, k⟩ := k
    have g'' := g'.widen (sub_one hm) g.mu
    rw [mrg_one] at g''
    exact q _ _ _ _ _ (g.trans g'') r' k) x
def ini (k : Nat) (c : List D → (List (Str × D) → Prop) → (XD → Prop) → Prop) : Ct := fun ds μ P XP => ∃ a rest, ds = .ptr a :: rest ∧ μ = put mu0 a (.ins k []) ∧ ∃ Pf Xf, c rest Pf Xf ∧ (∀ fs, Pf fs → P .non (put mu0 a (.ins k fs))) ∧ ∀ x fs, Xf x → XP x (put mu0 a (.ins k fs))
theorem ev_makeG {k : Nat} {XC : XW} {c : List D → (List (Str × D) → Prop) → (XD → Prop) → Prop} {dvs : List V} {dds : List D} {E : XK} {ta : TA} (hX : ∀ y μ, XC y μ → XP y μ ∧ ∀ σ cls dd H, W cls dd σ H → E cls dd H) (hd : ∀ Hb, RepL T Hb dds dvs)
    (h : EA T ta W ⟨ρ, m0⟩ (fun ds μ => c (ds ++ dds) (fun fs => P (.ins k fs) μ) (fun x => XC x μ)) XP) : EV T (tMake (T.cls k) (spOf T (ini k c)) dvs E ta) W ⟨ρ, m0⟩ P XP := fun σ Hb H Q S q x =>
  h σ Hb H _ S (fun ds μ vs Hb1 H1 g r p => by
    intro a dx ha hdx hne
    have hb1 : Hb1 a = none := fresh_back g.sub ha
    have hm1 : μ a = none := by
      cases e : μ a with
      | none => rfl
      | some m =>
        obtain ⟨_, o, ho, _⟩ := g.mu a m e
        rw [ha] at ho; cases ho
    -- the dict, then the instance
    have g1 : Go T μ Hb1 H1 μ (upd Hb1 dx (.own a)) (upd H1 dx (.own a)) := Go.lay g.sub g.mu hdx
    have ha' : (upd H1 dx (.own a)) a = none := by rw [upd_ne (fun e => hne e.symm)]; exact ha
    have g2 := Go.own g1.sub g1.mu (o := .ins (T.cls k) dx []) (z := .ins k []) ha' ⟨rfl, rfl, fun i g f e => by simp at e⟩
    have hs : Subm (put mu0 a (.ins k [])) (put μ a (.ins k [])) := sub_one put_same
    refine ⟨.ptr a :: (ds ++ dds), put mu0 a (.ins k []), _, fun d μ' => ∃ fs, d = .non ∧ μ' = put mu0 a (.ins k fs) ∧ P (.ins k fs) μ, fun y μ' => (∃ fs, μ' = put mu0 a (.ins k fs)) ∧ XC y μ, g2.sub, hs.sim g2.mu,
      .cons (.ptr a) ((r.mono (g1.trans g2).ex).app (hd _)), ⟨a, ds ++ dds, rfl, rfl, _, _, p, fun fs z => ⟨fs, rfl, rfl, z⟩, fun y fs z => ⟨⟨fs, rfl⟩, z⟩⟩, fun d μ' v Hb' H' g' r' z => ?_, fun y μ' cls dd Hb' H' g' r' z => ?_⟩
    · obtain ⟨fs, rfl, rfl, z⟩ := z
      cases r'
      refine ⟨rfl, ?_⟩
      have g3 := g'.widen hs g2.mu
      rw [mrg_one, put_put] at g3
      obtain ⟨n, o, ho, ro⟩ := g3.mu a _ put_same
      have g4 := Go.freeze g3.sub g3.mu put_same ho
      rw [del_put hm1] at g4
      cases o with
      | ins C dx' fs' =>
        obtain ⟨rfl, ro⟩ := ro
        exact q _ _ _ _ _ ((((g.trans g1).trans g2).trans g3).trans g4) (.ins upd_same ro.1 (ro.mono g4.ex).2) z
      | _ => exact ro.elim
    · obtain ⟨⟨fs, rfl⟩, z⟩ := z
      have g3 := g'.widen hs g2.mu
      rw [mrg_one, put_put] at g3
      have g4 := ((((g.trans g1).trans g2).trans g3)).forget (μ2 := μ) (fun b m e => by
        have ne : b ≠ a := fun w => by rw [w, hm1] at e; cases e
        rw [put_ne ne]
        exact e)
      exact (hX _ _ z).2 σ _ _ _ (x _ _ _ _ _ _ g4 r' (hX _ _ z).1)) x
theorem ev_make0 {k : Nat} {c : List D → (List (Str × D) → Prop) → (XD → Prop) → Prop} {dvs : List V} {dds : List D} {E : XK} {ta : TA} (hd : ∀ Hb, RepL T Hb dds dvs)
    (h : EA T ta W ⟨ρ, m0⟩ (fun ds μ => c (ds ++ dds) (fun fs => P (.ins k fs) μ) (fun _ => False)) XP) : EV T (tMake (T.cls k) (spOf T (ini k c)) dvs E ta) W ⟨ρ, m0⟩ P XP := ev_makeG (XC := fun _ _ => False) (fun y μ z => z.elim) hd h
end
def CFd (_ j : Int) : Prop := j ≠ 0 ∧ j.natAbs.log2 < 9000
section
variable {X : Cx}
theorem op_mulO : OpR X (binaryOp .Mult) (rI IntMulOk fun i j => .int (i * j)) := opI fun _ _ _ _ _ _ _ hc q => mul_int q hc
theorem op_fdivO : OpR X (binaryOp .FloorDiv) (rI CFd fun i j => .int (i.fdiv j)) := opI fun i j _ _ _ _ _ hc q => floordiv_int hc.1 q (.inl (PyProof.noPylong_of_log2 hc.2))
end
def Bt (n : Nat) (i : Int) : Prop := i.natAbs < 2 ^ n
theorem Bt.log {n : Nat} {i : Int} (h : Bt n i) (h0 : 0 < n) : i.natAbs.log2 < n := PySem.Flt.log2_lt_of h0 h
theorem Bt.mono {n m : Nat} {i : Int} (h : Bt n i) (k : n ≤ m) : Bt m i := Nat.lt_of_lt_of_le h (Nat.pow_le_pow_right (by decide) k)
theorem Bt.mul {n m : Nat} {i j : Int} (h : Bt n i) (k : Bt m j) : Bt (n + m) (i * j) := wide_lt h k
theorem Bt.add {n m : Nat} {i j : Int} (h : Bt n i) (k : Bt n j) (hm : n + 1 ≤ m) : Bt m (i + j) := by
  have h1 : i.natAbs < 2 ^ n := h
  have h2 : j.natAbs < 2 ^ n := k
  have h3 : (2 : Nat) ^ (n + 1) = 2 ^ n + 2 ^ n := by rw [Nat.pow_succ]; omega
  have h4 : (2 : Nat) ^ (n + 1) ≤ 2 ^ m := Nat.pow_le_pow_right (by decide) hm
  show (i + j).natAbs < 2 ^ m
  omega
theorem Bt.neg {n : Nat} {i : Int} (h : Bt n i) : Bt n (-i) := by
  show (-i).natAbs < 2 ^ n
  rw [Int.natAbs_neg]
  exact h
theorem Bt.sub {n m : Nat} {i j : Int} (h : Bt n i) (k : Bt n j) (hm : n + 1 ≤ m) : Bt m (i - j) := by
  have := h.add k.neg hm
  rwa [← Int.sub_eq_add_neg] at this
theorem Bt.ok {n m : Nat} {i j : Int} (h : Bt n i) (k : Bt m j) (hm : n + m ≤ 100000000) : IntMulOk i j := by
  have b : ∀ (x : Int) (p : Nat), Bt p x → Builtin.Int.intBits x ≤ p + 1 := fun x p hx => by
    unfold Builtin.Int.intBits
    split
    · omega
    · cases p with
      | zero =>
        have h0 : x.natAbs < 2 ^ 0 := hx
        have : x.natAbs = 0 := by simpa using h0
        rw [this]
        decide
      | succ p =>
        have := hx.log (by omega)
        omega
  have h1 := b i n h
  have h2 := b j m k
  have e : bitsLine = 134217728 := by decide
  unfold IntMulOk
  intro z
  rw [Bool.and_eq_true] at z
  have z2 := z.2
  unfold Builtin.Int.intTooBig at z2
  have z3 := of_decide_eq_true z2
  rw [e] at z3
  omega
section
variable {T : Cfg} {W : WX} {s : S} {ρ : List (Option D)} {m0 : Mu} {XP : XW} {ta tb te : TE} {P : D → Mu → Prop} {μ : Mu}
theorem ov_of {r : R2} {d e z : D} (h : ∀ x y Hb H Q, Ex Hb H → Rep T Hb d x → Rep T Hb e y → (∀ v, Rep T Hb z v → Q v H) → r x y H Q) (p : P z μ) : OV T r d e μ P := fun x y Hb H Q ex sm rx ry q =>
  h x y Hb H Q ex rx ry fun v rv => q z μ v Hb H (.refl ex sm) rv p
theorem ov_I0 {g : Int → Int → Int} {i j : Int} (p : P (.int (g i j)) μ) : OV T (rI0 fun i j => .int (g i j)) (.int i) (.int j) μ P := ov_of (fun x y Hb H Q ex rx ry q => by
  cases rx; cases ry
  exact ⟨i, j, rfl, rfl, q _ (.int _)⟩) p
theorem ov_I {C : Int → Int → Prop} {g : Int → Int → Int} {i j : Int} (hc : C i j) (p : P (.int (g i j)) μ) : OV T (rI C fun i j => .int (g i j)) (.int i) (.int j) μ P := ov_of (fun x y Hb H Q ex rx ry q => by
  cases rx; cases ry
  exact ⟨i, j, rfl, rfl, hc, q _ (.int _)⟩) p
theorem ov_B0 {g : Int → Int → Bool} {i j : Int} (p : P (.bl (g i j)) μ) : OV T (rI0 fun i j => .bl (g i j)) (.int i) (.int j) μ P := ov_of (fun x y Hb H Q ex rx ry q => by
  cases rx; cases ry
  exact ⟨i, j, rfl, rfl, q _ (.bl _)⟩) p
theorem ov_add {i j : Int} (p : P (.int (i + j)) μ) : OV T (rI0 fun i j => .int (i + j)) (.int i) (.int j) μ P := ov_I0 p
theorem ov_sub {i j : Int} (p : P (.int (i - j)) μ) : OV T (rI0 fun i j => .int (i - j)) (.int i) (.int j) μ P := ov_I0 p
theorem ov_mul {i j : Int} (hc : IntMulOk i j) (p : P (.int (i * j)) μ) : OV T (rI IntMulOk fun i j => .int (i * j)) (.int i) (.int j) μ P := ov_I hc p
theorem ov_fdiv {i j : Int} (hc : CFd i j) (p : P (.int (i.fdiv j)) μ) : OV T (rI CFd fun i j => .int (i.fdiv j)) (.int i) (.int j) μ P := ov_I hc p
theorem ov_mod {i j : Int} (hc : j ≠ 0) (p : P (.int (i.fmod j)) μ) : OV T (rI (fun _ j => j ≠ 0) fun i j => .int (i.fmod j)) (.int i) (.int j) μ P := ov_I hc p
theorem ov_pow {i j : Int} (hc : CPow i j) (p : P (.int (i ^ j.toNat)) μ) : OV T (rI CPow fun i j => .int (i ^ j.toNat)) (.int i) (.int j) μ P := ov_I hc p
theorem ov_lt {i j : Int} (p : P (.bl (decide (i < j))) μ) : OV T (rI0 fun i j => .bl (decide (i < j))) (.int i) (.int j) μ P := ov_B0 p
theorem ov_le {i j : Int} (p : P (.bl (decide (i ≤ j))) μ) : OV T (rI0 fun i j => .bl (decide (i ≤ j))) (.int i) (.int j) μ P := ov_B0 p
theorem ov_gt {i j : Int} (p : P (.bl (decide (j < i))) μ) : OV T (rI0 fun i j => .bl (decide (j < i))) (.int i) (.int j) μ P := ov_B0 (g := fun i j => decide (j < i)) p
theorem ov_ge {i j : Int} (p : P (.bl (decide (j ≤ i))) μ) : OV T (rI0 fun i j => .bl (decide (j ≤ i))) (.int i) (.int j) μ P := ov_B0 (g := fun i j => decide (j ≤ i)) p
theorem ov_eqI {i j : Int} (p : P (.bl (decide (i = j))) μ) : OV T rEq (.int i) (.int j) μ P := ov_of (fun x y Hb H Q ex rx ry q => by
  cases rx; cases ry
  refine ⟨rfl, q _ ?_⟩
  rw [show decide (V.int i = V.int j) = decide (i = j) by simp]
  exact .bl _) p
theorem ov_neI {i j : Int} (p : P (.bl (!decide (i = j))) μ) : OV T rNe (.int i) (.int j) μ P := ov_of (fun x y Hb H Q ex rx ry q => by
  cases rx; cases ry
  refine ⟨rfl, q _ ?_⟩
  rw [show decide (V.int i = V.int j) = decide (i = j) by simp]
  exact .bl _) p
theorem ov_eqS {i j : Str} (p : P (.bl (decide (i = j))) μ) : OV T rEq (.str i) (.str j) μ P := ov_of (fun x y Hb H Q ex rx ry q => by
  cases rx; cases ry
  refine ⟨rfl, q _ ?_⟩
  rw [show decide (V.str i = V.str j) = decide (i = j) by simp]
  exact .bl _) p
theorem ov_neS {i j : Str} (p : P (.bl (!decide (i = j))) μ) : OV T rNe (.str i) (.str j) μ P := ov_of (fun x y Hb H Q ex rx ry q => by
  cases rx; cases ry
  refine ⟨rfl, q _ ?_⟩
  rw [show decide (V.str i = V.str j) = decide (i = j) by simp]
  exact .bl _) p
theorem ov_eqB {i j : Bool} (p : P (.bl (decide (i = j))) μ) : OV T rEq (.bl i) (.bl j) μ P := ov_of (fun x y Hb H Q ex rx ry q => by
  cases rx; cases ry
  refine ⟨rfl, q _ ?_⟩
  rw [show decide (V.bl i = V.bl j) = decide (i = j) by simp]
  exact .bl _) p
theorem ov_neB {i j : Bool} (p : P (.bl (!decide (i = j))) μ) : OV T rNe (.bl i) (.bl j) μ P := ov_of (fun x y Hb H Q ex rx ry q => by
  cases rx; cases ry
  refine ⟨rfl, q _ ?_⟩
  rw [show decide (V.bl i = V.bl j) = decide (i = j) by simp]
  exact .bl _) p
theorem at_rep {Hb : Hp} {ds : List D} {xs : List V} {i : Int} {d : D} (r : RepL T Hb ds xs) (h : atI ds i = some d) : ∃ v, atI xs i = some v ∧ Rep T Hb d v := by
  unfold atI at h ⊢
  rw [← r.1]
  cases e : ixN ds.length i with
  | none => rw [e] at h; cases h
  | some j =>
    rw [e] at h
    exact r.get h
theorem ov_ixL {d e : D} {ds : List D} {i : Int} (hd : Seqd d ds) (h : atI ds i = some e) (p : P e μ) : OV T (rIxL T.K) d (.int i) μ P := ov_of (fun x y Hb H Q ex rx ry q => by
  cases ry
  obtain ⟨a, xs, rfl, hx, r⟩ := hd.inv rx
  obtain ⟨v, hv, rv⟩ := at_rep r h
  exact ⟨a, xs, i, v, rfl, rfl, ex_l ex hx, hv, q v rv⟩) p
theorem ov_ixT {e : D} {ds : List D} {i : Int} (h : atI ds i = some e) (p : P e μ) : OV T (rIxT T.K) (.tup ds) (.int i) μ P := ov_of (fun x y Hb H Q ex rx ry q => by
  cases ry
  obtain ⟨a, xs, rfl, hx, r⟩ := rx.tup_inv
  obtain ⟨v, hv, rv⟩ := at_rep r h
  exact ⟨a, xs, i, v, rfl, rfl, ex_t ex hx, hv, q v rv⟩) p
theorem ov_ixM {e : D} {ds : List D} {i : Int} {a : Addr} (hm : μ a = some (.lst ds)) (h : atI ds i = some e) (p : P e μ) : OV T (rIxL T.K) (.ptr a) (.int i) μ P := fun x y Hb H Q ex sm rx ry q => by
  cases rx; cases ry
  obtain ⟨n, o, ho, r⟩ := sm a _ hm
  cases o with
  | lst xs =>
    obtain ⟨v, hv, rv⟩ := at_rep (show RepL T Hb ds xs from r) h
    exact ⟨a, xs, i, v, rfl, rfl, Evl.sq_of ho, hv, q _ _ _ _ _ (.refl ex sm) rv p⟩
  | _ => exact r.elim
theorem ov_cat {ds es : List D} (hl : ds.length + es.length ≤ 100000) (p : P (.lst (ds ++ es)) μ) : OV T rCat (.lst ds) (.lst es) μ P := fun x y Hb H Q ex sm rx ry q => by
  obtain ⟨a, xs, rfl, hx, r⟩ := rx.lst_inv
  obtain ⟨b, ys, rfl, hy, r'⟩ := ry.lst_inv
  refine ⟨a, b, xs, ys, rfl, rfl, ex _ _ hx, ex _ _ hy, by rw [← r.1, ← r'.1]; exact Evl.sz_of hl, fun p' hp => ?_⟩
  have g := Go.lay ex sm (o := .lst (xs ++ ys)) hp
  have rr := (r.app r').mono g.ex
  exact q _ _ _ _ _ g (.lst upd_same rr.1 rr.2) p
def cutD (ds : List D) (lo hi : Option Int) : List D := (ds.drop (HT.sIx ds.length 0 lo)).take (HT.sIx ds.length ds.length hi - HT.sIx ds.length 0 lo)
theorem ev_slL {tl th : TO} (h : EV T te W ⟨ρ, m0⟩ (fun d μ1 => OV' T tl W ⟨ρ, μ1⟩ (fun lo μ2 => OV' T th W ⟨ρ, μ2⟩ (fun hi μ3 => ∃ ds, Seqd d ds ∧ P (.lst (cutD ds lo hi)) μ3) XP) XP) XP) : EV T (tSl (rSlL T.K) te tl th) W ⟨ρ, m0⟩ P XP := fun σ Hb H Q S q x =>
  h σ Hb H _ S (fun d μ1 v Hb1 H1 g1 r1 p1 => p1 σ Hb1 H1 _ (S.go g1) (fun lo μ2 Hb2 H2 g2 p2 => p2 σ Hb2 H2 _ (S.go (g1.trans g2)) (fun hi μ3 Hb3 H3 g3 p3 => by
    obtain ⟨ds, hd, p⟩ := p3
    obtain ⟨a, xs, rfl, hx, r⟩ := hd.inv ((r1.mono g2.ex).mono g3.ex)
    refine ⟨a, xs, rfl, ex_l g3.sub hx, fun p' hp => ?_⟩
    have g := Go.lay g3.sub g3.mu (o := .lst (cutV xs lo hi)) hp
    have r0 : RepL T Hb3 (cutD ds lo hi) (cutV xs lo hi) := by
      unfold cutD cutV
      rw [← r.1]
      exact (r.drop _).take _
    have rr := r0.mono g.ex
    exact q _ _ _ _ _ (((g1.trans g2).trans g3).trans g) (.lst upd_same rr.1 rr.2) p)
    (fun y μ' cls dd Hb' H' g r p => x y μ' cls dd Hb' H' ((g1.trans g2).trans g) r p)) (fun y μ' cls dd Hb' H' g r p => x y μ' cls dd Hb' H' (g1.trans g) r p)) x
theorem cv_of {r : List V → Hp → VK → Prop} {ds : List D} {z : D} (h : ∀ xs Hb H Q, Ex Hb H → RepL T Hb ds xs → (∀ v, Rep T Hb z v → Q v H) → r xs H Q) (p : P z μ) : CV T r ds μ P := fun xs Hb H Q ex sm rx q =>
  h xs Hb H Q ex rx fun v rv => q z μ v Hb H (.refl ex sm) rv p
theorem one_inv {Hb : Hp} {d : D} {xs : List V} (r : RepL T Hb [d] xs) : ∃ v, xs = [v] ∧ Rep T Hb d v := by
  obtain ⟨v, ys, rfl, r1, r⟩ := r.cons_inv
  obtain rfl := r.nil_inv
  exact ⟨v, rfl, r1⟩
theorem two_inv {Hb : Hp} {d e : D} {xs : List V} (r : RepL T Hb [d, e] xs) : ∃ v w, xs = [v, w] ∧ Rep T Hb d v ∧ Rep T Hb e w := by
  obtain ⟨v, ys, rfl, r1, r⟩ := r.cons_inv
  obtain ⟨w, rfl, r2⟩ := one_inv r
  exact ⟨v, w, rfl, r1, r2⟩
abbrev rLen (K : PySem.W.Frag) : List V → Hp → VK → Prop := fun xs H Q => ∃ x n, xs = [x] ∧ LenV K x H n ∧ Q (.int n) H
theorem cv_len {d : D} {ds : List D} (hd : Seqd d ds) (p : P (.int (ds.length : Int)) μ) : CV T (rLen T.K) [d] μ P := cv_of (fun xs Hb H Q ex r q => by
  obtain ⟨v, rfl, r1⟩ := one_inv r
  obtain ⟨a, xs, rfl, hx, r2⟩ := hd.inv r1
  exact ⟨_, ds.length, rfl, Or.inl ⟨xs, ex_l ex hx, r2.1⟩, q _ (.int _)⟩) p
theorem cv_lenT {ds : List D} (p : P (.int (ds.length : Int)) μ) : CV T (rLen T.K) [.tup ds] μ P := cv_of (fun xs Hb H Q ex r q => by
  obtain ⟨v, rfl, r1⟩ := one_inv r
  obtain ⟨a, xs, rfl, hx, r2⟩ := r1.tup_inv
  exact ⟨_, ds.length, rfl, Or.inr ⟨xs, ex_t ex hx, r2.1⟩, q _ (.int _)⟩) p
theorem cv_lenS {x : Str} (h : x.length ≤ 100000) (p : P (.int (x.length : Int)) μ) : CV T (rLen T.K) [.str x] μ P := cv_of (fun xs Hb H Q ex r q => by
  obtain ⟨v, rfl, r1⟩ := one_inv r
  cases r1
  exact ⟨_, x.length, rfl, ⟨Evl.sz_of h, rfl⟩, q _ (.int _)⟩) p
abbrev rAbs : List V → Hp → VK → Prop := fun xs H Q => ∃ i, xs = [.int i] ∧ Q (.int (if i < 0 then -i else i)) H
theorem cv_abs {i : Int} (p : P (.int (i.natAbs : Int)) μ) : CV T rAbs [.int i] μ P := cv_of (fun xs Hb H Q ex r q => by
  obtain ⟨v, rfl, r1⟩ := one_inv r
  cases r1
  refine ⟨i, rfl, q _ ?_⟩
  rw [show (if i < 0 then -i else i) = (i.natAbs : Int) by split <;> omega]
  exact .int _) p
abbrev rInt1 : List V → Hp → VK → Prop := fun xs H Q => (∃ i, xs = [.int i] ∧ Q (.int i) H) ∨ ∃ k, xs = [.bl k] ∧ Q (.int (if k then 1 else 0)) H
theorem cv_intB {b : Bool} (p : P (.int (if b then 1 else 0)) μ) : CV T rInt1 [.bl b] μ P := cv_of (fun xs Hb H Q ex r q => by
  obtain ⟨v, rfl, r1⟩ := one_inv r
  cases r1
  exact .inr ⟨b, rfl, q _ (.int _)⟩) p
abbrev rStrI : List V → Hp → VK → Prop := fun xs H Q => ∃ i, xs = [.int i] ∧ i.natAbs.log2 < 1920 ∧ Q (.str (toString i)) H
theorem cv_strI {i : Int} (h : i.natAbs.log2 < 1920) (p : P (.str (toString i)) μ) : CV T rStrI [.int i] μ P := cv_of (fun xs Hb H Q ex r q => by
  obtain ⟨v, rfl, r1⟩ := one_inv r
  cases r1
  exact ⟨i, rfl, h, q _ (.str _)⟩) p
theorem cv_all {d : D} {bs : List Bool} (hd : Seqd d (bs.map D.bl)) (p : P (.bl (bs.all id)) μ) : CV T (rAll T.K) [d] μ P := cv_of (fun xs Hb H Q ex r q => by
  obtain ⟨v, rfl, r1⟩ := one_inv r
  obtain ⟨a, xs, rfl, hx, r2⟩ := hd.inv r1
  obtain rfl := r2.bls
  exact ⟨a, bs, rfl, ex_l ex hx, q _ (.bl _)⟩) p
structure InsCls (K : PySem.W.Frag) (C : Addr) : Prop where
  cl : Cls K C
  ha : PySem.W.findIn K (.ref C) "__class__" = some (some (.builtin "object.__class__"))
  hn : PySem.W.specialIn K (.builtin "object.__class__") "__get__" = some (some (.builtin "getset_descriptor.__get__"))
  htk : PySem.W.takesIn K (.builtin "object.__class__") = some true
  hm : PySem.W.mroIn K C (.type "object") = some true
inductive TyD (T : Cfg) : D → Value → Prop where
  | non : TyD T .non (.type "NoneType")
  | bl (b : Bool) : TyD T (.bl b) (.type "bool")
  | int (i : Int) : TyD T (.int i) (.type "int")
  | str (x : Str) : TyD T (.str x) (.type "str")
  | lst (ds : List D) : TyD T (.lst ds) (.type "list")
  | tup (ds : List D) : TyD T (.tup ds) (.type "tuple")
  | dic (kvs : List (Key × D)) : TyD T (.dic kvs) (.type "dict")
  | ins {c : Nat} {gs : List (Str × D)} (h : InsCls T.K (T.cls c)) : TyD T (.ins c gs) (.ref (T.cls c))
theorem TyD.tyx {d : D} {t : Value} {v : V} {Hb H : Hp} (h : TyD T d t) (r : Rep T Hb d v) (ex : Ex Hb H) : TyX T.K H v t := by
  cases h with
  | non => cases r; exact .base .non
  | bl b => cases r; exact .base (.bl b)
  | int i => cases r; exact .base (.int i)
  | str x => cases r; exact .base (.str x)
  | lst ds =>
    obtain ⟨a, xs, rfl, h, _⟩ := r.lst_inv
    exact .base (.lst (ex _ _ h))
  | tup ds =>
    obtain ⟨a, xs, rfl, h, _⟩ := r.tup_inv
    rcases h with (h | ⟨o, h⟩) | ⟨o, its, n, h, c, _⟩
    · exact .base (.tup (ex _ _ h))
    · exact .fTuple (ex _ _ h)
    · exact .kTuple h c
  | dic kvs =>
    cases r with
    | dic h l r => exact .base (.dK (ex _ _ h))
  | ins hc =>
    obtain ⟨a, dx, fs, rfl, h, _⟩ := r.ins_inv
    exact .base (.ins (ex _ _ h) hc.cl hc.ha hc.hn hc.htk hc.hm)
theorem cv_isi {d : D} {t : Value} {C : Addr} {b : Bool} (ht : TyD T d t) (hk : PySem.W.kitOne T.K t (.ref C) = some b) (p : P (.bl b) μ) : CV T (rIsi T.K) [d, .ptr C] μ P := cv_of (fun xs Hb H Q ex r q => by
  obtain ⟨v, w, rfl, r1, r2⟩ := two_inv r
  cases r2
  exact ⟨v, _, t, _, b, rfl, .own C, ht.tyx r1 ex, hk, q _ (.bl _)⟩) p
theorem cv_isiT {d : D} {t : Value} {n : String} {b : Bool} (ht : TyD T d t) (hk : PySem.W.kitOne T.K t (.type n) = some b) (p : P (.bl b) μ) : CV T (rIsi T.K) [d, .ty n] μ P := cv_of (fun xs Hb H Q ex r q => by
  obtain ⟨v, w, rfl, r1, r2⟩ := two_inv r
  cases r2
  exact ⟨v, _, t, _, b, rfl, .ty n, ht.tyx r1 ex, hk, q _ (.bl _)⟩) p
theorem well_open {a : Addr} {b : Nat} {Hb H : Hp} (sm : SimMu T μ Hb H) (h : μ a = some (.well b)) : ∃ w0 w1 w2 : Int, 0 ≤ w0 ∧ 0 ≤ w1 ∧ w1 < 2147483647 ∧ 0 ≤ w2 ∧ w2 + (b : Int) ≤ 1073741824 ∧ SimMu T (put μ a (.lst [.int w0, .int w1, .int w2, .int 0])) Hb H := by
  obtain ⟨n, o, ho, r⟩ := sm a _ h
  cases o with
  | lst xs =>
    obtain ⟨w0, w1, w2, rfl, h0, h1, h2, h3, h4⟩ := r
    refine ⟨w0, w1, w2, h0, h1, h2, h3, h4, sm.as fun c m e => ?_⟩
    by_cases ec : c = a
    · subst ec
      rw [put_same] at e
      cases e
      exact ⟨n, _, ho, .cons (.int w0) (.cons (.int w1) (.cons (.int w2) (.cons (.int 0) .nil)))⟩
    · rw [put_ne ec] at e; exact sm c m e
  | _ => exact r.elim
theorem well_close {a : Addr} {b : Nat} {w0 w1 w2 : Int} {Hb H : Hp} (sm : SimMu T μ Hb H) (h : μ a = some (.lst [.int w0, .int w1, .int w2, .int 0])) (h0 : 0 ≤ w0) (h1 : 0 ≤ w1) (h2 : w1 < 2147483647) (h3 : 0 ≤ w2) (h4 : w2 + (b : Int) ≤ 1073741824) : SimMu T (put μ a (.well b)) Hb H := by
  refine sm.as fun c m e => ?_
  by_cases ec : c = a
  · subst ec
    rw [put_same] at e
    cases e
    obtain ⟨n, o, ho, r⟩ := sm c _ h
    cases o with
    | lst xs =>
      have r : RepL T Hb [.int w0, .int w1, .int w2, .int 0] xs := r
      obtain ⟨v, ys, rfl, r1, rr⟩ := r.cons_inv
      obtain ⟨v', zs, rfl, r2, rr⟩ := rr.cons_inv
      obtain ⟨w', z', rfl, r3, r4⟩ := two_inv rr
      cases r1; cases r2; cases r3; cases r4
      exact ⟨n, _, ho, w0, w1, w2, rfl, h0, h1, h2, h3, h4⟩
    | _ => exact r.elim
  · rw [put_ne ec] at e; exact sm c m e
theorem Go.told {μ1 μ2 : Mu} {Hb H Hb' H' : Hp} (g : Go T μ Hb H μ1 Hb' H') (hn : ∀ a m, μ2 a = some m → μ1 a ≠ none) (sm : SimMu T μ2 Hb' H') : Go T μ Hb H μ2 Hb' H' :=
  ⟨g.ex, g.keep, fun a m e => by
    cases q : μ1 a with
    | none => exact absurd q (hn a m e)
    | some z => exact g.new a z q, g.alive, g.sub, sm⟩
theorem sv_well {ts : TS} {K : Out → Prop} {a : Addr} {b : Nat} (h : m0 a = some (.well b)) (k : ∀ w0 w1 w2 : Int, 0 ≤ w0 → 0 ≤ w1 → w1 < 2147483647 → 0 ≤ w2 → w2 + (b : Int) ≤ 1073741824 → SV T ts W ⟨ρ, put m0 a (.lst [.int w0, .int w1, .int w2, .int 0])⟩ K) : SV T ts W ⟨ρ, m0⟩ K := fun σ Hb H Dn S c => by
  obtain ⟨w0, w1, w2, h0, h1, h2, h3, h4, sm⟩ := well_open S.mu h
  have g : Go T m0 Hb H (put m0 a (.lst [.int w0, .int w1, .int w2, .int 0])) Hb H := S.refl.told (fun c m e => by
    show m0 c ≠ none
    by_cases ec : c = a
    · rw [ec, h]; simp
    · rw [put_ne ec] at e; rw [e]; simp) sm
  exact k w0 w1 w2 h0 h1 h2 h3 h4 σ Hb H Dn (S.go g) (c.go g)
theorem ev_close {a : Addr} (h : EV T te W ⟨ρ, m0⟩ (fun d μ => ∃ b w0 w1 w2, μ a = some (.lst [.int w0, .int w1, .int w2, .int 0]) ∧ 0 ≤ w0 ∧ 0 ≤ w1 ∧ w1 < 2147483647 ∧ 0 ≤ w2 ∧ w2 + ((b : Nat) : Int) ≤ 1073741824 ∧ P d (put μ a (.well b))) XP) : EV T te W ⟨ρ, m0⟩ P XP := fun σ Hb H Q S q x =>
  h σ Hb H Q S (fun d μ v Hb' H' g r p => by
    obtain ⟨b, w0, w1, w2, hm, h0, h1, h2, h3, h4, p⟩ := p
    exact q _ _ _ _ _ (g.told (fun c m e => by
      by_cases ec : c = a
      · rw [ec, hm]; simp
      · rw [put_ne ec] at e; rw [e]; simp) (well_close g.mu hm h0 h1 h2 h3 h4)) r p) x
theorem ev_newWell {ta : TA} (h : EA T ta W ⟨ρ, m0⟩ (fun ds μ => ∃ (b : Nat) (w0 w1 w2 : Int), ds = [.int w0, .int w1, .int w2, .int 0] ∧ 0 ≤ w0 ∧ 0 ≤ w1 ∧ w1 < 2147483647 ∧ 0 ≤ w2 ∧ w2 + (b : Int) ≤ 1073741824 ∧ ∀ a, μ a = none → P (.ptr a) (put μ a (.well b))) XP) : EV T (tLst ta) W ⟨ρ, m0⟩ P XP := fun σ Hb H Q S q x =>
  h σ Hb H _ S (fun ds μ1 vs Hb1 H1 g1 r1 p1 => by
    obtain ⟨b, w0, w1, w2, rfl, h0, h1, h2, h3, h4, p1⟩ := p1
    refine ⟨by rw [← r1.1]; exact Evl.sz_of (by simp), fun p hp => ?_⟩
    have g := Go.own g1.sub g1.mu (o := .lst vs) (z := .lst [.int w0, .int w1, .int w2, .int 0]) hp r1
    have g2 := (g1.trans g).told (μ2 := put μ1 p (.well b)) (fun c m e => by
      by_cases ec : c = p
      · rw [ec, put_same]; simp
      · rw [put_ne ec] at e ⊢; rw [e]; simp) (by
        have := well_close g.mu put_same h0 h1 h2 h3 h4
        rwa [put_put] at this)
    refine q _ _ _ _ _ g2 (.ptr p) (p1 p ?_)
    cases e : μ1 p with
    | none => rfl
    | some m =>
      obtain ⟨_, o, ho, _⟩ := g1.mu p m e
      rw [hp] at ho; cases ho) x
end
section
variable {X : Cx} {n : Nat} {CX : CXT} {C f : Addr} {fd : FuncData} {ps : List Str} {sp : Sp} {E : XK} {pins : List (Addr × Obj)} {s : Shared} {σ : L2.St} {H : Hp}
def rOwnEq (K : PySem.W.Frag) (C : Addr) (sp : Sp) (E : XK) : R2 := fun x y H Q => ∃ a dx fs t, x = .ref a ∧ H a = some (.ins C dx fs) ∧ TyX K H y t ∧ PySem.W.notFirst K C t = true ∧ sp [x, y] H (fun v H' => (∃ b, v = .bl b) ∧ Q v H') E
def rOwnNe (K : PySem.W.Frag) (C : Addr) (sp : Sp) (E : XK) : R2 := fun x y H Q => ∃ a dx fs t, x = .ref a ∧ H a = some (.ins C dx fs) ∧ TyX K H y t ∧ PySem.W.notFirst K C t = true ∧ sp [x, y] H (fun v H' => ∃ b, v = .bl b ∧ Q (.bl (!b)) H') E
end
section
variable {T : Cfg} {P : D → Mu → Prop} {μ : Mu}
theorem ov_ownEq {c : List D → (D → Prop) → (XD → Prop) → Prop} {k : Nat} {gs : List (Str × D)} {e : D} {t : Value} {E : XK} (ht : TyD T e t) (hn : PySem.W.notFirst T.K (T.cls k) t = true) (h : c [.ins k gs, e] (fun d => (∃ b, d = .bl b) ∧ P d μ) (fun _ => False)) :
    OV T (rOwnEq T.K (T.cls k) (spOf T (pu c)) E) (.ins k gs) e μ P := fun x y Hb H Q ex sm rx ry q => by
  obtain ⟨a, dx, fs, rfl, ha, r⟩ := id rx.ins_inv
  refine ⟨a, dx, fs, t, rfl, ex _ _ ha, ht.tyx ry ex, hn, [.ins k gs, e], mu0, Hb, fun d μ' => μ' = mu0 ∧ (∃ b, d = .bl b) ∧ P d μ, fun _ _ => False, ex, sm.nil, .cons rx (.cons ry .nil), ⟨rfl, _, _, h, fun d k => ⟨rfl, k⟩, fun _ k => k⟩, fun d μ' v Hb' H' g r k => ?_, fun _ _ _ _ _ _ _ _ k => k.elim⟩
  obtain ⟨rfl, ⟨b, rfl⟩, k⟩ := k
  cases r
  have g' := g.widen sub_nil sm
  rw [mrg_nil] at g'
  exact ⟨⟨b, rfl⟩, q _ _ _ _ _ g' (.bl b) k⟩
theorem ov_ownNe {c : List D → (D → Prop) → (XD → Prop) → Prop} {k : Nat} {gs : List (Str × D)} {e : D} {t : Value} {E : XK} (ht : TyD T e t) (hn : PySem.W.notFirst T.K (T.cls k) t = true) (h : c [.ins k gs, e] (fun d => ∃ b, d = .bl b ∧ P (.bl (!b)) μ) (fun _ => False)) :
    OV T (rOwnNe T.K (T.cls k) (spOf T (pu c)) E) (.ins k gs) e μ P := fun x y Hb H Q ex sm rx ry q => by
  obtain ⟨a, dx, fs, rfl, ha, r⟩ := id rx.ins_inv
  refine ⟨a, dx, fs, t, rfl, ex _ _ ha, ht.tyx ry ex, hn, [.ins k gs, e], mu0, Hb, fun d μ' => μ' = mu0 ∧ ∃ b, d = .bl b ∧ P (.bl (!b)) μ, fun _ _ => False, ex, sm.nil, .cons rx (.cons ry .nil), ⟨rfl, _, _, h, fun d k => ⟨rfl, k⟩, fun _ k => k⟩, fun d μ' v Hb' H' g r k => ?_, fun _ _ _ _ _ _ _ _ k => k.elim⟩
  obtain ⟨rfl, b, rfl, k⟩ := k
  cases r
  have g' := g.widen sub_nil sm
  rw [mrg_nil] at g'
  exact ⟨b, rfl, q _ _ _ _ _ g' (.bl _) k⟩
end
abbrev rAddS : R2 := fun x y H Q => ∃ i j, x = .str i ∧ y = .str j ∧ i.length + j.length ≤ sizeLine ∧ Q (.str (i ++ j)) H
abbrev rIsN : R2 := fun x y H Q => y = .non ∧ Q (.bl (decide (x = .non))) H
abbrev rListOf (K : PySem.W.Frag) : List V → Hp → VK → Prop := fun xs H Q => ∃ p ys, xs = [.ref p] ∧ (SqL K H p ys ∨ SqT K H p ys) ∧ ∀ l, H l = none → Q (.ref l) (upd H l (.lst ys))
abbrev rTupOf (K : PySem.W.Frag) : List V → Hp → VK → Prop := fun xs H Q => ∃ p ys, xs = [.ref p] ∧ ((SqL K H p ys ∧ ∀ l, H l = none → Q (.ref l) (upd H l (.tup ys))) ∨ (SqT K H p ys ∧ Q (.ref p) H))
section
variable {T : Cfg} {W : WX} {s : S} {ρ : List (Option D)} {m0 : Mu} {XP : XW} {ta tb te : TE} {P : D → Mu → Prop} {μ : Mu} {K : Out → Prop}
theorem ov_addS {x y : Str} (h : x.length + y.length ≤ 100000) (p : P (.str (x ++ y)) μ) : OV T rAddS (.str x) (.str y) μ P := ov_of (fun a b Hb H Q ex rx ry q => by
  cases rx; cases ry
  exact ⟨x, y, rfl, rfl, Evl.sz_of h, q _ (.str _)⟩) p
theorem uv_neg {i : Int} (p : P (.int (-i)) μ) : UV T (rU fun i => .int (-i)) (.int i) μ P := fun x Hb H Q ex sm rx q => by
  cases rx
  exact ⟨i, rfl, q _ _ _ _ _ (.refl ex sm) (.int _) p⟩
end
mutual
inductive DPy : D → PyData → Prop
  | non : DPy .non .none
  | bl (b : Bool) : DPy (.bl b) (.bool b)
  | int (i : Int) : DPy (.int i) (.int i)
  | str (x : Str) : DPy (.str x) (.str x)
  | lst {ds : List D} {ps : List PyData} : DPyL ds ps → DPy (.lst ds) (.list ps)
  | seq {ds : List D} {ps : List PyData} : DPyL ds ps → DPy (.seq ds) (.list ps)
  | tup {ds : List D} {ps : List PyData} : DPyL ds ps → DPy (.tup ds) (.tuple ps)
inductive DPyL : List D → List PyData → Prop
  | nil : DPyL [] []
  | cons {d : D} {p : PyData} {ds : List D} {ps : List PyData} : DPy d p → DPyL ds ps → DPyL (d :: ds) (p :: ps)
end
section
variable {T : Cfg} {Hb H : Hp}
mutual
theorem DPy.dp (ex : Ex Hb H) : ∀ (p : PyData) (d : D) (v : V), DPy d p → Rep T Hb d v → Dp T.K H v p
  | .none, _, _, h, r => by cases h; cases r; exact .non
  | .bool b, _, _, h, r => by cases h; cases r; exact .bl b
  | .int i, _, _, h, r => by cases h; cases r; exact .int i
  | .str x, _, _, h, r => by cases h; cases r; exact .str x
  | .list ps, _, _, h, r => by
    cases h with
    | lst hl =>
      obtain ⟨a, xs, rfl, ha, rl⟩ := r.lst_inv
      exact .lst (Evl.sq_of (ex _ _ ha)) (DPyL.dp ex ps _ xs hl rl)
    | seq hl =>
      obtain ⟨a, xs, rfl, ha, rl⟩ := r.seq_inv
      exact .lst (ex_l ex ha) (DPyL.dp ex ps _ xs hl rl)
  | .tuple ps, _, _, h, r => by
    cases h with
    | tup hl =>
      obtain ⟨a, xs, rfl, ha, rl⟩ := r.tup_inv
      exact .tup (ex_t ex ha) (DPyL.dp ex ps _ xs hl rl)
  | .dict _, _, _, h, _ => by cases h
theorem DPyL.dp (ex : Ex Hb H) : ∀ (ps : List PyData) (ds : List D) (vs : List V), DPyL ds ps → RepL T Hb ds vs → DpAll T.K H vs ps
  | [], _, _, h, r => by
    cases h
    obtain rfl := r.nil_inv
    exact .nil
  | p :: ps, _, _, h, r => by
    cases h with
    | cons h1 h2 =>
      obtain ⟨v, ys, rfl, r1, r2⟩ := r.cons_inv
      exact .cons (DPy.dp ex p _ v h1 r1) (DPyL.dp ex ps _ ys h2 r2)
end
variable {P : D → Mu → Prop} {μ : Mu}
theorem ov_eqD {d e : D} {p q : PyData} (hd : DPy d p) (he : DPy e q) (sd : SeqAt.shaped p = true) (se : SeqAt.shaped q = true) (k : P (.bl (PyData.eqv p q)) μ) : OV T (rEqD T.K) d e μ P := ov_of (fun x y Hb H Q ex rx ry w =>
  ⟨p, q, DPy.dp ex p d x hd rx, DPy.dp ex q e y he ry, sd, se, w _ (.bl _)⟩) k
theorem ov_neD {d e : D} {p q : PyData} (hd : DPy d p) (he : DPy e q) (sd : SeqAt.shaped p = true) (se : SeqAt.shaped q = true) (k : P (.bl (!PyData.eqv p q)) μ) : OV T (rNeD T.K) d e μ P := ov_of (fun x y Hb H Q ex rx ry w =>
  ⟨p, q, DPy.dp ex p d x hd rx, DPy.dp ex q e y he ry, sd, se, w _ (.bl _)⟩) k
theorem dpy2 {a b : Int} : DPy (.tup [.int a, .int b]) (.tuple [.int a, .int b]) := .tup (.cons (.int a) (.cons (.int b) .nil))
theorem eqv2 {a b c d : Int} : PyData.eqv (.tuple [.int a, .int b]) (.tuple [.int c, .int d]) = decide (a = c ∧ b = d) := by
  show (a == c && (b == d && true)) = _
  by_cases h1 : a = c
  · by_cases h2 : b = d
    · simp [h1, h2]
    · simp [h1, h2]
  · simp [h1]
theorem ov_eq2 {a b c d : Int} (k : P (.bl (decide (a = c ∧ b = d))) μ) : OV T (rEqD T.K) (.tup [.int a, .int b]) (.tup [.int c, .int d]) μ P := ov_eqD dpy2 dpy2 rfl rfl (by rw [eqv2]; exact k)
theorem ov_ne2 {a b c d : Int} (k : P (.bl (!decide (a = c ∧ b = d))) μ) : OV T (rNeD T.K) (.tup [.int a, .int b]) (.tup [.int c, .int d]) μ P := ov_neD dpy2 dpy2 rfl rfl (by rw [eqv2]; exact k)
end
def fdOf (K : PySem.W.Frag) (f : Addr) : FuncData := match K.lookup f with
  | some ⟨_, _, .func fd, _⟩ => fd
  | _ => PySem.W.fnOf "" "" ⟨[], [], none, [], [], none, []⟩ [] ⟨.function, [], false, false, []⟩ .none .none .none .none none .none .none
theorem fdOf_ok {K : PySem.W.Frag} {x qual : Str} {params : Arguments} {body : List Stmt} {scope : Scope} {dvs : List V} {kws : List (Str × V)} {f : Addr} (h : ∃ fd, FunD K x qual params body scope dvs kws f fd) : FunD K x qual params body scope dvs kws f (fdOf K f) := by
  obtain ⟨fd, F⟩ := h
  obtain ⟨oc, od, dV, kV, doc, pm, an, cdv, ct, osl, e, lk, _⟩ := F.ex
  have : fdOf K f = fd := by
    unfold fdOf
    rw [lk]
  rw [this]
  exact F
abbrev AlF : Type := He.AlD × Bool
def obsF (fa : List He.Fa) (fn : List He.DefD) (exs : List (PySem.W.Frag → Bool)) (K : PySem.W.Frag) : AlF := (He.obsD fa fn K, exs.all fun e => e K)
def valF (fn : List He.DefD) : AlF := (He.valD fn, true)
def SaysF (fa : List He.Fa) (fn : List He.DefD) (exs : List (PySem.W.Frag → Bool)) (K : PySem.W.Frag) : Prop := obsF fa fn exs K = valF fn
def obsFG (n : Nat) (fa : List He.Fa) (fn : List He.DefD) (exs : List (PySem.W.Frag → Bool)) (g : Addr → Option Obj) : AlF := obsF fa fn exs (He.frG g (He.asD g n))
def hookF (n : Nat) (fa : List He.Fa) (fn : List He.DefD) (exs : List (PySem.W.Frag → Bool)) : PySem.W.Hook where
  α := AlF
  obs := fun s => obsFG n fa fn exs s.heap.get?
  val := fun _ => valF fn
  says := fun _ h => ∃ K : PySem.W.Frag, K.In h ∧ SaysF fa fn exs K
  of := fun _ _ e => ⟨_, He.frG_in, e⟩
  keeps := fun _ _ _ ⟨K, hK, c⟩ k => ⟨K, PySem.W.Frag.In.keeps hK k, c⟩
theorem obsFG_eq {n : Nat} {fa : List He.Fa} {fn : List He.DefD} {exs : List (PySem.W.Frag → Bool)} {g : Addr → Option Obj} {s : Shared} (h : ∀ a, g a = s.heap.get? a) : obsFG n fa fn exs g = (hookF n fa fn exs).obs s := by
  have e : g = s.heap.get? := funext h
  rw [e] <;> rfl
section
variable {fa : List He.Fa} {fn : List He.DefD} {exs : List (PySem.W.Frag → Bool)} {K : PySem.W.Frag}
theorem SaysF.d (c : SaysF fa fn exs K) : He.SaysD fa fn K := congrArg (fun z : AlF => z.1) c
theorem SaysF.fact (c : SaysF fa fn exs K) (i : Nat) {f : He.Fa} (h : fa[i]? = some f) : f.ok K = true := c.d.fact i h
theorem SaysF.def_ (c : SaysF fa fn exs K) (i : Nat) {d : He.DefD} (h : fn[i]? = some d) : ∃ fd, FunD K d.name d.qual d.params d.body d.scope (d.dvs K) (d.kws K) (He.fAd K d.at_) fd := c.d.def_ i h
theorem SaysF.ex_ (c : SaysF fa fn exs K) (i : Nat) {e : PySem.W.Frag → Bool} (h : exs[i]? = some e) : e K = true := by
  have c1 : (exs.all fun e => e K) = true := congrArg (fun z : AlF => z.2) c
  exact List.all_eq_true.mp c1 e (List.mem_of_getElem? h)
end
def clsOf (K : PySem.W.Frag) : Nat → Addr := fun n => match n with
  | 0 => He.ga K "Share" | 1 => He.ga K "Machine" | 2 => He.ga K "Carrying" | 3 => He.ga K "Reading" | 4 => He.ga K "Kept" | 5 => He.ga K "House" | 6 => He.ga K "Desk" | _ => He.ga K "Going"
def cfgL (P : Program) (w : World) (mg : Str → Option Value) (base : PySem.Heap) (tbs : List (Addr × Str)) (K : PySem.W.Frag) : Cfg := ⟨K, clsOf K, P, w, mg, base, tbs, []⟩
def noW : World := ⟨fun _ _ => 0, { strHash := fun _ => 0, shareClass := fun _ => 0, mergeTok := id, idOf := fun _ => 0, idOfShared := fun _ _ => 0, followText := fun _ => false, idOfImm := fun _ => 0 }⟩
def cfg (K : PySem.W.Frag) : Cfg := cfgL default noW (fun _ => none) default [] K
section
variable {T : Cfg} {W : WX} {K : Out → Prop} {u : TS} {s' : S} {d : D} {m : Mu} {x : XD} {P : D → Mu → Prop} {XP : XW} {I : Nat → S → Prop} {i : Nat}
theorem seqK_nx (h : SV T u W s' K) : seqK T u W K (.nx s') := h
theorem seqK_rt (h : K (.rt d m)) : seqK T u W K (.rt d m) := h
theorem seqK_xr (h : K (.xr x s')) : seqK T u W K (.xr x s') := h
theorem seqK_ct (h : K (.ct s')) : seqK T u W K (.ct s') := h
theorem seqK_bk (h : K (.bk s')) : seqK T u W K (.bk s') := h
theorem whK_rt (h : K (.rt d m)) : whK I i K (.rt d m) := h
theorem whK_xr (h : K (.xr x s')) : whK I i K (.xr x s') := h
theorem whK_bk (h : K (.nx s')) : whK I i K (.bk s') := h
theorem forK_nx (h : I (i + 1) s') : forK I i K (.nx s') := h
theorem forK_ct (h : I (i + 1) s') : forK I i K (.ct s') := h
theorem forK_rt (h : K (.rt d m)) : forK I i K (.rt d m) := h
theorem forK_xr (h : K (.xr x s')) : forK I i K (.xr x s') := h
theorem forK_bk (h : K (.nx s')) : forK I i K (.bk s') := h
theorem fnK_rt (h : P d m) : fnK P XP (.rt d m) := h
theorem fnK_nx (h : P .non s'.m) : fnK P XP (.nx s') := h
theorem fnK_xr (h : XP x s'.m) : fnK P XP (.xr x s') := h
end
section
variable {T : Cfg} {W : WX} {ρ : List (Option D)} {m0 : Mu} {XP : XW} {P : D → Mu → Prop} {ta : TA} {E : XK}
theorem ev_cal0 {c : List D → (D → Prop) → (XD → Prop) → Prop} (h : EA T ta W ⟨ρ, m0⟩ (fun ds μ => c ds (fun d => P d μ) (fun _ => False)) XP) : EV T (tCall (spOf T (pu c)) [] E ta) W ⟨ρ, m0⟩ P XP :=
  ev_call0 (dds := []) (fun _ => RepL.nil) (by simpa using h)
theorem ev_calW {c : Nat → List D → (D → Nat → Prop) → Prop} (h : EA T ta W ⟨ρ, m0⟩ (fun ds μ => ∃ a b rest, ds = .ptr a :: rest ∧ μ a = some (.well b) ∧ c b rest (fun d b' => P d (put μ a (.well b')))) XP) : EV T (tCall (spOf T (wl c)) [] E ta) W ⟨ρ, m0⟩ P XP :=
  ev_callW (dds := []) (fun _ => RepL.nil) (by simpa using h)
theorem ev_mak0 {k : Nat} {c : List D → (List (Str × D) → Prop) → (XD → Prop) → Prop} (h : EA T ta W ⟨ρ, m0⟩ (fun ds μ => c ds (fun fs => P (.ins k fs) μ) (fun _ => False)) XP) : EV T (tMake (T.cls k) (spOf T (ini k c)) [] E ta) W ⟨ρ, m0⟩ P XP :=
  ev_make0 (dds := []) (fun _ => RepL.nil) (by simpa using h)
theorem ev_mak1 {k : Nat} {i : Int} {c : List D → (List (Str × D) → Prop) → (XD → Prop) → Prop} (h : EA T ta W ⟨ρ, m0⟩ (fun ds μ => c (ds ++ [.int i]) (fun fs => P (.ins k fs) μ) (fun _ => False)) XP) : EV T (tMake (T.cls k) (spOf T (ini k c)) [.int i] E ta) W ⟨ρ, m0⟩ P XP :=
  ev_make0 (dds := [.int i]) (fun _ => .cons (.int i) .nil) h
end
end Pw
namespace FM
theorem mk_add (p q : Rat) : Rat.divInt (p.num * q.den + q.num * p.den) (p.den * q.den) = p + q := by
  rw [Rat.add_def', ← Rat.divInt_ofNat]; simp
theorem mk_sub (p q : Rat) : Rat.divInt (p.num * q.den - q.num * p.den) (p.den * q.den) = p - q := by
  rw [Rat.sub_def', ← Rat.divInt_ofNat]; simp
theorem mk_mul (p q : Rat) : Rat.divInt (p.num * q.num) (p.den * q.den) = p * q := by
  rw [Rat.mul_def', ← Rat.divInt_ofNat]; simp
theorem mk_div (p q : Rat) : Rat.divInt (p.num * q.den) (p.den * q.num) = p / q := by
  rw [Rat.div_def, Rat.inv_def]
  conv => rhs; rw [← Rat.num_divInt_den p]
  rw [Rat.divInt_mul_divInt]
theorem mk_int (i : Int) : Rat.divInt i 1 = (i : Rat) := by
  rw [Rat.divInt_eq_div]; grind
def Bq (n : Nat) (q : Rat) : Prop := q.num.natAbs < 2 ^ n ∧ q.den < 2 ^ n
theorem Bq.mono {n m : Nat} {q : Rat} (h : Bq n q) (k : n ≤ m) : Bq m q :=
  ⟨Nat.lt_of_lt_of_le h.1 (Nat.pow_le_pow_right (by decide) k), Nat.lt_of_lt_of_le h.2 (Nat.pow_le_pow_right (by decide) k)⟩
theorem bq_divInt {i j : Int} {n : Nat} (hi : i.natAbs < 2 ^ n) (hj : j.natAbs < 2 ^ n) (h0 : 0 < n) : Bq n (Rat.divInt i j) := by
  constructor
  · rw [Rat.num_divInt]
    refine Nat.lt_of_le_of_lt ?_ hi
    rw [Int.natAbs_ediv_of_dvd]
    · refine Nat.le_trans (Nat.div_le_self _ _) ?_
      rw [Int.natAbs_mul]
      have : j.sign.natAbs ≤ 1 := by
        rcases Int.lt_trichotomy j 0 with h | h | h
        · rw [Int.sign_eq_neg_one_of_neg h]; decide
        · rw [h]; decide
        · rw [Int.sign_eq_one_of_pos h]; decide
      calc j.sign.natAbs * i.natAbs ≤ 1 * i.natAbs := Nat.mul_le_mul_right _ this
        _ = i.natAbs := Nat.one_mul _
    · exact Int.dvd_mul_of_dvd_right (Int.gcd_dvd_right ..)
  · rw [Rat.den_divInt]
    split
    · exact Nat.one_lt_two_pow (by omega)
    · exact Nat.lt_of_le_of_lt (Nat.div_le_self _ _) hj
theorem natAbs_mul_lt {a b : Int} {n m : Nat} (h : a.natAbs < 2 ^ n) (k : b.natAbs < 2 ^ m) : (a * b).natAbs < 2 ^ (n + m) := by
  rw [Int.natAbs_mul, Nat.pow_add]
  exact Nat.mul_lt_mul'' h k
theorem natAbs_add_lt {a b : Int} {n : Nat} (h : a.natAbs < 2 ^ n) (k : b.natAbs < 2 ^ n) : (a + b).natAbs < 2 ^ (n + 1) := by
  rw [Nat.pow_succ]; omega
theorem natAbs_sub_lt {a b : Int} {n : Nat} (h : a.natAbs < 2 ^ n) (k : b.natAbs < 2 ^ n) : (a - b).natAbs < 2 ^ (n + 1) := by
  rw [Nat.pow_succ]; omega
theorem up {a n m : Nat} (h : a < 2 ^ n) (k : n ≤ m) : a < 2 ^ m := Nat.lt_of_lt_of_le h (Nat.pow_le_pow_right (by decide) k)
theorem Bq.add {n m : Nat} {p q : Rat} (h : Bq n p) (k : Bq m q) : Bq (n + m + 1) (p + q) := by
  rw [← mk_add]
  refine bq_divInt ?_ ?_ (by omega)
  · refine natAbs_add_lt (natAbs_mul_lt h.1 (by simpa using k.2)) ?_
    rw [Nat.add_comm]
    exact natAbs_mul_lt k.1 (by simpa using h.2)
  · exact up (natAbs_mul_lt (by simpa using h.2) (by simpa using k.2)) (by omega)
theorem Bq.sub {n m : Nat} {p q : Rat} (h : Bq n p) (k : Bq m q) : Bq (n + m + 1) (p - q) := by
  rw [← mk_sub]
  refine bq_divInt ?_ ?_ (by omega)
  · refine natAbs_sub_lt (natAbs_mul_lt h.1 (by simpa using k.2)) ?_
    rw [Nat.add_comm]
    exact natAbs_mul_lt k.1 (by simpa using h.2)
  · exact up (natAbs_mul_lt (by simpa using h.2) (by simpa using k.2)) (by omega)
theorem Bq.mul {n m : Nat} {p q : Rat} (h : Bq n p) (k : Bq m q) (h0 : 0 < n + m) : Bq (n + m) (p * q) := by
  rw [← mk_mul]
  refine bq_divInt (natAbs_mul_lt h.1 k.1) (natAbs_mul_lt (by simpa using h.2) (by simpa using k.2)) h0
theorem Bq.div {n m : Nat} {p q : Rat} (h : Bq n p) (k : Bq m q) (h0 : 0 < n + m) : Bq (n + m) (p / q) := by
  rw [← mk_div]
  refine bq_divInt (natAbs_mul_lt h.1 (by simpa using k.2)) (natAbs_mul_lt (by simpa using h.2) k.1) h0
end FM
namespace Far
open PySem PySem.Spec PyProof.Rows L2 Pw
def shF (q : Rat) : List (Str × D) := [("top", .int q.num), ("bottom", .int (q.den : Int))]
def shD (q : Rat) : D := .ins 0 (shF q)
def tagOf : D → String
  | .non => "NoneType"
  | .int _ => "int"
  | .bl _ => "bool"
  | .str _ => "str"
  | .lst _ => "list"
  | .tup _ => "tuple"
  | .dic _ => "dict"
  | _ => ""
def kk (a n : String) : Bool := n == a || (a == "bool" && n == "int")
def kindOf (d : D) (n : String) : Bool := kk (tagOf d) n
def isSh : D → Bool
  | .ins 0 _ => true
  | _ => false
def tys : List String := ["int", "bool", "str", "list", "tuple", "dict"]
structure Thing (T : Cfg) (d : D) (t : Value) : Prop where
  ty : TyD T d t
  kd : ∀ n ∈ tys, PySem.W.kitOne T.K t (.type n) = some (kindOf d n)
  sh : PySem.W.kitOne T.K t (.ref (T.cls 0)) = some (isSh d)
  nf : PySem.W.notFirst T.K (T.cls 0) t = true
structure ShOk (T : Cfg) : Prop where
  cl : Cls T.K (T.cls 0)
  nt : NoAttr T.K (T.cls 0) "top"
  nb : NoAttr T.K (T.cls 0) "bottom"
  ic : InsCls T.K (T.cls 0)
  kb : ∀ n ∈ ["NoneType", "int", "bool", "str", "list", "tuple", "dict"], PySem.W.subIn T.K (.type n) (.ref (T.cls 0)) = some false ∧ PySem.W.kitOne T.K (.type n) (.ref (T.cls 0)) = some false
  ko : ∀ n ∈ tys, PySem.W.kitOne T.K (.ref (T.cls 0)) (.type n) = some false
def tags : List String := ["NoneType", "int", "bool", "str", "list", "tuple", "dict"]
theorem kit_tab : ∀ a ∈ tags, ∀ n ∈ tys, kitB a n = some (kk a n) := by decide +kernel
section
variable {T : Cfg}
theorem nf_of {n : String} (h : PySem.W.subIn T.K (.type n) (.ref (T.cls 0)) = some false) : PySem.W.notFirst T.K (T.cls 0) (.type n) = true := by
  unfold PySem.W.notFirst
  rw [h]
  simp
theorem th_int (h : ShOk T) (i : Int) : Thing T (.int i) (.type "int") := ⟨.int i, fun n hn => kit_ty (kit_tab _ (by simp [tags]) n hn), (h.kb "int" (by simp)).2, nf_of (h.kb "int" (by simp)).1⟩
theorem th_str (h : ShOk T) (x : Str) : Thing T (.str x) (.type "str") := ⟨.str x, fun n hn => kit_ty (kit_tab _ (by simp [tags]) n hn), (h.kb "str" (by simp)).2, nf_of (h.kb "str" (by simp)).1⟩
theorem th_lst (h : ShOk T) (ds : List D) : Thing T (.lst ds) (.type "list") := ⟨.lst ds, fun n hn => kit_ty (kit_tab _ (by simp [tags]) n hn), (h.kb "list" (by simp)).2, nf_of (h.kb "list" (by simp)).1⟩
theorem th_tup (h : ShOk T) (ds : List D) : Thing T (.tup ds) (.type "tuple") := ⟨.tup ds, fun n hn => kit_ty (kit_tab _ (by simp [tags]) n hn), (h.kb "tuple" (by simp)).2, nf_of (h.kb "tuple" (by simp)).1⟩
theorem kit_self {K : PySem.W.Frag} {C : Addr} : PySem.W.kitOne K (.ref C) (.ref C) = some true := by
  unfold PySem.W.kitOne
  rw [if_pos (by simp)]
theorem th_sh (h : ShOk T) (q : Rat) : Thing T (shD q) (.ref (T.cls 0)) := ⟨.ins h.ic, fun n hn => by
  rw [h.ko n hn]
  simp only [tys, List.mem_cons, List.not_mem_nil, or_false] at hn
  rcases hn with rfl | rfl | rfl | rfl | rfl | rfl <;> rfl, kit_self, by unfold PySem.W.notFirst; simp⟩
end
end Far
local macro_rules | `(tactic| walk_at "qw") => `(tactic| first
  | (with_reducible refine Pw.ev_op ?_)
  | ((with_reducible refine Pw.ev_var (d := ?d) ?h ?_); (case h => rfl))
  | (with_reducible refine Pw.ev_int ?_)
  | (with_reducible refine Pw.ev_bl ?_)
  | (with_reducible refine Pw.ev_str ?_)
  | (with_reducible refine Pw.ev_non ?_)
  | (with_reducible refine Pw.ev_ty ?_)
  | (with_reducible refine Pw.ev_ref ?_)
  | (with_reducible refine Pw.ev_cb ?_)
  | (with_reducible refine Pw.ev_un ?_)
  | (with_reducible refine Pw.ea_cons ?_)
  | (with_reducible refine Pw.ea_nil ?_)
  | (with_reducible refine Pw.ev_cal0 ?_)
  | (with_reducible refine Pw.ev_calW ?_)
  | (with_reducible refine Pw.ev_mak0 ?_)
  | (with_reducible refine Pw.ev_mak1 ?_)
  | (with_reducible refine Pw.ev_if ?_)
  | (with_reducible refine Pw.ev_and ?_)
  | (with_reducible refine Pw.ev_or ?_)
  | (with_reducible refine Pw.ev_not ?_)
  | (with_reducible refine Pw.tv_test ?_)
  | (with_reducible refine Pw.tv_B ?_)
  | (with_reducible refine Pw.tv_and ?_)
  | (with_reducible refine Pw.tv_or ?_)
  | (with_reducible refine Pw.tv_not ?_)
  | (with_reducible refine Pw.tv_yes ?_)
  | (with_reducible refine Pw.po_no ?_)
  | (with_reducible refine Pw.po_so ?_)
  | (with_reducible refine Pw.sv_seq ?_)
  | (with_reducible refine Pw.sv_asg ?_)
  | (with_reducible refine Pw.sv_ret ?_)
  | (with_reducible refine Pw.sv_if ?_)
  | (with_reducible refine Pw.sv_par ?_)
  | (with_reducible refine Pw.sv_next ?_)
  | (with_reducible refine Pw.sv_drop ?_)
  | (with_reducible refine Pw.sv_fld ?_)
  | (with_reducible refine Pw.ov_add ?_)
  | (with_reducible refine Pw.ov_sub ?_)
  | (with_reducible refine Pw.ov_lt ?_)
  | (with_reducible refine Pw.ov_le ?_)
  | (with_reducible refine Pw.ov_gt ?_)
  | (with_reducible refine Pw.ov_ge ?_)
  | (with_reducible refine Pw.ov_eqI ?_)
  | (with_reducible refine Pw.ov_neI ?_)
  | (with_reducible refine Pw.ov_eqS ?_)
  | (with_reducible refine Pw.ov_neS ?_)
  | (with_reducible refine Pw.ov_eqB ?_)
  | (with_reducible refine Pw.ov_neB ?_)
  | (with_reducible refine Pw.cv_abs ?_)
  | (with_reducible refine Pw.cv_intB ?_)
  | (with_reducible refine Pw.uv_neg ?_)
  | (with_reducible refine Pw.seqK_nx ?_)
  | (with_reducible refine Pw.seqK_rt ?_)
  | (with_reducible refine Pw.seqK_xr ?_)
  | (with_reducible refine Pw.seqK_ct ?_)
  | (with_reducible refine Pw.seqK_bk ?_)
  | (with_reducible refine Pw.whK_rt ?_)
  | (with_reducible refine Pw.whK_xr ?_)
  | (with_reducible refine Pw.whK_bk ?_)
  | (with_reducible refine Pw.forK_nx ?_)
  | (with_reducible refine Pw.forK_ct ?_)
  | (with_reducible refine Pw.forK_rt ?_)
  | (with_reducible refine Pw.forK_xr ?_)
  | (with_reducible refine Pw.forK_bk ?_)
  | (with_reducible refine Pw.fnK_rt ?_)
  | (with_reducible refine Pw.fnK_nx ?_)
  | (with_reducible refine Pw.fnK_xr ?_))
local macro_rules | `(tactic| walk_at "qws") => `(tactic| repeat (walk_at "qw"))
namespace Far
open PySem PySem.Spec PyProof.Rows L2 Pw
abbrev PC := List D → (D → Prop) → (XD → Prop) → Prop
def isInt : D → Bool
  | .int _ => true
  | _ => false
def c_Share___init__ (T : Cfg) : List D → (List (Str × D) → Prop) → (XD → Prop) → Prop := fun ds P X => ∃ d e t u, ds = [d, e] ∧ Thing T d t ∧ Thing T e u ∧
  ((∃ i j : Int, d = .int i ∧ e = .int j ∧ j ≠ 0 ∧ Bt 9000 j ∧ P (shF (Rat.divInt i j))) ∨ ((isInt d = false ∨ isInt e = false ∨ e = .int 0) ∧ X ⟨.ref (He.ga T.K "NoShare"), none⟩))
theorem look_bot (q : Rat) : (shF q).lookup ("bottom" : Str) = some (D.int (q.den : Int)) := by
  unfold shF
  rw [List.lookup_cons]
  have h : (("bottom" : Str) == "top") = false := by decide +kernel
  rw [h]
  simp [List.lookup]
section
variable {T : Cfg} {W : WX} {ρ : List (Option D)} {m0 : Mu} {XP : XW} {P : D → Mu → Prop} {ta : TE}
theorem ev_top (hT : ShOk T) (h : EV T ta W ⟨ρ, m0⟩ (fun d μ => ∃ q, d = shD q ∧ P (.int q.num) μ) XP) : EV T (tFld T.K ta "top") W ⟨ρ, m0⟩ P XP :=
  ev_fld (h.imp fun d μ ⟨q, e, p⟩ => ⟨0, shF q, .int q.num, e, hT.cl, hT.nt, rfl, p⟩)
theorem ev_bot (hT : ShOk T) (h : EV T ta W ⟨ρ, m0⟩ (fun d μ => ∃ q, d = shD q ∧ P (.int (q.den : Int)) μ) XP) : EV T (tFld T.K ta "bottom") W ⟨ρ, m0⟩ P XP :=
  ev_fld (h.imp fun d μ ⟨q, e, p⟩ => ⟨0, shF q, .int (q.den : Int), e, hT.cl, hT.nb, look_bot q, p⟩)
end
open FM (Bq)
theorem _root_.FM.Bq.bd {n : Nat} {q : Rat} (h : Bq n q) : Bt n (q.den : Int) := by
  show ((q.den : Int)).natAbs < 2 ^ n
  simpa using h.2
theorem i_init {T : Cfg} (hT : ShOk T) {i j : Int} {P : List (Str × D) → Prop} {X : XD → Prop} (hj : j ≠ 0) (hb : Bt 9000 j) (p : P (shF (Rat.divInt i j))) : c_Share___init__ T [.int i, .int j] P X :=
  ⟨.int i, .int j, _, _, rfl, th_int hT i, th_int hT j, .inl ⟨i, j, rfl, rfl, hj, hb, p⟩⟩
theorem i_int {T : Cfg} (hT : ShOk T) {i : Int} {P : List (Str × D) → Prop} {X : XD → Prop} (p : P (shF (i : Rat))) : c_Share___init__ T [.int i, .int 1] P X :=
  i_init hT (by decide) (Nat.one_lt_two_pow (n := 9000) (by decide)) (by rw [FM.mk_int]; exact p)
def c_Share___eq__ (T : Cfg) : PC := fun ds P _ => ∃ q d t, ds = [shD q, d] ∧ Thing T d t ∧ ((∃ p, d = shD p ∧ P (.bl (decide (q = p)))) ∨ (isSh d = false ∧ P (.bl false)))
theorem rat_eq {p q : Rat} : decide (p.num = q.num ∧ (p.den : Int) = (q.den : Int)) = decide (p = q) := by
  rw [decide_eq_decide]
  constructor
  · rintro ⟨h1, h2⟩
    exact Rat.ext h1 (by omega)
  · rintro rfl
    exact ⟨rfl, rfl⟩
def c_plus (T : Cfg) : PC := fun ds P _ => ∃ p q n m, ds = [shD p, shD q] ∧ Bq n p ∧ Bq m q ∧ n + m ≤ 9000 ∧ P (shD (p + q))
def c_minus (T : Cfg) : PC := fun ds P _ => ∃ p q n m, ds = [shD p, shD q] ∧ Bq n p ∧ Bq m q ∧ n + m ≤ 9000 ∧ P (shD (p - q))
def c_times (T : Cfg) : PC := fun ds P _ => ∃ p q n m, ds = [shD p, shD q] ∧ Bq n p ∧ Bq m q ∧ n + m ≤ 9000 ∧ P (shD (p * q))
def c_less (T : Cfg) : PC := fun ds P _ => ∃ p q n m, ds = [shD p, shD q] ∧ Bq n p ∧ Bq m q ∧ n + m ≤ 9000 ∧ P (.bl (decide (p < q)))
end Far
namespace Pw
open PySem PySem.Spec PyProof.Rows L2
theorem ev_calN {T : Cfg} {W : WX} {ρ : List (Option D)} {m0 : Mu} {P : D → Mu → Prop} {XP : XW} {E : XK} {ta : TA} {c : Nat → List D → (D → Nat → Prop) → Prop} (h : EA T ta W ⟨ρ, m0⟩ (fun ds μ => ∃ a b rest μ', ds = .ptr a :: rest ∧ μ = put μ' a (.well b) ∧ c b rest (fun d b' => P d (put μ' a (.well b')))) XP) : EV T (tCall (spOf T (wl c)) [] E ta) W ⟨ρ, m0⟩ P XP :=
  ev_calW fun σ Hb H Q S q x => h σ Hb H Q S (fun ds μ vs Hb' H' g r ⟨a, b, rest, μ', e, em, hc⟩ => q ds μ vs Hb' H' g r (by
    subst em
    exact ⟨a, b, rest, e, put_same, by simpa only [put_put] using hc⟩)) x
theorem ex_bl {x : Bool} {Q : Bool → Prop} (h : Q x) : ∃ b, D.bl x = .bl b ∧ Q b := ⟨_, rfl, h⟩
theorem b_tt {A B : Prop} (h : A) : (true = true → A) ∧ (true = false → B) := ⟨fun _ => h, fun e => (nomatch e)⟩
theorem b_ff {A B : Prop} (h : B) : (false = true → A) ∧ (false = false → B) := ⟨fun e => (nomatch e), fun _ => h⟩
theorem b_tt' {A B : Prop} (h : B) : (true = false → A) ∧ (true = true → B) := ⟨fun e => (nomatch e), fun _ => h⟩
theorem b_ff' {A B : Prop} (h : A) : (false = false → A) ∧ (false = true → B) := ⟨fun _ => h, fun e => (nomatch e)⟩
theorem b_nt {A B : Prop} (h : B) : ((!true) = true → A) ∧ ((!true) = false → B) := ⟨fun e => (nomatch e), fun _ => h⟩
theorem b_nf {A B : Prop} (h : A) : ((!false) = true → A) ∧ ((!false) = false → B) := ⟨fun _ => h, fun e => (nomatch e)⟩
theorem b_nt' {A B : Prop} (h : A) : ((!true) = false → A) ∧ ((!true) = true → B) := ⟨fun _ => h, fun e => (nomatch e)⟩
theorem b_nf' {A B : Prop} (h : B) : ((!false) = false → A) ∧ ((!false) = true → B) := ⟨fun e => (nomatch e), fun _ => h⟩
theorem sv_asg2 {T : Cfg} {W : WX} {ρ : List (Option D)} {m0 : Mu} {K : Out → Prop} {te : TE} {i j : Nat} (h : EV T te W ⟨ρ, m0⟩ (fun d μ => ∃ x y, d = .tup [x, y] ∧ K (.nx ⟨(ρ.set i (some x)).set j (some y), μ⟩)) (xk ⟨ρ, m0⟩ K)) : SV T (tAsg te (gTup T.K 2 (gCons (gName i) (gCons (gName j) gNil)))) W ⟨ρ, m0⟩ K :=
  sv_asgG (h.imp fun d μ ⟨x, y, e, k⟩ => by subst e; exact gv_tup rfl (gvs_cons (gv_name (gvs_cons (gv_name (gvs_nil k))))))
theorem sv_asg3 {T : Cfg} {W : WX} {ρ : List (Option D)} {m0 : Mu} {K : Out → Prop} {te : TE} {i j l : Nat} (h : EV T te W ⟨ρ, m0⟩ (fun d μ => ∃ x y z, d = .tup [x, y, z] ∧ K (.nx ⟨((ρ.set i (some x)).set j (some y)).set l (some z), μ⟩)) (xk ⟨ρ, m0⟩ K)) : SV T (tAsg te (gTup T.K 3 (gCons (gName i) (gCons (gName j) (gCons (gName l) gNil))))) W ⟨ρ, m0⟩ K :=
  sv_asgG (h.imp fun d μ ⟨x, y, z, e, k⟩ => by subst e; exact gv_tup rfl (gvs_cons (gv_name (gvs_cons (gv_name (gvs_cons (gv_name (gvs_nil k))))))))
theorem ex_t2 {d e : D} {Q : D → D → Prop} (h : Q d e) : ∃ x y, D.tup [d, e] = .tup [x, y] ∧ Q x y := ⟨_, _, rfl, h⟩
theorem ex_t3 {d e f : D} {Q : D → D → D → Prop} (h : Q d e f) : ∃ x y z, D.tup [d, e, f] = .tup [x, y, z] ∧ Q x y z := ⟨_, _, _, rfl, h⟩
theorem bT {b : Bool} {A B : Prop} (e : b = true) (h : A) : (b = true → A) ∧ (b = false → B) := by subst e; exact b_tt h
theorem bF {b : Bool} {A B : Prop} (e : b = false) (h : B) : (b = true → A) ∧ (b = false → B) := by subst e; exact b_ff h
theorem bT' {b : Bool} {A B : Prop} (e : b = true) (h : B) : (b = false → A) ∧ (b = true → B) := by subst e; exact b_tt' h
theorem bF' {b : Bool} {A B : Prop} (e : b = false) (h : A) : (b = false → A) ∧ (b = true → B) := by subst e; exact b_ff' h
theorem b_d {α : Type} {x : α} {i : Decidable (x = x)} {A B : Prop} (h : A) : (decide (x = x) = true → A) ∧ (decide (x = x) = false → B) := bT (decide_eq_true rfl) h
theorem b_d' {α : Type} {x : α} {i : Decidable (x = x)} {A B : Prop} (h : B) : (decide (x = x) = false → A) ∧ (decide (x = x) = true → B) := bT' (decide_eq_true rfl) h
theorem b_dn {α : Type} {x : α} {i : Decidable (x = x)} {A B : Prop} (h : B) : ((!decide (x = x)) = true → A) ∧ ((!decide (x = x)) = false → B) := bF (by rw [decide_eq_true rfl]; rfl) h
theorem b_dn' {α : Type} {x : α} {i : Decidable (x = x)} {A B : Prop} (h : A) : ((!decide (x = x)) = false → A) ∧ ((!decide (x = x)) = true → B) := bF' (by rw [decide_eq_true rfl]; rfl) h
theorem ex_2 {d e : D} {Q : D → D → Prop} (h : Q d e) : ∃ x y, [d, e] = [x, y] ∧ Q x y := ⟨_, _, rfl, h⟩
end Pw
namespace Far
open PySem PySem.Spec PyProof.Rows L2 Pw
theorem ex_sh {q : Rat} {Q : Rat → Prop} (h : Q q) : ∃ p, shD q = shD p ∧ Q p := ⟨_, rfl, h⟩
def prD (q : Rat) : D := .tup [.int q.num, .int (q.den : Int)]
section
variable {T : Cfg} {μ : Mu} {P : D → Mu → Prop}
theorem isi_sh (hT : ShOk T) {q : Rat} (p : P (.bl true) μ) : CV T (rIsi T.K) [shD q, .ptr (T.cls 0)] μ P := cv_isi (th_sh hT q).ty (th_sh hT q).sh p
theorem isi_ib {i : Int} (p : P (.bl false) μ) : CV T (rIsi T.K) [.int i, .ty "bool"] μ P := cv_isiT (.int i) (kit_ty (kit_tab "int" (by simp [tags]) "bool" (by simp [tys]))) p
theorem isi_ii {i : Int} (p : P (.bl true) μ) : CV T (rIsi T.K) [.int i, .ty "int"] μ P := cv_isiT (.int i) (kit_ty (kit_tab "int" (by simp [tags]) "int" (by simp [tys]))) p
theorem ov_eqP {p q : Rat} (k : P (.bl (decide (p = q))) μ) : OV T (rEqD T.K) (prD p) (prD q) μ P := ov_eq2 (by rw [rat_eq]; exact k)
theorem ov_neP {p q : Rat} (k : P (.bl (!decide (p = q))) μ) : OV T (rNeD T.K) (prD p) (prD q) μ P := ov_ne2 (by rw [rat_eq]; exact k)
end
end Far
local macro_rules | `(tactic| walk_at "rw") => `(tactic| first
  | (with_reducible refine Pw.ev_op ?_)
  | ((with_reducible refine Pw.ev_var (d := ?d) ?h ?_); (case h => rfl))
  | (with_reducible refine Pw.ev_int ?_)
  | (with_reducible refine Pw.ev_bl ?_)
  | (with_reducible refine Pw.ev_str ?_)
  | (with_reducible refine Pw.ev_non ?_)
  | (with_reducible refine Pw.ev_ty ?_)
  | (with_reducible refine Pw.ev_ref ?_)
  | (with_reducible refine Pw.ev_cb ?_)
  | (with_reducible refine Pw.ev_un ?_)
  | (with_reducible refine Pw.ea_cons ?_)
  | (with_reducible refine Pw.ea_nil ?_)
  | (with_reducible refine Pw.ev_cal0 ?_)
  | (with_reducible refine Pw.ev_calN ?_)
  | (with_reducible refine Pw.ev_mak0 ?_)
  | (with_reducible refine Pw.ev_mak1 ?_)
  | (with_reducible refine Pw.ev_if ?_)
  | (with_reducible refine Pw.ev_and ?_)
  | (with_reducible refine Pw.ev_or ?_)
  | (with_reducible refine Pw.ev_not ?_)
  | (with_reducible refine Pw.tv_test ?_)
  | (with_reducible refine Pw.tv_B ?_)
  | (with_reducible refine Pw.tv_and ?_)
  | (with_reducible refine Pw.tv_or ?_)
  | (with_reducible refine Pw.tv_not ?_)
  | (with_reducible refine Pw.tv_yes ?_)
  | (with_reducible refine Pw.po_no ?_)
  | (with_reducible refine Pw.po_so ?_)
  | (with_reducible refine Pw.sv_seq ?_)
  | (with_reducible refine Pw.sv_asg ?_)
  | (with_reducible refine Pw.sv_ret ?_)
  | (with_reducible refine Pw.sv_if ?_)
  | (with_reducible refine Pw.sv_par ?_)
  | (with_reducible refine Pw.sv_next ?_)
  | (with_reducible refine Pw.sv_app ?_)
  | (with_reducible refine Pw.sv_drop ?_)
  | (with_reducible refine Pw.sv_fld ?_)
  | (with_reducible refine Pw.ov_add ?_)
  | (with_reducible refine Pw.ov_sub ?_)
  | (with_reducible refine Pw.ov_lt ?_)
  | (with_reducible refine Pw.ov_le ?_)
  | (with_reducible refine Pw.ov_gt ?_)
  | (with_reducible refine Pw.ov_ge ?_)
  | (with_reducible refine Pw.ov_eqI ?_)
  | (with_reducible refine Pw.ov_neI ?_)
  | (with_reducible refine Pw.ov_eqS ?_)
  | (with_reducible refine Pw.ov_neS ?_)
  | (with_reducible refine Pw.ov_eqB ?_)
  | (with_reducible refine Pw.ov_neB ?_)
  | (with_reducible refine Pw.cv_abs ?_)
  | ((with_reducible refine Pw.ov_ixT (e := ?e) ?h ?_); (case h => rfl))
  | ((with_reducible refine Pw.ov_ixM (ds := ?ds) (e := ?e) ?hm ?h ?_); (case hm => exact Pw.put_same); (case h => rfl))
  | ((with_reducible refine Pw.ov_pow ?h ?_); (case h => exact ⟨by decide, by decide, by decide⟩))
  | ((with_reducible refine Pw.ov_mod ?h ?_); (case h => decide))
  | (with_reducible refine Pw.ev_tup ?_)
  | ((with_reducible refine And.intro (show _ ≤ 100000 from ?hl) ?_); (case hl => (simp; done)))
  | (with_reducible refine Pw.cv_intB ?_)
  | (with_reducible refine Pw.uv_neg ?_)
  | (with_reducible refine Pw.seqK_nx ?_)
  | (with_reducible refine Pw.seqK_rt ?_)
  | (with_reducible refine Pw.seqK_xr ?_)
  | (with_reducible refine Pw.seqK_ct ?_)
  | (with_reducible refine Pw.seqK_bk ?_)
  | (with_reducible refine Pw.whK_rt ?_)
  | (with_reducible refine Pw.whK_xr ?_)
  | (with_reducible refine Pw.whK_bk ?_)
  | (with_reducible refine Pw.forK_nx ?_)
  | (with_reducible refine Pw.forK_ct ?_)
  | (with_reducible refine Pw.forK_rt ?_)
  | (with_reducible refine Pw.forK_xr ?_)
  | (with_reducible refine Pw.forK_bk ?_)
  | (with_reducible refine Pw.fnK_rt ?_)
  | (with_reducible refine Pw.fnK_nx ?_)
  | (with_reducible refine Pw.fnK_xr ?_))
local macro_rules | `(tactic| walk_at "rl") => `(tactic| first
  | walk_at "rw"
  | (with_reducible refine Pw.ev_lst ?_))
local macro_rules | `(tactic| walk_at "rls") => `(tactic| repeat (walk_at "rl"))
local macro_rules | `(tactic| walk_at "rws") => `(tactic| repeat (walk_at "rw"))
local macro_rules | `(tactic| walk_at "rk") => `(tactic| first
  | ((with_reducible refine Far.ev_mkS0 ?hT ?_); (case hT => assumption))
  | ((with_reducible refine Far.ev_mkS1 ?hT ?_); (case hT => assumption))
  | walk_at "rl"
  | (with_reducible refine Pw.ex_bl ?_)
  | (with_reducible refine Pw.b_tt ?_)
  | (with_reducible refine Pw.b_ff ?_)
  | (with_reducible refine Pw.b_tt' ?_)
  | (with_reducible refine Pw.b_ff' ?_)
  | (with_reducible refine Pw.b_nt ?_)
  | (with_reducible refine Pw.b_nf ?_)
  | (with_reducible refine Pw.b_nt' ?_)
  | (with_reducible refine Pw.b_nf' ?_)
  | (with_reducible refine Pw.b_d ?_)
  | (with_reducible refine Pw.b_d' ?_)
  | (with_reducible refine Pw.b_dn ?_)
  | (with_reducible refine Pw.b_dn' ?_)
  | (with_reducible refine Pw.ex_2 ?_)
  | ((with_reducible refine Far.ev_top ?hT ?_); (case hT => assumption))
  | ((with_reducible refine Far.ev_bot ?hT ?_); (case hT => assumption))
  | (with_reducible refine Far.ex_sh ?_)
  | ((with_reducible refine Far.isi_sh ?hT ?_); (case hT => assumption))
  | (with_reducible refine Far.isi_ib ?_)
  | (with_reducible refine Far.isi_ii ?_)
  | (with_reducible refine Pw.ov_eq2 ?_)
  | (with_reducible refine Pw.ov_ne2 ?_)
  | (with_reducible refine Far.ov_eqP ?_)
  | (with_reducible refine Far.ov_neP ?_)
  | (with_reducible refine Far.ex_ii ?_)
  | (with_reducible refine Far.ex_i ?_)
  | (with_reducible refine Far.ev_wellN ?_)
  | ((with_reducible refine Far.ov_shEq ?hT ?_); (case hT => assumption))
  | ((with_reducible refine Far.ov_shNe ?hT ?_); (case hT => assumption))
  | (with_reducible refine Pw.sv_asg2 ?_)
  | (with_reducible refine Pw.sv_asg3 ?_)
  | (with_reducible refine Pw.tryK_nx ?_)
  | (with_reducible refine Pw.tryK_rt ?_)
  | (with_reducible refine Pw.unK_rt ?_)
  | (with_reducible refine Pw.unK_nx ?_)
  | (with_reducible refine Pw.ex_t2 ?_)
  | (with_reducible refine Pw.ex_t3 ?_))
local macro_rules | `(tactic| walk_at "rks") => `(tactic| repeat (walk_at "rk"))
local macro_rules | `(tactic| walk_at "le") => `(tactic| (repeat (first | exact trivial | refine And.intro rfl ?_)))
local macro_rules | `(tactic| walk_at "po") => `(tactic| first
  | walk_at "rk"
  | ((with_reducible refine Far.plus_s ?h ?_); (case h => decide))
  | ((with_reducible refine Far.minus_s ?h ?_); (case h => decide))
  | ((with_reducible refine Far.times_s ?h ?_); (case h => decide))
  | ((with_reducible refine Far.less_s ?h ?_); (case h => decide)))
local macro_rules | `(tactic| walk_at "pos") => `(tactic| repeat (walk_at "po"))
local macro_rules | `(tactic| walk_at "gn") => `(tactic| first
  | ((refine Far.bN' ?h ?_); (case h => grind))
  | ((refine Far.bN ?h ?_); (case h => grind)))
namespace Far
open PySem PySem.Spec PyProof.Rows L2 Pw
open FM (Bq)
abbrev full : Nat := 1073741824
def c_Lwell (T : Cfg) : Ct := fun ds μ P _ => ∃ c : Int, ds = [.int c] ∧ ∀ a, μ a = none → P (.ptr a) (put μ a (.well full))
def c_Ldraw (T : Cfg) : Nat → List D → (D → Nat → Prop) → Prop := fun b rest P => ∃ n : Int, rest = [.int n] ∧ 0 < n ∧ n.natAbs.log2 < 9000 ∧ 1 ≤ b ∧ ∀ k : Int, 0 ≤ k → k < n → P (.int k) (b - 1)
def c_Lone (T : Cfg) : Nat → List D → (D → Nat → Prop) → Prop := fun b rest P => ∃ d ds, rest = [d] ∧ Seqd d ds ∧ 0 < ds.length ∧ ds.length ≤ 1000 ∧ 1 ≤ b ∧ ∀ e ∈ ds, P e (b - 1)
theorem len_Lwell {T : Cfg} : ∀ ds μ P XP, c_Lwell T ds μ P XP → ds.length = 1 := by
  rintro ds μ P XP ⟨c, rfl, _⟩; rfl
theorem len_Ldraw {T : Cfg} : ∀ ds μ P XP, wl (c_Ldraw T) ds μ P XP → ds.length = 2 := by
  rintro ds μ P XP ⟨a, b, rest, rfl, rfl, Pf, ⟨n, rfl, _⟩, _⟩; rfl
theorem len_Lone {T : Cfg} : ∀ ds μ P XP, wl (c_Lone T) ds μ P XP → ds.length = 2 := by
  rintro ds μ P XP ⟨a, b, rest, rfl, rfl, Pf, ⟨d, es, rfl, _⟩, _⟩; rfl
def t_Lwell (T : Cfg) (E : XK) : TS := (tRet (tLst (tCons (tOp (rI IntMulOk fun i j => .int (i * j)) (tVar 0) (tCB rInt1 (tCons (tOp (rI0 fun i j => .bl (decide (j ≤ i))) (tVar 0) (tOp (rI CPow fun i j => .int (i ^ j.toNat)) (tC (.int 10)) (tC (.int 18)))) tNil))) (tCons (tOp (rI (fun _ j => j ≠ 0) fun i j => .int (i.fmod j)) (tVar 0) (tC (.int 2147483647))) (tCons (tC (.int 0)) (tCons (tC (.int 0)) tNil))))))
def t_Ldraw (T : Cfg) (E : XK) : TS := (tSeq (tIfS (tTest (tOp (rI0 fun i j => .bl (decide (j < i))) (tOp (rIxL T.K) (tVar 0) (tC (.int 0))) (tC (.int 0)))) (tSeq (tAsg (tOp (rI (fun _ j => j ≠ 0) fun i j => .int (i.fmod j)) (tOp (rIxL T.K) (tVar 0) (tC (.int 0))) (tVar 1)) (gName 4))
    (tSeq (tAsg (tOp (rI CFd fun i j => .int (i.fdiv j)) (tOp (rIxL T.K) (tVar 0) (tC (.int 0))) (tVar 1)) (gSub (tVar 0) (tC (.int 0)) rSetL))
    (tRet (tVar 4)))) tNext)
    (tSeq (tAsg (tOp (rI0 fun i j => .int (i + j)) (tOp (rIxL T.K) (tVar 0) (tC (.int 2))) (tC (.int 1))) (gSub (tVar 0) (tC (.int 2)) rSetL))
    (tSeq (tAsg (tOp (rIxL T.K) (tLst (tCons (tC (.int 2147483647)) (tCons (tC (.int 2147483629)) (tCons (tC (.int 2147483587)) (tCons (tC (.int 2147483579)) (tCons (tC (.int 2147483563)) (tCons (tC (.int 2147483549)) (tCons (tC (.int 2147483543)) tNil)))))))) (tOp (rI (fun _ j => j ≠ 0) fun i j => .int (i.fmod j)) (tOp (rIxL T.K) (tVar 0) (tC (.int 2))) (tC (.int 7)))) (gName 2))
    (tSeq (tAsg (tOp (rI (fun _ j => j ≠ 0) fun i j => .int (i.fmod j)) (tOp (rI CPow fun i j => .int (i ^ j.toNat)) (tOp (rI0 fun i j => .int (i + j)) (tOp (rI0 fun i j => .int (i + j)) (tOp (rIxL T.K) (tVar 0) (tC (.int 1))) (tOp (rI IntMulOk fun i j => .int (i * j)) (tC (.int 7919)) (tOp (rIxL T.K) (tVar 0) (tC (.int 2))))) (tC (.int 1))) (tC (.int 5))) (tVar 2)) (gName 3))
    (tSeq (tAsg (tOp (rI (fun _ j => j ≠ 0) fun i j => .int (i.fmod j)) (tOp (rI IntMulOk fun i j => .int (i * j)) (tOp (rI0 fun i j => .int (i + j)) (tVar 3) (tOp (rIxL T.K) (tVar 0) (tC (.int 2)))) (tOp (rI0 fun i j => .int (i + j)) (tOp (rI CFd fun i j => .int (i.fdiv j)) (tVar 3) (tC (.int 1009))) (tC (.int 69621)))) (tVar 2)) (gName 3))
    (tRet (tOp (rI (fun _ j => j ≠ 0) fun i j => .int (i.fmod j)) (tOp (rI CFd fun i j => .int (i.fdiv j)) (tVar 3) (tC (.int 7))) (tVar 1))))))))
def t_Lone (T : Cfg) (E : XK) : TS := (tRet (tOp (rIxL T.K) (tVar 1) (tCall (spOf T (wl (c_Ldraw T))) [] E0 (tCons (tVar 0) (tCons (tCB (Pw.rLen T.K) (tCons (tVar 1) tNil)) tNil)))))
theorem pure_Lwell {T : Cfg} (hT : ShOk T) : ∀ E ds μ P XP, c_Lwell T ds μ P XP → SV T (t_Lwell T E) (fun cls dd _ H => E cls dd H) ⟨slots 1 ds, μ⟩ (fnK P XP) := Hd.o (by
 simp (disch :=
 with_unfolding_all
 exact by
  rintro E ds μ P XP ⟨c, rfl, h⟩
  unfold t_Lwell
  refine sv_ret (ev_newWell ?_)
  walk_at "rws"
  refine ov_mul ?_ ?_
  · exact IntMulOk.of_right (by split <;> decide)
  walk_at "rws"
  refine ⟨full, _, _, _, rfl, ?_, ?_, ?_, by decide, by decide, h⟩
  · split
    · rename_i hc
      have : (10 : Int) ^ Int.toNat 18 ≤ c := by simpa using hc
      have h2 : (0 : Int) ≤ 10 ^ Int.toNat 18 := by decide
      omega
    · omega
  · rw [Int.fmod_eq_emod_of_nonneg _ (by decide)]; omega
  · rw [Int.fmod_eq_emod_of_nonneg _ (by decide)]; omega
 ) only [↓hE])
theorem pure_Ldraw {T : Cfg} (hT : ShOk T) : ∀ E ds μ P XP, wl (c_Ldraw T) ds μ P XP → SV T (t_Ldraw T E) (fun cls dd _ H => E cls dd H) ⟨slots 5 ds, μ⟩ (fnK P XP) := Hd.o (by
 simp (disch :=
 with_unfolding_all
 exact by
  rintro E ds μ P XP ⟨a, b, rest, rfl, rfl, Pf, ⟨n, rfl, hn, hl, hb, k⟩, hP⟩
  unfold t_Ldraw
  refine sv_well put_same fun w0 w1 w2 h0 h1 h2 h3 h4 => ?_
  rw [put_put]
  walk_at "rws"
  refine ⟨_, rfl, fun hw => ?_, fun hw => ?_⟩
  · have hw0 : 0 < w0 := by simpa using hw
    walk_at "rws"
    refine ov_mod (by omega) ?_
    walk_at "rws"
    refine sv_setL ?_
    walk_at "rws"
    refine ov_fdiv ⟨by omega, hl⟩ ?_
    walk_at "rws"
    refine ⟨a, _, 0, 0, rfl, put_same, rfl, rfl, ?_⟩
    rw [put_put]
    walk_at "rw"
    refine sv_ret (ev_close (a := a) ?_)
    walk_at "rws"
    refine ⟨b - 1, w0.fdiv n, w1, w2, put_same, ?_, h1, h2, h3, by omega, ?_⟩
    · rw [Int.fdiv_eq_ediv_of_nonneg _ (by omega)]
      exact Int.ediv_nonneg h0 (by omega)
    · rw [put_put]
      refine hP _ _ (k _ ?_ ?_)
      · rw [Int.fmod_eq_emod_of_nonneg _ (by omega)]; exact Int.emod_nonneg _ (by omega)
      · rw [Int.fmod_eq_emod_of_nonneg _ (by omega)]; exact Int.emod_lt_of_pos _ hn
  · walk_at "rws"
    refine sv_setL ?_
    walk_at "rws"
    refine ⟨a, _, 2, 2, rfl, put_same, rfl, rfl, ?_⟩
    rw [put_put]
    have hp : ∃ p : Int, atI [D.int 2147483647, D.int 2147483629, D.int 2147483587, D.int 2147483579, D.int 2147483563, D.int 2147483549, D.int 2147483543] ((w2 + 1).fmod 7) = some (.int p) ∧ 2147483543 ≤ p ∧ p ≤ 2147483647 := by
      rw [Int.fmod_eq_emod_of_nonneg _ (by decide)]
      have hr : (w2 + 1) % 7 = 0 ∨ (w2 + 1) % 7 = 1 ∨ (w2 + 1) % 7 = 2 ∨ (w2 + 1) % 7 = 3 ∨ (w2 + 1) % 7 = 4 ∨ (w2 + 1) % 7 = 5 ∨ (w2 + 1) % 7 = 6 := by omega
      rcases hr with e | e | e | e | e | e | e <;> rw [e] <;> exact ⟨_, rfl, by decide, by decide⟩
    obtain ⟨p, hp, p1, p2⟩ := hp
    walk_at "rls"
    refine ov_ixL (.inl rfl) hp ?_
    walk_at "rws"
    refine ov_mul (IntMulOk.of_left (by decide)) ?_
    walk_at "rws"
    refine ov_pow ⟨by decide, by decide, ?_⟩ ?_
    · have e : (2 : Nat) ^ 64 = 18446744073709551616 := by decide
      rw [e]; omega
    walk_at "rws"
    refine ov_mod (by omega) ?_
    generalize hx : ((w1 + 7919 * (w2 + 1) + 1) ^ Int.toNat 5).fmod p = x
    have x1 : 0 ≤ x ∧ x < p := by
      rw [Int.fmod_eq_emod_of_nonneg _ (by omega)] at hx
      exact hx ▸ ⟨Int.emod_nonneg _ (by omega), Int.emod_lt_of_pos _ (by omega)⟩
    walk_at "rws"
    refine ov_fdiv ⟨by decide, by decide⟩ ?_
    walk_at "rws"
    refine ov_mul ?_ ?_
    · refine IntMulOk.of_left (intBits_le_64 ?_ ?_)
      · have e : (2 : Int) ^ 64 = 18446744073709551616 := by decide
        rw [e]; omega
      · have e : (2 : Int) ^ 64 = 18446744073709551616 := by decide
        rw [e]; omega
    walk_at "rws"
    refine ov_mod (by omega) ?_
    generalize ((x + (w2 + 1)) * (x.fdiv 1009 + 69621)).fmod p = y
    walk_at "rw"
    refine sv_ret (ev_close (a := a) ?_)
    walk_at "rws"
    refine ov_fdiv ⟨by decide, by decide⟩ ?_
    walk_at "rws"
    refine ov_mod (by omega) ?_
    refine ⟨b - 1, w0, w1, w2 + 1, put_same, h0, h1, h2, by omega, by omega, ?_⟩
    rw [put_put]
    walk_at "rws"
    refine hP _ _ (k _ ?_ ?_)
    · rw [Int.fmod_eq_emod_of_nonneg _ (by omega)]; exact Int.emod_nonneg _ (by omega)
    · rw [Int.fmod_eq_emod_of_nonneg _ (by omega)]; exact Int.emod_lt_of_pos _ hn
 ) only [↓hE])
theorem atI_mem {ds : List D} {k : Int} (h0 : 0 ≤ k) (h1 : k < ds.length) : ∃ e, atI ds k = some e ∧ e ∈ ds := by
  obtain ⟨n, rfl⟩ := Int.eq_ofNat_of_zero_le h0
  have hn : n < ds.length := by omega
  refine ⟨ds[n], ?_, List.getElem_mem hn⟩
  have e : ixN ds.length (n : Int) = some n := by
    unfold ixN
    rw [if_pos (by omega), if_pos (by omega)]
    rfl
  unfold atI
  rw [e]
  exact List.getElem?_eq_getElem hn
theorem pure_Lone {T : Cfg} (hT : ShOk T) : ∀ E ds μ P XP, wl (c_Lone T) ds μ P XP → SV T (t_Lone T E) (fun cls dd _ H => E cls dd H) ⟨slots 2 ds, μ⟩ (fnK P XP) := Hd.o (by
 simp (disch :=
 with_unfolding_all
 exact by
  rintro E ds μ P XP ⟨a, b, rest, rfl, rfl, Pf, ⟨d, es, rfl, hs, h0, h1, hb, k⟩, hP⟩
  unfold t_Lone
  walk_at "rws"
  refine cv_len hs ?_
  walk_at "rws"
  refine ⟨a, b, _, _, rfl, rfl, _, rfl, by omega, ?_, hb, fun x x0 x1 => ?_⟩
  · have : (es.length : Int).natAbs = es.length := by omega
    rw [this]
    exact PySem.Flt.log2_lt_of (by decide) (Nat.lt_of_le_of_lt h1 (Nat.lt_of_lt_of_le (m := 2 ^ 10) (by decide) (Nat.pow_le_pow_right (by decide) (by decide))))
  · obtain ⟨e, he, hm⟩ := atI_mem x0 x1
    refine ov_ixL hs he ?_
    walk_at "rws"
    exact hP _ _ (k e hm)
 ) only [↓hE])
theorem one_i {T : Cfg} {b : Nat} {ds : List D} {P : D → Nat → Prop} (hb : 1 ≤ b) (h0 : 0 < ds.length) (h1 : ds.length ≤ 1000) (k : ∀ e ∈ ds, P e (b - 1)) : c_Lone T b [.lst ds] P := ⟨_, ds, rfl, .inl rfl, h0, h1, hb, k⟩
theorem draw_i {T : Cfg} {b : Nat} {n : Int} {P : D → Nat → Prop} (hb : 1 ≤ b) (h0 : 0 < n) (h1 : Bt 9000 n) (k : ∀ k : Int, 0 ≤ k → k < n → P (.int k) (b - 1)) : c_Ldraw T b [.int n] P := ⟨_, rfl, h0, h1.log (by decide), hb, k⟩
end Far
namespace Pw
open PySem PySem.Spec PyProof.Rows L2
def leR : List (Option D) → List (Option D) → Prop
  | [], [] => True
  | none :: r, _ :: s => leR r s
  | some d :: r, p :: s => p = some d ∧ leR r s
  | _, _ => False
theorem leR.len : ∀ {r s : List (Option D)}, leR r s → r.length = s.length
  | [], [], _ => rfl
  | none :: r, _ :: s, h => by
    have := leR.len (r := r) (s := s) h
    simp [this]
  | some d :: r, p :: s, h => by
    have := leR.len (r := r) (s := s) h.2
    simp [this]
  | [], _ :: _, h => h.elim
  | none :: _, [], h => h.elim
  | some _ :: _, [], h => h.elim
theorem leR.get : ∀ {r s : List (Option D)}, leR r s → ∀ (i : Nat) (d : D), r[i]? = some (some d) → s[i]? = some (some d)
  | [], [], _, i, d, e => by simp at e
  | none :: r, _ :: s, h, 0, d, e => by simp at e
  | none :: r, _ :: s, h, i + 1, d, e => leR.get (r := r) (s := s) h i d e
  | some d' :: r, p :: s, h, 0, d, e => by
    have e' : some (some d') = some (some d) := e
    cases e'
    show some p = _
    rw [h.1]
  | some d' :: r, p :: s, h, i + 1, d, e => leR.get (r := r) (s := s) h.2 i d e
  | [], _ :: _, h, _, _, _ => h.elim
  | none :: _, [], h, _, _, _ => h.elim
  | some _ :: _, [], h, _, _, _ => h.elim
theorem leR.refl : ∀ {r : List (Option D)}, leR r r
  | [] => trivial
  | none :: r => leR.refl (r := r)
  | some d :: r => ⟨rfl, leR.refl (r := r)⟩
theorem leR.set : ∀ {r s : List (Option D)}, leR r s → ∀ (i : Nat) (d : D), leR (r.set i (some d)) (s.set i (some d))
  | [], [], _, i, d => trivial
  | none :: r, _ :: s, h, 0, d => ⟨rfl, h⟩
  | none :: r, _ :: s, h, i + 1, d => leR.set (r := r) (s := s) h i d
  | some d' :: r, p :: s, h, 0, d => ⟨rfl, h.2⟩
  | some d' :: r, p :: s, h, i + 1, d => ⟨h.1, leR.set (r := r) (s := s) h.2 i d⟩
  | [], _ :: _, h, _, _ => h.elim
  | none :: _, [], h, _, _ => h.elim
  | some _ :: _, [], h, _, _ => h.elim
theorem leR.of : ∀ {r s : List (Option D)}, r.length = s.length → (∀ (i : Nat) (d : D), r[i]? = some (some d) → s[i]? = some (some d)) → leR r s
  | [], [], _, _ => trivial
  | none :: r, p :: s, hl, h => leR.of (r := r) (s := s) (by simpa using hl) fun i d e => h (i + 1) d e
  | some d' :: r, p :: s, hl, h => ⟨Option.some.inj (h 0 d' rfl), leR.of (r := r) (s := s) (by simpa using hl) fun i d e => h (i + 1) d e⟩
  | [], _ :: _, hl, _ => by simp at hl
  | none :: _, [], hl, _ => by simp at hl
  | some _ :: _, [], hl, _ => by simp at hl
theorem leR.trans {r s t : List (Option D)} (h : leR r s) (k : leR s t) : leR r t := leR.of (h.len.trans k.len) fun i d e => k.get i d (h.get i d e)
section
variable {T : Cfg} {W : WX} {ρ ρ' : List (Option D)} {m0 m' : Mu} {XP : XW} {K : Out → Prop} {ta tb te : TE} {P : D → Mu → Prop} {u : TS}
theorem Sim.wk {σ : L2.St} {Hb H : Hp} (h : leR ρ' ρ) (hm : Subm m' m0) (S : Sim T ⟨ρ, m0⟩ σ Hb H) : Sim T ⟨ρ', m'⟩ σ Hb H :=
  ⟨h.len.trans S.len, fun i d e => S.vars i d (h.get i d e), S.sub, hm.sim S.mu⟩
theorem sv_wk (h : leR ρ' ρ) (hm : Subm m' m0) (k : SV T u W ⟨ρ', m'⟩ K) : SV T u W ⟨ρ, m0⟩ K := fun σ Hb H Dn S c =>
  k σ Hb H Dn (S.wk h hm) (c.go (S.refl.forget hm))
theorem sub_refl {m : Mu} : Subm m m := fun _ _ e => e
theorem seqK_res {s' : S} (h : leR ρ' s'.r) (k : SV T u W ⟨ρ', mu0⟩ K) : seqK T u W K (.nx s') := seqK_nx (sv_wk (ρ := s'.r) (m0 := s'.m) h sub_nil k)
abbrev InvR (ρ : List (Option D)) (J : Nat → Mu → Prop) : Nat → S → Prop := fun n s => leR ρ s.r ∧ J n s.m
theorem sv_forN {i : Nat} (h : EV T te W ⟨ρ, m0⟩ (fun d μ => ∃ ds ρ' J, Seqd d ds ∧ leR ρ' ρ ∧ J 0 μ ∧ (∀ n e μ', ds[n]? = some e → J n μ' → SV T u W ⟨ρ'.set i (some e), μ'⟩ (forK (InvR ρ' J) n K)) ∧ ∀ s', leR ρ' s'.r → J ds.length s'.m → K (.nx s')) (xk ⟨ρ, m0⟩ K)) : SV T (tFor (iList T.K te) (gName i) u) W ⟨ρ, m0⟩ K :=
  sv_for (is := [i]) (iv_list (h.imp fun d μ ⟨ds, ρ', J, hs, hr, j0, turn, done⟩ => ⟨ds, hs, InvR ρ' J, ⟨hr, j0⟩, fun n s' hn hi => gv_name (sv_wk (hi.1.set i _) sub_refl (turn n _ s'.m (nth_get hn) hi.2)), fun s' hi => done s' hi.1 hi.2⟩))
theorem sv_forR {i : Nat} (h : EV T te W ⟨ρ, m0⟩ (fun d μ => ∃ ds ρ', Seqd d ds ∧ leR ρ' ρ ∧ (∀ e ∈ ds, SV T u W ⟨ρ'.set i (some e), mu0⟩ (forK (InvR ρ' fun _ _ => True) 0 K)) ∧ ∀ s', leR ρ' s'.r → K (.nx s')) (xk ⟨ρ, m0⟩ K)) : SV T (tFor (iList T.K te) (gName i) u) W ⟨ρ, m0⟩ K :=
  sv_forN (h.imp fun d μ ⟨ds, ρ', hs, hr, turn, done⟩ => ⟨ds, ρ', fun _ _ => True, hs, hr, trivial, fun n e μ' he _ => sv_wk leR.refl sub_nil ((turn e (List.mem_of_getElem? he)).imp fun o ho => by
    cases o <;> exact ho), fun s' a _ => done s' a⟩)
theorem ev_lcF {i : Nat} {te' : TE} (h : EV T te W ⟨ρ, m0⟩ (fun d μ => ∃ (ds : List D) (f : D → D), Seqd d ds ∧ ds.length ≤ 100000 ∧ (∀ e ∈ ds, EV T te' (fun _ _ _ _ => False) ⟨(wipeD ρ [i]).set i (some e), μ⟩ (fun x μ' => x = f e ∧ μ' = μ) (fun _ _ => False)) ∧ P (.lst (ds.map f)) μ) XP) : EV T (tLc (iList T.K te) (gName i) tYes te' [i]) W ⟨ρ, m0⟩ P XP :=
  ev_lc (is := [i]) (fun _ h => h) (iv_list (h.imp fun d μ ⟨ds, f, hs, hl, turn, done⟩ => ⟨ds, hs, hl, fun n acc μ' => μ' = μ ∧ acc = (ds.take n).map f, ⟨rfl, by simp⟩, fun n acc μ' hn _ ⟨e1, e2⟩ => by
    subst e1 e2
    refine gv_name (tv_yes ⟨fun _ => ?_, fun e => (nomatch e)⟩)
    have hm : nth ds n ∈ ds := List.mem_of_getElem? (nth_get hn)
    refine (turn _ hm).imp fun x μ2 ⟨e1, e2⟩ => ⟨e2, ?_⟩
    rw [e1, List.take_succ, nth_get hn]
    simp, fun acc μ' ⟨e1, e2⟩ => by
    subst e1 e2
    rw [List.take_length]
    exact done⟩))
end
theorem ev_callM0 {T : Cfg} {W : WX} {ρ : List (Option D)} {m0 : Mu} {P : D → Mu → Prop} {XP : XW} {c : Ct} {E : XK} {ta : TA}
    (h : EA T ta W ⟨ρ, m0⟩ (fun ds μ => ∃ μ1, Subm μ1 μ ∧ c ds μ1 (fun d μ2 => P d (mrg μ μ1 μ2)) (fun x μ2 => False)) XP) : EV T (tCall (spOf T c) [] E ta) W ⟨ρ, m0⟩ P XP := fun σ Hb H Q S q x =>
  h σ Hb H _ S (fun ds μ vs Hb1 H1 g r p => by
    obtain ⟨μ1, hs, p⟩ := p
    refine ⟨ds, μ1, Hb1, _, _, g.sub, hs.sim g.mu, by simpa using r, p, fun d μ' v Hb' H' g' r' k => ?_, fun y μ' cls dd Hb' H' g' r' k => k.elim⟩
    exact q _ _ _ _ _ (g.trans (g'.widen hs g.mu)) r' k) x
theorem mrg_put {μ : Mu} {a : Addr} {m : MO} : mrg μ mu0 (put mu0 a m) = put μ a m := by
  funext b
  unfold mrg put
  by_cases e : b = a
  · simp [e]
  · simp [e]
theorem cut_sub {ds : List D} {lo hi : Option Int} : ∀ e ∈ cutD ds lo hi, e ∈ ds := fun e h => List.mem_of_mem_drop (List.mem_of_mem_take h)
theorem cut_len {ds : List D} {lo hi : Option Int} : (cutD ds lo hi).length ≤ ds.length := by
  unfold cutD
  rw [List.length_take, List.length_drop]
  omega
def c_law (T : Cfg) : Ct := fun ds μ P _ => ∃ ns : List Int, ds = [.seq (ns.map D.int)] ∧ ns.length ≤ 63 ∧ μ = mu0 ∧ ∀ μ', P (.bl true) μ'
theorem len_law {T : Cfg} : ∀ ds μ P XP, c_law T ds μ P XP → ds.length = 1 := by
  rintro ds μ P XP ⟨ns, rfl, _⟩; rfl
theorem ints_rep {T : Cfg} {H : Hp} : ∀ ns : List Int, RepL T H (ns.map D.int) (ns.map V.int)
  | [] => .nil
  | n :: ns => .cons (.int n) (ints_rep ns)
theorem law_startL {T : Cfg} {H : Hp} {a : Addr} {ns : List Int} (hu : ∀ P q q', (P, q) ∈ T.tbs → (P, q') ∈ T.tbs → q = q') (hT : ∀ P q, (P, q) ∈ T.tbs → H P = some (.tbl #[])) (hl : ns.length ≤ 63) (hS : SqL T.K H a (ns.map V.int)) (hk : ∀ z ∈ T.kts, H z.1 = some (.tup (z.2.map kV)) := by exact fun _ h => nomatch h) : spOf T (c_law T) [.ref a] H (fun v _ => v = .bl true) fun _ _ _ => False := by
  have main : ∀ Hb : Hp, Evl.Ex Hb H → SqL T.K Hb a (ns.map V.int) → (∀ c o, Hb c = some o → NoTC o) → Kt T Hb → spOf T (c_law T) [.ref a] H (fun v _ => v = .bl true) fun _ _ _ => False := fun Hb ex hS hn kt => by
    have sm : SimMu T mu0 Hb H := by
      classical
      let G : Hp := fun b => if ∃ q, (b, q) ∈ T.tbs then H b else none
      have gt : ∀ b u, G b = some u → u = .tbl #[] := fun b u e => by
        have e : (if ∃ q, (b, q) ∈ T.tbs then H b else none) = some u := e
        by_cases h : ∃ q, (b, q) ∈ T.tbs
        · rw [if_pos h] at e
          obtain ⟨q, hq⟩ := h
          rw [hT b q hq] at e
          exact (Option.some.inj e).symm
        · rw [if_neg h] at e
          cases e
      have noc : ∀ c oc, G c ≠ some (.frz oc mkC) := fun c oc e => by
        have := gt c _ e
        cases this
      have nm : ∀ P q, Nm T.tbs G P q → (P, q) ∈ T.tbs := fun P q h => by
        rcases h with h | ⟨c, oc, _, e, _⟩
        · exact h
        · exact absurd e (noc c oc)
      refine ⟨fun _ _ h => (nomatch h), ⟨G, fun b u e => ?_, ⟨fun P q h => ?_, fun P q q' h h' => hu P q q' (nm _ _ h) (nm _ _ h')⟩, fun c oc => ⟨fun e => absurd e (noc c oc), fun e => absurd rfl ((hn _ _ e).2 oc)⟩, fun b u e => ?_⟩, fun c ps e => absurd rfl ((hn _ _ e).1 ps), kt⟩
      · have e0 : (if ∃ q, (b, q) ∈ T.tbs then H b else none) = some u := e
        by_cases h : ∃ q, (b, q) ∈ T.tbs
        · rw [if_pos h] at e0
          exact e0
        · rw [if_neg h] at e0
          cases e0
      · have h := nm _ _ h
        refine ⟨#[], ?_, True.intro, fun pos cv e => ?_⟩
        · show (if ∃ q, (P, q) ∈ T.tbs then H P else none) = _
          rw [if_pos ⟨q, h⟩]
          exact hT P q h
        · have z : codeAmong pos [] = some cv := e
          simp [codeAmong] at z
      · rw [gt b u e]
        exact fun z => z.1 #[] rfl
    exact ⟨[.seq (ns.map D.int)], mu0, Hb, fun d _ => d = .bl true, fun _ _ => False, ex, sm, .cons (.seq hS (ints_rep (T := T) (H := Hb) ns).1 (ints_rep ns).2) .nil, ⟨ns, rfl, hl, rfl, fun _ => rfl⟩, fun d μ' v Hb' H' g r p => by
      subst p
      cases r
      rfl, fun _ _ _ _ _ _ _ _ k => k.elim⟩
  classical
  have hkn : ∀ c o, (∃ ks, (c, ks) ∈ T.kts) → H c = some o → NoTC o := fun c o ⟨ks, h⟩ e => by
    rw [hk _ h] at e
    cases e
    exact ⟨fun _ z => (nomatch z), fun _ z => (nomatch z)⟩
  rcases hS with h | h
  · have hn : ∀ o, H a = some o → NoTC o := fun o e => by
      rcases h with z | ⟨od, z⟩ <;> rw [z] at e <;> cases e <;> exact ⟨fun _ z => (nomatch z), fun _ z => (nomatch z)⟩
    refine main (fun c => if c = a ∨ ∃ ks, (c, ks) ∈ T.kts then H c else none) (fun c o e => ?_) (.inl ?_) (fun c o e => ?_) fun z hz => ?_
    · have e : (if c = a ∨ ∃ ks, (c, ks) ∈ T.kts then H c else none) = some o := e
      by_cases q : c = a ∨ ∃ ks, (c, ks) ∈ T.kts
      · rw [if_pos q] at e; exact e
      · rw [if_neg q] at e; cases e
    · rcases h with z | ⟨od, z⟩
      · exact .inl (by show (if _ then H a else none) = _; rw [if_pos (.inl rfl)]; exact z)
      · exact .inr ⟨od, by show (if _ then H a else none) = _; rw [if_pos (.inl rfl)]; exact z⟩
    · have e : (if c = a ∨ ∃ ks, (c, ks) ∈ T.kts then H c else none) = some o := e
      by_cases q : c = a ∨ ∃ ks, (c, ks) ∈ T.kts
      · rw [if_pos q] at e
        rcases q with q | q
        · rw [q] at e; exact hn o e
        · exact hkn c o q e
      · rw [if_neg q] at e; cases e
    · show (if _ then H z.1 else none) = _
      rw [if_pos (.inr ⟨z.2, hz⟩)]
      exact hk z hz
  · refine main (fun c => if ∃ ks, (c, ks) ∈ T.kts then H c else none) (fun c o e => ?_) (.inr h) (fun c o e => ?_) fun z hz => ?_
    · have e : (if ∃ ks, (c, ks) ∈ T.kts then H c else none) = some o := e
      by_cases q : ∃ ks, (c, ks) ∈ T.kts
      · rw [if_pos q] at e; exact e
      · rw [if_neg q] at e; cases e
    · have e : (if ∃ ks, (c, ks) ∈ T.kts then H c else none) = some o := e
      by_cases q : ∃ ks, (c, ks) ∈ T.kts
      · rw [if_pos q] at e
        exact hkn c o q e
      · rw [if_neg q] at e; cases e
    · show (if _ then H z.1 else none) = _
      rw [if_pos ⟨z.2, hz⟩]
      exact hk z hz
theorem law_start {T : Cfg} {H : Hp} {a : Addr} {ns : List Int} (hl : ns.length ≤ 63) (hS : SqL T.K H a (ns.map V.int)) (h0 : T.tbs = [] := by rfl) (h1 : T.kts = [] := by rfl) : spOf T (c_law T) [.ref a] H (fun v _ => v = .bl true) fun _ _ _ => False :=
  law_startL (fun P q q' h => by rw [h0] at h; exact absurd h (by simp)) (fun P q h => by rw [h0] at h; exact absurd h (by simp)) hl hS (fun z h => by rw [h1] at h; exact absurd h (by simp))
end Pw
namespace Far
open PySem PySem.Spec PyProof.Rows L2 Pw
open FM (Bq)
theorem ev_wellN {T : Cfg} {W : WX} {ρ : List (Option D)} {m0 : Mu} {P : D → Mu → Prop} {XP : XW} {E : XK} {ta : TA}
    (h : EA T ta W ⟨ρ, m0⟩ (fun ds μ => ∃ c : Int, ds = [.int c] ∧ ∀ a, P (.ptr a) (put μ a (.well 1073741824))) XP) : EV T (tCall (spOf T (c_Lwell T)) [] E ta) W ⟨ρ, m0⟩ P XP :=
  ev_callM0 fun σ Hb H Q S q x => h σ Hb H Q S (fun ds μ vs Hb' H' g r ⟨c, e, p⟩ => q ds μ vs Hb' H' g r ⟨mu0, sub_nil, c, e, fun a _ => by
    show P _ (mrg μ mu0 (put mu0 a (.well full)))
    rw [mrg_put]
    exact p a⟩) x
section
variable {T : Cfg} {μ : Mu} {P : D → Mu → Prop} {E : XK}
theorem ov_shEq (hT : ShOk T) {p q : Rat} (k : P (.bl (decide (p = q))) μ) : OV T (rOwnEq T.K (T.cls 0) (spOf T (pu (c_Share___eq__ T))) E) (shD p) (shD q) μ P :=
  ov_ownEq (th_sh hT q).ty (th_sh hT q).nf ⟨p, shD q, _, rfl, th_sh hT q, .inl ⟨q, rfl, ⟨_, rfl⟩, k⟩⟩
theorem ov_shNe (hT : ShOk T) {p q : Rat} (k : P (.bl (!decide (p = q))) μ) : OV T (rOwnNe T.K (T.cls 0) (spOf T (pu (c_Share___eq__ T))) E) (shD p) (shD q) μ P :=
  ov_ownNe (th_sh hT q).ty (th_sh hT q).nf ⟨p, shD q, _, rfl, th_sh hT q, .inl ⟨q, rfl, _, rfl, k⟩⟩
end
section
variable {T : Cfg} {W : WX} {ρ : List (Option D)} {m0 : Mu} {P : D → Mu → Prop} {XP : XW} {E : XK} {ta : TA}
theorem EA.imp {P P' : List D → Mu → Prop} (h : EA T ta W ⟨ρ, m0⟩ P XP) (k : ∀ ds μ, P ds μ → P' ds μ) : EA T ta W ⟨ρ, m0⟩ P' XP :=
  fun σ Hb H Q S q x => h σ Hb H Q S (fun ds μ vs Hb' H' g r p => q ds μ vs Hb' H' g r (k _ _ p)) x
theorem ev_mkS0 (hT : ShOk T) (h : EA T ta W ⟨ρ, m0⟩ (fun ds μ => ∃ i j : Int, ds = [.int i, .int j] ∧ j ≠ 0 ∧ Bt 9000 j ∧ P (shD (Rat.divInt i j)) μ) XP) : EV T (tMake (T.cls 0) (spOf T (ini 0 (c_Share___init__ T))) [] E ta) W ⟨ρ, m0⟩ P XP :=
  ev_mak0 (EA.imp h fun ds μ ⟨i, j, e, h1, h2, p⟩ => by subst e; exact i_init hT h1 h2 p)
theorem ev_mkS1 (hT : ShOk T) (h : EA T ta W ⟨ρ, m0⟩ (fun ds μ => ∃ i : Int, ds = [.int i] ∧ P (shD (i : Rat)) μ) XP) : EV T (tMake (T.cls 0) (spOf T (ini 0 (c_Share___init__ T))) [.int 1] E ta) W ⟨ρ, m0⟩ P XP :=
  ev_mak1 (EA.imp h fun ds μ ⟨i, e, p⟩ => by subst e; exact i_int hT p)
theorem ex_ii {i j : Int} {Q : Int → Int → Prop} (h : Q i j) : ∃ x y, [D.int i, D.int j] = [.int x, .int y] ∧ Q x y := ⟨_, _, rfl, h⟩
theorem ex_i {i : Int} {Q : Int → Prop} (h : Q i) : ∃ x, [D.int i] = [.int x] ∧ Q x := ⟨_, rfl, h⟩
end
end Far
namespace Pw
open PySem PySem.Spec PyProof.Rows L2
open Evl (Ex fresh_back)
abbrev CF := List D → (D → Prop) → Prop
def SpecOf (T : Cfg) (sp : SpL) (caps : List (D × V)) (cells : List (Addr × V)) (cc : Addr × Obj) (C : CF) : Prop :=
  ∀ (ds : List D) (P : D → Prop) (vs : List V) (Hb H : Hp) (Q : VK) (E : XK), Ex Hb H → SimMu T mu0 Hb H → RepL T Hb ds vs → (∀ z ∈ caps, Rep T Hb z.1 z.2) → Hb cc.1 = some (.frz cc.2 mkC) → (∀ p ∈ cells, Hb p.1 = none ∧ ∃ ob, H p.1 = some (.frz ob mkO)) → C ds P →
    (∀ d v Hb' H', Go T mu0 Hb H mu0 Hb' H' → Rep T Hb' d v → P d → Q v H') → sp vs H Q E
structure FunC (T : Cfg) (kb : Nat) (f : Addr) (C : CF) (μ : Mu) : Prop where
  ex : ∃ (k : Nat) (o : Obj) (cells : List (Addr × V)) (cc : Addr × Obj) (sp : SpL) (caps : List (D × V)), μ f = some (.clo k f o cells cc sp caps) ∧ k ≤ kb ∧ (∀ p ∈ cells, ∃ ob, μ p.1 = some (.cel ob) ∧ CellIs ob p.2) ∧ SpecOf T sp caps cells cc C
section
variable {T : Cfg} {W : WX} {s : S} {ρ : List (Option D)} {m0 μ μ1 μ2 : Mu} {Hb H Hb' H' : Hp} {P : D → Mu → Prop} {XP : XW} {kb : Nat} {f : Addr} {C C' : CF} {ta : TA} {te : TE}
theorem SpecOf.imp {sp : SpL} {caps : List (D × V)} {cells : List (Addr × V)} {cc : Addr × Obj} (h : SpecOf T sp caps cells cc C) (k : ∀ ds P, C' ds P → C ds P) : SpecOf T sp caps cells cc C' :=
  fun ds P vs Hb H Q E ex sm r hc hcc hce hC q => h ds P vs Hb H Q E ex sm r hc hcc hce (k _ _ hC) q
theorem FunC.imp (F : FunC T kb f C μ) (k : ∀ ds P, C' ds P → C ds P) : FunC T kb f C' μ := by
  obtain ⟨k1, o, cells, cc, sp, caps, h1, h2, h3, h4⟩ := F.ex
  exact ⟨⟨k1, o, cells, cc, sp, caps, h1, h2, h3, h4.imp k⟩⟩
theorem FunC.sub (F : FunC T kb f C μ1) (h : Subm μ1 μ) : FunC T kb f C μ := by
  obtain ⟨k1, o, cells, cc, sp, caps, h1, h2, h3, h4⟩ := F.ex
  exact ⟨⟨k1, o, cells, cc, sp, caps, h _ _ h1, h2, fun p hp => by
    obtain ⟨ob, a, b⟩ := h3 p hp
    exact ⟨ob, h _ _ a, b⟩, h4⟩⟩
theorem Subm.putN {a : Addr} {m : MO} (h : Subm μ1 μ) (n : μ1 a = none) : Subm μ1 (put μ a m) := fun b z e => by
  rw [put_ne (fun q => by rw [q, n] at e; cases e)]
  exact h b z e
theorem FunC.at_ (F : FunC T kb f C μ) : ∃ m, μ f = some m := by
  obtain ⟨k1, o, cells, cc, sp, caps, h1, _⟩ := F.ex
  exact ⟨_, h1⟩
end
end Pw
namespace LamY
open PySem PySem.Spec PyProof.Rows L2
theorem walk {l : PySem.W.OpenLaw} {n k : Nat} {q : Program} {loose : List Str} {XP : (Str → Option Value) → Heap → Prop} {YP : World → Heap → Prop} {d : DefRec} {CX : World → CXT} {x : Str}
    (hn : l.most = some n) (hn2 : n ≤ sizeLine) (hdf : d.params.defaults = []) (hr : Room k callerA)
    (F : ∀ (w : World) (mg : Str → Option Value) (fa : Addr) (h : Heap), YP w h → (∃ loose mean mb, Top q loose mean mg mb h) → h.Ns mainGlobals mg → mg d.name = some (.ref fa) → ∃ K : PySem.W.Frag, K.In h ∧ LamX.LawAtS l w K (CX w) k n x mg fa h)
    (hCX : ∀ (w : World) (H : Hp) (s : Shared) (e : Value) (s' : Shared), CX w [] H s (fun _ _ _ => False) e s' → False) :
    PySem.W.WalkO q loose XP YP l.row.toRowW d [] (fun f vs => PySem.call f vs) := by
  refine Att.attach_callB hn hdf fun w s₀ s₁ mg mb fa o pm cd doc a vs ns G Y ho hd hcd hmg hobj hints hlen hbits hg => ?_
  obtain ⟨K, KX, fd, cs, sp, hT, nT, C, hb, hsp, hF⟩ := F w mg fa _ Y ⟨_, _, _, G.T⟩ G.T.g hmg
  exact LamX.law_callTs KX G.T.g G.T.b G.T.builtins G.T.nolimit hg hT nT C G.T.bmain hobj hints (Nat.le_trans hlen hn2) hr hF hb (fun H hH hS => hsp H a ns hlen hbits hH hS) fun H e s' => hCX w H s₁ e s'
end LamY
namespace Pw
open PySem PySem.Spec PyProof.Rows L2
section
variable {T : Cfg} {W : WX} {ρ : List (Option D)} {m0 m' : Mu} {XP : XW} {K : Out → Prop} {ta tb te te' : TE} {P : D → Mu → Prop} {u : TS}
abbrev InvI (ρ : Nat → List (Option D)) (J : Nat → Mu → Prop) : Nat → S → Prop := fun n s => leR (ρ n) s.r ∧ J n s.m
theorem sv_forNI {i : Nat} (h : EV T te W ⟨ρ, m0⟩ (fun d μ => ∃ ds ρ' J, Seqd d ds ∧ leR (ρ' 0) ρ ∧ J 0 μ ∧ (∀ n e μ', ds[n]? = some e → J n μ' → SV T u W ⟨(ρ' n).set i (some e), μ'⟩ (forK (InvI ρ' J) n K)) ∧ ∀ s', leR (ρ' ds.length) s'.r → J ds.length s'.m → K (.nx s')) (xk ⟨ρ, m0⟩ K)) : SV T (tFor (iList T.K te) (gName i) u) W ⟨ρ, m0⟩ K :=
  sv_for (is := [i]) (iv_list (h.imp fun d μ ⟨ds, ρ', J, hs, hr, j0, turn, done⟩ => ⟨ds, hs, InvI ρ' J, ⟨hr, j0⟩, fun n s' hn hi => gv_name (sv_wk (hi.1.set i _) sub_refl (turn n _ s'.m (nth_get hn) hi.2)), fun s' hi => done s' hi.1 hi.2⟩))
theorem ev_lcW {wi : TI} {i : Nat} (h : IV T wi W ⟨ρ, m0⟩ (fun n f μ => n ≤ 100000 ∧ ∃ (J : Nat → Mu → Prop) (R : Nat → D → Prop), J 0 μ ∧ (∀ k μ', k < n → J k μ' → EV T te' (fun _ _ _ _ => False) ⟨(wipeD ρ [i]).set i (some (f k)), μ'⟩ (fun x μ2 => R k x ∧ J (k + 1) μ2) (fun _ _ => False)) ∧ ∀ acc μ', acc.length = n → (∀ k x, acc[k]? = some x → R k x) → J n μ' → P (.lst acc) μ') XP) : EV T (tLc wi (gName i) tYes te' [i]) W ⟨ρ, m0⟩ P XP :=
  ev_lc (is := [i]) (fun _ h => h) (fun σ Hb H Q S q x => h σ Hb H Q S (fun It n f μ Hb' H' g ok ⟨hn, J, R, j0, turn, done⟩ => q It n f μ Hb' H' g ok ⟨hn, fun k acc μ' => J k μ' ∧ acc.length = k ∧ ∀ l y, acc[l]? = some y → R l y, ⟨j0, rfl, fun l y e => by simp at e⟩, fun k acc μ' hk _ ⟨jk, hl, hr⟩ => by
    refine gv_name (tv_yes ⟨fun _ => ?_, fun e => (nomatch e)⟩)
    refine (turn k μ' hk jk).imp fun y μ2 ⟨r1, j1⟩ => ⟨j1, by simp [hl], fun l z e => ?_⟩
    by_cases hlk : l < k
    · rw [List.getElem?_append_left (by omega)] at e
      exact hr l z e
    · rw [List.getElem?_append_right (by omega)] at e
      have : l = k := by
        rcases Nat.lt_or_ge (l - acc.length) 1 with w | w
        · omega
        · rw [List.getElem?_eq_none (by simpa using w)] at e; cases e
      subst this
      rw [hl, Nat.sub_self] at e
      cases e
      exact r1, fun acc μ' ⟨jn, hl, hr⟩ => done acc μ' hl hr jn⟩) x)
theorem ev_lcF2 {i j : Nat} (h : EV T te W ⟨ρ, m0⟩ (fun d μ => ∃ (ds : List D) (f : D → D), Seqd d ds ∧ ds.length ≤ 100000 ∧ (∀ e ∈ ds, ∃ x y, e = .tup [x, y] ∧ EV T te' (fun _ _ _ _ => False) ⟨((wipeD ρ [i, j]).set i (some x)).set j (some y), μ⟩ (fun x μ' => x = f e ∧ μ' = μ) (fun _ _ => False)) ∧ P (.lst (ds.map f)) μ) XP) : EV T (tLc (iList T.K te) (gTup T.K 2 (gCons (gName i) (gCons (gName j) gNil))) tYes te' [i, j]) W ⟨ρ, m0⟩ P XP :=
  ev_lc (is := [i] ++ ([j] ++ [])) (fun _ h => h) (iv_list (h.imp fun d μ ⟨ds, f, hs, hl, turn, done⟩ => ⟨ds, hs, hl, fun n acc μ' => μ' = μ ∧ acc = (ds.take n).map f, ⟨rfl, by simp⟩, fun n acc μ' hn _ ⟨e1, e2⟩ => by
    subst e1 e2
    have hm : nth ds n ∈ ds := List.mem_of_getElem? (nth_get hn)
    obtain ⟨x, y, e, k⟩ := turn _ hm
    rw [e]
    refine gv_tup rfl (gvs_cons (gv_name (gvs_cons (gv_name (gvs_nil (tv_yes ⟨fun _ => ?_, fun e => (nomatch e)⟩))))))
    refine k.imp fun x μ2 ⟨e1, e2⟩ => ⟨e2, ?_⟩
    rw [e1, List.take_succ, nth_get hn]
    simp, fun acc μ' ⟨e1, e2⟩ => by
    subst e1 e2
    rw [List.take_length]
    exact done⟩))
end
end Pw
namespace Far
open PySem PySem.Spec PyProof.Rows L2 Pw
open FM (Bq)
open FM
theorem bN {p : Prop} {i : Decidable p} {A B : Prop} (e : p) (h : B) : ((!decide p) = true → A) ∧ ((!decide p) = false → B) := bF (by rw [decide_eq_true e]; rfl) h
theorem bN' {p : Prop} {i : Decidable p} {A B : Prop} (e : p) (h : A) : ((!decide p) = false → A) ∧ ((!decide p) = true → B) := bF' (by rw [decide_eq_true e]; rfl) h
theorem bq_mul {n m : Nat} {p q : Rat} (h : Bq n p) (k : Bq m q) : Bq (n + m + 1) (p * q) := (Bq.mul (h.mono (Nat.le_add_right n 1)) k (by omega)).mono (by omega)
theorem bq_div {n m : Nat} {p q : Rat} (h : Bq n p) (k : Bq m q) : Bq (n + m + 1) (p / q) := (Bq.div (h.mono (Nat.le_add_right n 1)) k (by omega)).mono (by omega)
theorem plus_i {T : Cfg} {p q : Rat} {n m : Nat} {P : D → Prop} {X : XD → Prop} (h1 : Bq n p) (h2 : Bq m q) (h : n + m ≤ 9000) (k : P (shD (p + q))) : c_plus T [shD p, shD q] P X := ⟨p, q, n, m, rfl, h1, h2, h, k⟩
theorem minus_i {T : Cfg} {p q : Rat} {n m : Nat} {P : D → Prop} {X : XD → Prop} (h1 : Bq n p) (h2 : Bq m q) (h : n + m ≤ 9000) (k : P (shD (p - q))) : c_minus T [shD p, shD q] P X := ⟨p, q, n, m, rfl, h1, h2, h, k⟩
theorem times_i {T : Cfg} {p q : Rat} {n m : Nat} {P : D → Prop} {X : XD → Prop} (h1 : Bq n p) (h2 : Bq m q) (h : n + m ≤ 9000) (k : P (shD (p * q))) : c_times T [shD p, shD q] P X := ⟨p, q, n, m, rfl, h1, h2, h, k⟩
theorem less_i {T : Cfg} {p q : Rat} {n m : Nat} {P : D → Prop} {X : XD → Prop} (h1 : Bq n p) (h2 : Bq m q) (h : n + m ≤ 9000) (k : P (.bl (decide (p < q)))) : c_less T [shD p, shD q] P X := ⟨p, q, n, m, rfl, h1, h2, h, k⟩
class Sz (q : Rat) (n : outParam Nat) : Prop where
  ok : Bq n q
instance sz_add {p q : Rat} {n m : Nat} [h : Sz p n] [k : Sz q m] : Sz (p + q) (n + m + 1) := ⟨h.ok.add k.ok⟩
instance sz_sub {p q : Rat} {n m : Nat} [h : Sz p n] [k : Sz q m] : Sz (p - q) (n + m + 1) := ⟨h.ok.sub k.ok⟩
instance sz_mul {p q : Rat} {n m : Nat} [h : Sz p n] [k : Sz q m] : Sz (p * q) (n + m + 1) := ⟨bq_mul h.ok k.ok⟩
instance sz_div {p q : Rat} {n m : Nat} [h : Sz p n] [k : Sz q m] : Sz (p / q) (n + m + 1) := ⟨bq_div h.ok k.ok⟩
instance sz_0 : Sz ((0 : Int) : Rat) 1 := ⟨⟨by decide, by decide⟩⟩
instance sz_1 : Sz ((1 : Int) : Rat) 2 := ⟨⟨by decide, by decide⟩⟩
theorem plus_s {T : Cfg} {p q : Rat} {n m : Nat} {P : D → Prop} {X : XD → Prop} [h1 : Sz p n] [h2 : Sz q m] (h : n + m ≤ 9000) (k : P (shD (p + q))) : c_plus T [shD p, shD q] P X := plus_i h1.ok h2.ok h k
theorem minus_s {T : Cfg} {p q : Rat} {n m : Nat} {P : D → Prop} {X : XD → Prop} [h1 : Sz p n] [h2 : Sz q m] (h : n + m ≤ 9000) (k : P (shD (p - q))) : c_minus T [shD p, shD q] P X := minus_i h1.ok h2.ok h k
theorem times_s {T : Cfg} {p q : Rat} {n m : Nat} {P : D → Prop} {X : XD → Prop} [h1 : Sz p n] [h2 : Sz q m] (h : n + m ≤ 9000) (k : P (shD (p * q))) : c_times T [shD p, shD q] P X := times_i h1.ok h2.ok h k
theorem less_s {T : Cfg} {p q : Rat} {n m : Nat} {P : D → Prop} {X : XD → Prop} [h1 : Sz p n] [h2 : Sz q m] (h : n + m ≤ 9000) (k : P (.bl (decide (p < q)))) : c_less T [shD p, shD q] P X := less_i h1.ok h2.ok h k
end Far
namespace Pw
open PySem PySem.Spec PyProof.Rows L2
open Evl (ex_l ex_t)
section
variable {T : Cfg} {W : WX} {ρ : List (Option D)} {m0 : Mu} {XP : XW} {K : Out → Prop} {ta tb te te' : TE} {P : D → Mu → Prop} {u : TS} {μ : Mu}
theorem rep_rep {Hb : Hp} {ds : List D} {xs : List V} (r : RepL T Hb ds xs) : ∀ k : Nat, RepL T Hb (List.replicate k ds).flatten (List.replicate k xs).flatten
  | 0 => .nil
  | k + 1 => by
    rw [List.replicate_succ, List.replicate_succ, List.flatten_cons, List.flatten_cons]
    exact r.app (rep_rep r k)
theorem ov_rep {ds : List D} {k : Nat} (h1 : k ≤ 100000) (hl : ds.length * k ≤ 100000) (p : P (.lst (List.replicate k ds).flatten) μ) : OV T rRep (.lst ds) (.int (k : Int)) μ P := fun x y Hb H Q ex sm rx ry q => by
  obtain ⟨b, xs, rfl, hx, r⟩ := rx.lst_inv
  cases ry
  refine ⟨b, (k : Int), xs, rfl, rfl, ex _ _ hx, by omega, ?_, by rw [← r.1]; exact Evl.sz_of (by simpa using hl), fun p' hp => ?_⟩
  · have : (2 : Int) ^ 63 = 9223372036854775808 := by decide
    rw [this]; omega
  · have g := Go.lay ex sm (o := .lst (List.replicate (k : Int).toNat xs).flatten) hp
    have r2 := rep_rep r k
    exact q _ _ _ _ _ g (.lst upd_same r2.1 (r2.mono g.ex).2) p
end
section
variable {T : Cfg} {W : WX} {ρ : List (Option D)} {m0 : Mu} {XP : XW} {K : Out → Prop} {ta : TA} {te te' : TE} {P : D → Mu → Prop} {u : TS} {μ : Mu}
def unK (i : Nat) (K : Out → Prop) : Out → Prop
  | .nx s => K (.nx ⟨s.r.set i none, s.m⟩)
  | .bk s => K (.bk ⟨s.r.set i none, s.m⟩)
  | .ct s => K (.ct ⟨s.r.set i none, s.m⟩)
  | .rt d m => K (.rt d m)
  | .xr _ _ => False
def tryK (T : Cfg) (c : Value) (i : Nat) (ts : Addr → Value → Option Addr → TS) (K : Out → Prop) : Out → Prop
  | .xr x s' => PySem.W.exmOne T.K x.cls c = some true ∧ ∀ a d, (x.val = none → d = none) → SV T (ts a x.cls d) (fun _ _ _ _ => False) ⟨s'.r.set i (some (.ptr a)), s'.m⟩ (unK i K)
  | o => K o
theorem tryK_nx {c : Value} {i : Nat} {ts : Addr → Value → Option Addr → TS} {s' : S} (h : K (.nx s')) : tryK T c i ts K (.nx s') := h
theorem tryK_rt {c : Value} {i : Nat} {ts : Addr → Value → Option Addr → TS} {d : D} {m : Mu} (h : K (.rt d m)) : tryK T c i ts K (.rt d m) := h
theorem unK_rt {i : Nat} {d : D} {m : Mu} (h : K (.rt d m)) : unK i K (.rt d m) := h
theorem unK_nx {i : Nat} {s' : S} (h : K (.nx ⟨s'.r.set i none, s'.m⟩)) : unK i K (.nx s') := h
end
def rInC : R2 := fun x y H Q => ∃ (c : Nat) (z : Str), x = .str ⟨#[c]⟩ ∧ y = .str z ∧ Q (.bl (decide (c ∈ z.cps.toList))) H
section
variable {T : Cfg} {W : WX} {ρ : List (Option D)} {m0 : Mu} {XP : XW} {K : Out → Prop} {ta tb tc te te' : TE} {P : D → Mu → Prop} {u : TS} {μ : Mu}
theorem ev_chain {r r' : R2} (h : EV T ta W ⟨ρ, m0⟩ (fun d μ1 => EV T tb W ⟨ρ, μ1⟩ (fun e μ2 => OV T r d e μ2 (fun z μ3 => ∃ k, z = .bl k ∧ (k = true → EV T tc W ⟨ρ, μ3⟩ (fun f μ4 => OV T r' e f μ4 P) XP) ∧ (k = false → P (.bl false) μ3))) XP) XP) : EV T (tChain r r' ta tb tc) W ⟨ρ, m0⟩ P XP := fun σ Hb H Q S q x =>
  h σ Hb H _ S (fun d μ1 v Hb1 H1 g1 r1 p1 => p1 σ Hb1 H1 _ (S.go g1) (fun e μ2 w Hb2 H2 g2 r2 p2 =>
    p2 v w Hb2 H2 _ g2.sub g2.mu (r1.mono g2.ex) r2 fun z μ3 z' Hb3 H3 g3 r3 p3 => by
      obtain ⟨k, rfl, pt, pf⟩ := p3
      cases r3
      refine ⟨k, rfl, ?_⟩
      have g13 := (g1.trans g2).trans g3
      cases k with
      | false => exact q _ _ _ _ _ g13 (.bl false) (pf rfl)
      | true =>
        refine pt rfl σ Hb3 H3 _ (S.go g13) (fun f μ4 w4 Hb4 H4 g4 r4 p4 => ?_) (fun y μ' cls dd Hb' H' g r p => x y μ' cls dd Hb' H' (g13.trans g) r p)
        exact p4 w w4 Hb4 H4 Q g4.sub g4.mu ((r2.mono g3.ex).mono g4.ex) r4 fun z5 μ5 u5 Hb5 H5 g5 r5 p5 => q z5 μ5 u5 Hb5 H5 ((g13.trans g4).trans g5) r5 p5)
    (fun y μ' cls dd Hb' H' g r p => x y μ' cls dd Hb' H' (g1.trans g) r p)) x
theorem ov_inC {c : Nat} {z : Str} (p : P (.bl (decide (c ∈ z.cps.toList))) μ) : OV T rInC (.str ⟨#[c]⟩) (.str z) μ P := ov_of (fun x y Hb H Q ex rx ry q => by
  cases rx; cases ry
  exact ⟨c, z, rfl, rfl, q _ (.bl _)⟩) p
theorem ov_ixS {z : Str} {i : Int} {c : Nat} (hz : z.length ≤ 100000) (h : atI z.cps.toList i = some c) (p : P (.str ⟨#[c]⟩) μ) : OV T rIxS (.str z) (.int i) μ P := ov_of (fun x y Hb H Q ex rx ry q => by
  cases rx; cases ry
  exact ⟨z, i, c, rfl, rfl, Evl.sz_of hz, h, q _ (.str _)⟩) p
theorem ev_lcSB {i : Nat} {f : Nat → Bool} (h : EV T te W ⟨ρ, m0⟩ (fun d μ => ∃ z : Str, d = .str z ∧ z.cps.size ≤ 100000 ∧ (∀ c ∈ z.cps.toList, EV T te' (fun _ _ _ _ => False) ⟨(wipeD ρ [i]).set i (some (.str ⟨#[c]⟩)), μ⟩ (fun x μ' => x = .bl (f c) ∧ μ' = μ) (fun _ _ => False)) ∧ P (.lst ((z.cps.toList.map f).map D.bl)) μ) XP) : EV T (tLc (iStr te) (gName i) tYes te' [i]) W ⟨ρ, m0⟩ P XP :=
  ev_lc (is := [i]) (fun _ h => h) (iv_str (h.imp fun d μ ⟨z, e, hl, turn, done⟩ => ⟨z, e, hl, fun n acc μ' => μ' = μ ∧ acc = ((z.cps.toList.take n).map f).map D.bl, ⟨rfl, by simp⟩, fun n acc μ' hn _ ⟨e1, e2⟩ => by
    subst e1 e2
    have hc : z.cps.toList[n]? = some (z.cps.getD n 0) := by
      rw [Array.getElem?_toList, Array.getD_eq_getD_getElem?, Array.getElem?_eq_getElem hn]
      rfl
    refine gv_name (tv_yes ⟨fun _ => ?_, fun e => (nomatch e)⟩)
    refine (turn _ (List.mem_of_getElem? hc)).imp fun x μ2 ⟨e1, e2⟩ => ⟨e2, ?_⟩
    rw [e1, List.take_succ, hc]
    simp, fun acc μ' ⟨e1, e2⟩ => by
    subst e1 e2
    have : z.cps.toList.take z.cps.size = z.cps.toList := by rw [← Array.length_toList, List.take_length]
    rw [this]
    exact done⟩))
end
end Pw
local macro_rules | `(tactic| walk_at "pw") => `(tactic| first
  | (with_reducible refine Pw.ev_op ?_)
  | ((with_reducible refine Pw.ev_var (d := ?d) ?h ?_); (case h => rfl))
  | (with_reducible refine Pw.ev_int ?_)
  | (with_reducible refine Pw.ev_bl ?_)
  | (with_reducible refine Pw.ev_str ?_)
  | (with_reducible refine Pw.ev_non ?_)
  | (with_reducible refine Pw.ev_ty ?_)
  | (with_reducible refine Pw.ev_ref ?_)
  | (with_reducible refine Pw.ev_cb ?_)
  | (with_reducible refine Pw.ev_un ?_)
  | (with_reducible refine Pw.ea_cons ?_)
  | (with_reducible refine Pw.ea_nil ?_)
  | (with_reducible refine Pw.ev_cal0 ?_)
  | (with_reducible refine Pw.ev_calN ?_)
  | (with_reducible refine Pw.ev_mak0 ?_)
  | (with_reducible refine Pw.ev_mak1 ?_)
  | (with_reducible refine Pw.ev_if ?_)
  | (with_reducible refine Pw.ev_and ?_)
  | (with_reducible refine Pw.ev_or ?_)
  | (with_reducible refine Pw.ev_not ?_)
  | (with_reducible refine Pw.tv_test ?_)
  | (with_reducible refine Pw.tv_B ?_)
  | (with_reducible refine Pw.tv_and ?_)
  | (with_reducible refine Pw.tv_or ?_)
  | (with_reducible refine Pw.tv_not ?_)
  | (with_reducible refine Pw.tv_yes ?_)
  | (with_reducible refine Pw.po_no ?_)
  | (with_reducible refine Pw.po_so ?_)
  | (with_reducible refine Pw.sv_seq ?_)
  | (with_reducible refine Pw.sv_asg ?_)
  | (with_reducible refine Pw.sv_ret ?_)
  | (with_reducible refine Pw.sv_if ?_)
  | (with_reducible refine Pw.sv_par ?_)
  | (with_reducible refine Pw.sv_next ?_)
  | (with_reducible refine Pw.sv_app ?_)
  | (with_reducible refine Pw.sv_drop ?_)
  | (with_reducible refine Pw.sv_fld ?_)
  | (with_reducible refine Pw.ov_add ?_)
  | (with_reducible refine Pw.ov_sub ?_)
  | (with_reducible refine Pw.ov_lt ?_)
  | (with_reducible refine Pw.ov_le ?_)
  | (with_reducible refine Pw.ov_gt ?_)
  | (with_reducible refine Pw.ov_ge ?_)
  | (with_reducible refine Pw.ov_eqI ?_)
  | (with_reducible refine Pw.ov_neI ?_)
  | (with_reducible refine Pw.ov_eqS ?_)
  | (with_reducible refine Pw.ov_neS ?_)
  | (with_reducible refine Pw.ov_eqB ?_)
  | (with_reducible refine Pw.ov_neB ?_)
  | (with_reducible refine Pw.cv_abs ?_)
  | ((with_reducible refine Pw.ov_ixT (e := ?e) ?h ?_); (case h => rfl))
  | ((with_reducible refine Pw.ov_ixM (ds := ?ds) (e := ?e) ?hm ?h ?_); (case hm => exact Pw.put_same); (case h => rfl))
  | ((with_reducible refine Pw.ov_pow ?h ?_); (case h => exact ⟨by decide, by decide, by decide⟩))
  | ((with_reducible refine Pw.ov_mod ?h ?_); (case h => decide))
  | (with_reducible refine Pw.ev_tup ?_)
  | ((with_reducible refine And.intro (show _ ≤ 100000 from ?hl) ?_); (case hl => (simp; done)))
  | (with_reducible refine Pw.cv_intB ?_)
  | (with_reducible refine Pw.uv_neg ?_)
  | (with_reducible refine Pw.seqK_nx ?_)
  | (with_reducible refine Pw.seqK_rt ?_)
  | (with_reducible refine Pw.seqK_xr ?_)
  | (with_reducible refine Pw.seqK_ct ?_)
  | (with_reducible refine Pw.seqK_bk ?_)
  | (with_reducible refine Pw.whK_rt ?_)
  | (with_reducible refine Pw.whK_xr ?_)
  | (with_reducible refine Pw.whK_bk ?_)
  | (with_reducible refine Pw.forK_nx ?_)
  | (with_reducible refine Pw.forK_ct ?_)
  | (with_reducible refine Pw.forK_rt ?_)
  | (with_reducible refine Pw.forK_xr ?_)
  | (with_reducible refine Pw.forK_bk ?_)
  | (with_reducible refine Pw.fnK_rt ?_)
  | (with_reducible refine Pw.fnK_nx ?_)
  | (with_reducible refine Pw.fnK_xr ?_))
local macro_rules | `(tactic| walk_at "pl") => `(tactic| first
  | walk_at "pw"
  | (with_reducible refine Pw.ev_lst ?_))
local macro_rules | `(tactic| walk_at "pls") => `(tactic| repeat (walk_at "pl"))
local macro_rules | `(tactic| walk_at "pws") => `(tactic| repeat (walk_at "pw"))
local macro_rules | `(tactic| walk_at "pk") => `(tactic| first
  | ((with_reducible refine Far.ev_mkS0 ?hT ?_); (case hT => assumption))
  | ((with_reducible refine Far.ev_mkS1 ?hT ?_); (case hT => assumption))
  | walk_at "pl"
  | (with_reducible refine Pw.ex_bl ?_)
  | (with_reducible refine Pw.b_tt ?_)
  | (with_reducible refine Pw.b_ff ?_)
  | (with_reducible refine Pw.b_tt' ?_)
  | (with_reducible refine Pw.b_ff' ?_)
  | (with_reducible refine Pw.b_nt ?_)
  | (with_reducible refine Pw.b_nf ?_)
  | (with_reducible refine Pw.b_nt' ?_)
  | (with_reducible refine Pw.b_nf' ?_)
  | (with_reducible refine Pw.b_d ?_)
  | (with_reducible refine Pw.b_d' ?_)
  | (with_reducible refine Pw.b_dn ?_)
  | (with_reducible refine Pw.b_dn' ?_)
  | (with_reducible refine Pw.ex_2 ?_)
  | ((with_reducible refine Far.ev_top ?hT ?_); (case hT => assumption))
  | ((with_reducible refine Far.ev_bot ?hT ?_); (case hT => assumption))
  | (with_reducible refine Far.ex_sh ?_)
  | ((with_reducible refine Far.isi_sh ?hT ?_); (case hT => assumption))
  | (with_reducible refine Far.isi_ib ?_)
  | (with_reducible refine Far.isi_ii ?_)
  | (with_reducible refine Pw.ov_eq2 ?_)
  | (with_reducible refine Pw.ov_ne2 ?_)
  | (with_reducible refine Far.ov_eqP ?_)
  | (with_reducible refine Far.ov_neP ?_)
  | (with_reducible refine Far.ex_ii ?_)
  | (with_reducible refine Far.ex_i ?_)
  | (with_reducible refine Far.ev_wellN ?_)
  | ((with_reducible refine Far.ov_shEq ?hT ?_); (case hT => assumption))
  | ((with_reducible refine Far.ov_shNe ?hT ?_); (case hT => assumption))
  | (with_reducible refine Pw.sv_asg2 ?_)
  | (with_reducible refine Pw.sv_asg3 ?_)
  | (with_reducible refine Pw.tryK_nx ?_)
  | (with_reducible refine Pw.tryK_rt ?_)
  | (with_reducible refine Pw.unK_rt ?_)
  | (with_reducible refine Pw.unK_nx ?_)
  | (with_reducible refine Pw.ex_t2 ?_)
  | (with_reducible refine Pw.ex_t3 ?_))
local macro_rules | `(tactic| walk_at "pks") => `(tactic| repeat (walk_at "pk"))
local macro_rules | `(tactic| walk_at "le") => `(tactic| (repeat (first | exact trivial | refine And.intro rfl ?_)))
local macro_rules | `(tactic| walk_at "po") => `(tactic| first
  | walk_at "pk"
  | ((with_reducible refine Far.plus_s ?h ?_); (case h => decide))
  | ((with_reducible refine Far.minus_s ?h ?_); (case h => decide))
  | ((with_reducible refine Far.times_s ?h ?_); (case h => decide))
  | ((with_reducible refine Far.less_s ?h ?_); (case h => decide)))
local macro_rules | `(tactic| walk_at "pos") => `(tactic| repeat (walk_at "po"))
local macro_rules | `(tactic| walk_at "gn") => `(tactic| first
  | ((refine Far.bN' ?h ?_); (case h => grind))
  | ((refine Far.bN ?h ?_); (case h => grind)))
namespace Far
open PySem PySem.Spec PyProof.Rows L2 Pw
open FM (Bq)
abbrev abc : Str := "abcdefghijklmnopqrstuvwxyz"
def nmB (x : Str) : Bool := decide (1 ≤ x.length) && (decide (x.length ≤ 8) && x.cps.toList.all fun c => decide (c ∈ abc.cps.toList))
def nameB : D → Bool
  | .str x => nmB x
  | _ => false
def betw (d : D) (lo hi : Int) : Bool := match d with
  | .int i => decide (lo ≤ i) && decide (i ≤ hi)
  | _ => false
def c_is_name (T : Cfg) : PC := fun ds P _ => ∃ d t, ds = [d] ∧ Thing T d t ∧ (∀ x, d = .str x → x.length ≤ 100000) ∧ P (.bl (nameB d))
abbrev tenS : List Str := ["a", "ab", "b", "stop", "toss", "abc", "part", "zzzzzzzz", "ba", "aa"]
abbrev lastS : Str := "kqxzjvwmbt"
def NmL (x : Str) : Prop := x ∈ tenS ∨ ∃ c ∈ lastS.cps.toList, x.cps.toList.getLast? = some c
def noNm (y : Str) : Bool := !tenS.contains y && lastS.cps.toList.all fun c => decide (some c ≠ y.cps.toList.getLast?)
theorem NmL.ne {x y : Str} (h : NmL x) (hy : noNm y = true) : x ≠ y := by
  intro e
  subst e
  unfold noNm at hy
  rw [Bool.and_eq_true] at hy
  rcases h with h | ⟨c, hc, h⟩
  · have := hy.1
    rw [List.contains_iff_mem.2 h] at this
    cases this
  · exact of_decide_eq_true (List.all_eq_true.1 hy.2 c hc) h.symm
theorem len_is_name {T : Cfg} : ∀ ds μ P XP, pu (c_is_name T) ds μ P XP → ds.length = 1 := by
  rintro ds μ P XP ⟨rfl, Pf, Xf, ⟨d, t, rfl, _⟩, _⟩; rfl
def t_is_name (T : Cfg) (E : XK) : TS := (tSeq (tIfS (tOr (tNot (tB (tCB (rIsi T.K) (tCons (tVar 0) (tCons (tC (.ty "str")) tNil))))) (tNot (tTest (tChain (rI0 fun i j => .bl (decide (i ≤ j))) (rI0 fun i j => .bl (decide (i ≤ j))) (tC (.int 1)) (tCB (Pw.rLen T.K) (tCons (tVar 0) tNil)) (tC (.int 8)))))) (tRet (tC (.bl false))) tNext)
    (tRet (tCB (rAll T.K) (tCons (tLc (iStr (tVar 0)) (gName 1) tYes (tOp rInC (tVar 1) (tC (.str "abcdefghijklmnopqrstuvwxyz"))) [1]) tNil))))
theorem name_non {d : D} (h : kindOf d "str" = false) : nameB d = false := by
  cases d <;> first | rfl | (simp [kindOf, tagOf, kk] at h)
theorem str_of {d : D} (h : kindOf d "str" = true) : ∃ x, d = .str x := by
  cases d <;> first | exact ⟨_, rfl⟩ | (simp [kindOf, tagOf, kk] at h)
theorem pure_is_name {T : Cfg} (hT : ShOk T) : ∀ E ds μ P XP, pu (c_is_name T) ds μ P XP → SV T (t_is_name T E) (fun cls dd _ H => E cls dd H) ⟨slots 2 ds, μ⟩ (fnK P XP) := Hd.o (by
 simp (disch :=
 with_unfolding_all
 exact by
  rintro E ds μ P XP ⟨rfl, Pf, Xf, ⟨d, t, rfl, hd, hlen, p⟩, hP, hX⟩
  unfold t_is_name
  walk_at "pks"
  refine cv_isiT hd.ty (hd.kd "str" (by decide)) ?_
  walk_at "pks"
  refine ⟨fun h => ?_, fun h => ?_⟩
  · have hk : kindOf d "str" = true := by simpa using h
    obtain ⟨x, rfl⟩ := str_of hk
    have hl := hlen x rfl
    walk_at "pks"
    refine ev_chain ?_
    walk_at "pks"
    refine cv_lenS hl ?_
    walk_at "pks"
    refine ⟨fun h1 => ?_, fun h1 => ?_⟩
    · have h1' : 1 ≤ x.length := by have := of_decide_eq_true h1; omega
      walk_at "pks"
      refine ⟨fun h2 => ?_, fun h2 => ?_⟩
      · have h2' : ¬ x.length ≤ 8 := by
          have : ¬ (x.length : Int) ≤ 8 := by simpa using h2
          omega
        have e : nameB (.str x) = false := by
          show (_ && (decide (x.length ≤ 8) && _)) = false
          rw [decide_eq_false h2']
          simp
        rw [e] at p
        walk_at "pks"
        exact hP _ p
      · have h2' : x.length ≤ 8 := by
          have : (x.length : Int) ≤ 8 := by simpa using h2
          omega
        walk_at "pks"
        refine ev_lcSB (f := fun c => decide (c ∈ abc.cps.toList)) ?_
        walk_at "pks"
        refine ⟨x, rfl, hl, fun c hc => ?_, ?_⟩
        · walk_at "pks"
          exact ov_inC ⟨rfl, rfl⟩
        · walk_at "pks"
          refine cv_all (bs := x.cps.toList.map fun c => decide (c ∈ abc.cps.toList)) (.inl rfl) ?_
          walk_at "pks"
          have e : nameB (.str x) = (x.cps.toList.map fun c => decide (c ∈ abc.cps.toList)).all id := by
            show (decide (1 ≤ x.length) && (decide (x.length ≤ 8) && _)) = _
            rw [decide_eq_true h1', decide_eq_true h2', List.all_map]
            rfl
          rw [e] at p
          exact hP _ p
    · have h1' : ¬ 1 ≤ x.length := by
        have : ¬ (1 : Int) ≤ x.length := by simpa using h1
        omega
      have e : nameB (.str x) = false := by
        show (decide (1 ≤ x.length) && _) = false
        rw [decide_eq_false h1']
        rfl
      rw [e] at p
      walk_at "pks"
      exact hP _ p
  · have hk : kindOf d "str" = false := by simpa using h
    rw [name_non hk] at p
    walk_at "pks"
    exact hP _ p
 ) only [↓hE])
def Ltr (x : Str) : Prop := ∀ c ∈ x.cps.toList, c ∈ abc.cps.toList
theorem app_cps {x : Str} {c : Nat} : (x ++ (⟨#[c]⟩ : Str)).cps.toList = x.cps.toList ++ [c] := by
  obtain ⟨v⟩ := x
  show (v ++ #[c]).toList = _
  simp
theorem Ltr.app {x : Str} {c : Nat} (h : Ltr x) (hc : c ∈ abc.cps.toList) : Ltr (x ++ (⟨#[c]⟩ : Str)) := by
  intro y hy
  rw [app_cps] at hy
  rcases List.mem_append.1 hy with w | w
  · exact h y w
  · simp at w; subst w; exact hc
end Far
namespace Pw
open PySem PySem.Spec PyProof.Rows L2
open Evl (ex_l ex_t)
section
variable {T : Cfg} {W : WX} {ρ : List (Option D)} {m0 : Mu} {XP : XW} {K : Out → Prop} {ta tb tc te te' : TE} {P : D → Mu → Prop} {u : TS} {μ : Mu}
theorem ev_slT {tl th : TO} (h : EV T te W ⟨ρ, m0⟩ (fun d μ1 => OV' T tl W ⟨ρ, μ1⟩ (fun lo μ2 => OV' T th W ⟨ρ, μ2⟩ (fun hi μ3 => ∃ ds, d = .tup ds ∧ P (.tup (cutD ds lo hi)) μ3) XP) XP) XP) : EV T (tSl (rSlA T.K) te tl th) W ⟨ρ, m0⟩ P XP := fun σ Hb H Q S q x =>
  h σ Hb H _ S (fun d μ1 v Hb1 H1 g1 r1 p1 => p1 σ Hb1 H1 _ (S.go g1) (fun lo μ2 Hb2 H2 g2 p2 => p2 σ Hb2 H2 _ (S.go (g1.trans g2)) (fun hi μ3 Hb3 H3 g3 p3 => by
    obtain ⟨ds, rfl, p⟩ := p3
    obtain ⟨a, xs, rfl, hx, r⟩ := ((r1.mono g2.ex).mono g3.ex).tup_inv
    have g13 := (g1.trans g2).trans g3
    have r0 : RepL T Hb3 (cutD ds lo hi) (cutV xs lo hi) := by
      unfold Pw.cutD cutV
      rw [← r.1]
      exact (r.drop _).take _
    refine ⟨a, xs, rfl, ex_t g3.sub hx, fun hw => ?_, fun _ p' hp => ?_⟩
    · have e : cutV xs lo hi = xs := by
        unfold cutV
        rw [hw.1, hw.2, Nat.sub_zero, List.drop_zero, List.take_length]
      rw [e] at r0
      exact q _ _ _ _ _ g13 (.tup hx r0.1 r0.2) p
    · have g := Go.lay g3.sub g3.mu (o := .tup (cutV xs lo hi)) hp
      have rr := r0.mono g.ex
      exact q _ _ _ _ _ (g13.trans g) (.tup (.inl (.inl upd_same)) rr.1 rr.2) p)
    (fun y μ' cls dd Hb' H' g r p => x y μ' cls dd Hb' H' ((g1.trans g2).trans g) r p)) (fun y μ' cls dd Hb' H' g r p => x y μ' cls dd Hb' H' (g1.trans g) r p)) x
theorem strs_inv {Hb : Hp} : ∀ {zs : List Str} {xs : List V}, RepL T Hb (zs.map D.str) xs → xs = zs.map V.str
  | [], xs, r => r.nil_inv
  | z :: zs, xs, r => by
    obtain ⟨v, ys, rfl, r1, r2⟩ := r.cons_inv
    cases r1
    rw [strs_inv r2]
    rfl
theorem inV_strs {z : Str} : ∀ zs : List Str, inV (.str z) (zs.map V.str) = decide (z ∈ zs)
  | [] => by simp [inV]
  | y :: zs => by
    have ih := inV_strs (z := z) zs
    unfold inV at ih ⊢
    rw [List.map_cons, List.any_cons, ih]
    show ((y == z) || decide (z ∈ zs)) = _
    by_cases h : y = z
    · subst h; simp
    · have h' : ¬ z = y := fun e => h e.symm
      simp [h, h']
theorem ov_inT {z : Str} {zs : List Str} (p : P (.bl (decide (z ∈ zs))) μ) : OV T (rIn T.K false) (.str z) (.tup (zs.map D.str)) μ P := ov_of (fun x y Hb H Q ex rx ry q => by
  cases rx
  obtain ⟨a, xs, rfl, hx, r⟩ := ry.tup_inv
  obtain rfl := strs_inv r
  refine ⟨a, _, rfl, .inr (ex_t ex hx), rfl, ?_, ?_⟩
  · rw [List.all_eq_true]
    intro v hv
    obtain ⟨s, _, rfl⟩ := List.mem_map.1 hv
    rfl
  · show Q (.bl (if false = true then _ else inV (.str z) (zs.map V.str))) H
    rw [if_neg Bool.false_ne_true, inV_strs]
    exact q _ (.bl _)) p
end
def strOf : Value → Option Str
  | .str y _ => some y
  | _ => none
abbrev AlG : Type := AlF × List (Option (List (Option (Str × Int))))
abbrev Dics := List (Str × List Str)
def obsG (fa : List He.Fa) (fn : List He.DefD) (exs : List (PySem.W.Frag → Bool)) (ds : Dics) (K : PySem.W.Frag) : AlG := (obsF fa fn exs K, ds.map fun q => He.dicW K (He.ga K q.1))
def valG (fn : List He.DefD) (ds : Dics) (w : World) : AlG := (valF fn, ds.map fun q => some (He.keysIn w.params q.2))
def SaysG (fa : List He.Fa) (fn : List He.DefD) (exs : List (PySem.W.Frag → Bool)) (ds : Dics) (w : World) (K : PySem.W.Frag) : Prop := obsG fa fn exs ds K = valG fn ds w
section
variable {fa : List He.Fa} {fn : List He.DefD} {exs : List (PySem.W.Frag → Bool)} {ds : Dics} {w : World} {K : PySem.W.Frag}
theorem SaysG.f (c : SaysG fa fn exs ds w K) : SaysF fa fn exs K := congrArg (fun z : AlG => z.1) c
theorem SaysG.fact (c : SaysG fa fn exs ds w K) (i : Nat) {f : He.Fa} (h : fa[i]? = some f) : f.ok K = true := c.f.fact i h
theorem SaysG.def_ (c : SaysG fa fn exs ds w K) (i : Nat) {d : He.DefD} (h : fn[i]? = some d) : ∃ fd, FunD K d.name d.qual d.params d.body d.scope (d.dvs K) (d.kws K) (He.fAd K d.at_) fd := c.f.def_ i h
theorem SaysG.ex_ (c : SaysG fa fn exs ds w K) (i : Nat) {e : PySem.W.Frag → Bool} (h : exs[i]? = some e) : e K = true := c.f.ex_ i h
theorem SaysG.dic (c : SaysG fa fn exs ds w K) (i : Nat) {q : Str × List Str} (h : ds[i]? = some q) : ∃ es n, KDict K w (He.ga K q.1) es n := by
  have c2 : (ds.map fun q => He.dicW K (He.ga K q.1)) = ds.map fun q => some (He.keysIn w.params q.2) := congrArg (fun z : AlG => z.2) c
  have e := congrArg (fun l => l[i]?) c2
  simp only [List.getElem?_map, h, Option.map_some] at e
  exact He.dicW_ok (Option.some.inj e)
end
open Evl (Ex ex_l ex_t fresh_back)
section
variable {T : Cfg} {W : WX} {s : S} {ρ : List (Option D)} {m0 : Mu} {K : Out → Prop} {ta tb te te' : TE} {m m1 : Mu} {Hb H Hb1 H1 : Hp} {Dn : Ends} {XP : XW} {P : D → Mu → Prop} {μ : Mu} {u : TS}
theorem mu_fresh {p : Addr} (sm : SimMu T μ Hb H) (hp : H p = none) : μ p = none := by
  cases e : μ p with
  | none => rfl
  | some m =>
    obtain ⟨_, o, ho, _⟩ := sm p m e
    rw [hp] at ho; cases ho
theorem cv_lstI {d : D} {ds : List D} (hd : Seqd d ds ∨ d = .tup ds) (p : P (.lst ds) μ) : CV T (rListOf T.K) [d] μ P := fun xs Hb H Q ex sm r q => by
  obtain ⟨v, rfl, r1⟩ := one_inv r
  have : ∃ a ys, v = .ref a ∧ (SqL T.K H a ys ∨ SqT T.K H a ys) ∧ RepL T Hb ds ys := by
    rcases hd with hd | rfl
    · obtain ⟨a, ys, rfl, hx, r2⟩ := hd.inv r1
      exact ⟨a, ys, rfl, .inl (ex_l ex hx), r2⟩
    · obtain ⟨a, ys, rfl, hx, r2⟩ := r1.tup_inv
      exact ⟨a, ys, rfl, .inr (ex_t ex hx), r2⟩
  obtain ⟨a, ys, rfl, hx, r2⟩ := this
  refine ⟨a, ys, rfl, hx, fun l hl => ?_⟩
  have g := Go.lay ex sm (o := .lst ys) hl
  have rr := r2.mono g.ex
  exact q _ _ _ _ _ g (.lst upd_same rr.1 rr.2) p
theorem cv_tupI {d : D} {ds : List D} (hd : Seqd d ds) (p : P (.tup ds) μ) : CV T (rTupOf T.K) [d] μ P := fun xs Hb H Q ex sm r q => by
  obtain ⟨v, rfl, r1⟩ := one_inv r
  obtain ⟨a, ys, rfl, hx, r2⟩ := hd.inv r1
  refine ⟨a, ys, rfl, .inl ⟨ex_l ex hx, fun l hl => ?_⟩⟩
  have g := Go.lay ex sm (o := .tup ys) hl
  have rr := r2.mono g.ex
  exact q _ _ _ _ _ g (.tup (.inl (.inl upd_same)) rr.1 rr.2) p
theorem ov_neDM {a : Addr} {e : D} {ds : List D} {ps : List PyData} {q : PyData} (hm : μ a = some (.lst ds)) (hd : DPyL ds ps) (he : DPy e q) (sd : SeqAt.shaped (.list ps) = true) (se : SeqAt.shaped q = true) (k : P (.bl (!PyData.eqv (.list ps) q)) μ) : OV T (rNeD T.K) (.ptr a) e μ P := fun x y Hb H Q ex sm rx ry w => by
  cases rx
  obtain ⟨n, o, ho, r⟩ := sm a _ hm
  cases o with
  | lst xs => exact ⟨.list ps, q, .lst (Evl.sq_of ho) (DPyL.dp ex ps ds xs hd r), DPy.dp ex q e y he ry, sd, se, w _ _ _ _ _ (.refl ex sm) (.bl _) k⟩
  | _ => exact r.elim
end
inductive Same (a : Addr) (e : D) : D → D → Prop
  | hit : Same a e (.ptr a) e
  | refl (d : D) : Same a e d d
  | lst {ds es : List D} (l : ds.length = es.length) (h : ∀ (i : Nat) (x y : D), ds[i]? = some x → es[i]? = some y → Same a e x y) : Same a e (.lst ds) (.lst es)
  | tup {ds es : List D} (l : ds.length = es.length) (h : ∀ (i : Nat) (x y : D), ds[i]? = some x → es[i]? = some y → Same a e x y) : Same a e (.tup ds) (.tup es)
section
variable {T : Cfg} {W : WX} {s : S} {ρ : List (Option D)} {m0 : Mu} {K : Out → Prop} {ta tb te te' : TE} {m m1 : Mu} {Hb H Hb1 H1 : Hp} {Dn : Ends} {XP : XW} {P : D → Mu → Prop} {μ : Mu} {u : TS}
theorem Same.rep {a : Addr} {e d d' : D} (h : Same a e d d') (ex : Ex Hb Hb1) (he : Rep T Hb1 e (.ref a)) : ∀ {v : V}, Rep T Hb d v → Rep T Hb1 d' v := by
  induction h with
  | hit => intro v r; cases r; exact he
  | refl d => intro v r; exact r.mono ex
  | @lst ds es l h ih =>
    intro v r
    obtain ⟨b, xs, rfl, hx, rl⟩ := r.lst_inv
    refine .lst (ex _ _ hx) (l.symm.trans rl.1) fun i y w hy hw => ?_
    have hi : i < ds.length := by rw [l]; exact (List.getElem?_eq_some_iff.mp hy).1
    exact ih i _ y (List.getElem?_eq_getElem hi) hy (rl.2 i _ w (List.getElem?_eq_getElem hi) hw)
  | @tup ds es l h ih =>
    intro v r
    obtain ⟨b, xs, rfl, hx, rl⟩ := r.tup_inv
    refine .tup (ex_t ex hx) (l.symm.trans rl.1) fun i y w hy hw => ?_
    have hi : i < ds.length := by rw [l]; exact (List.getElem?_eq_some_iff.mp hy).1
    exact ih i _ y (List.getElem?_eq_getElem hi) hy (rl.2 i _ w (List.getElem?_eq_getElem hi) hw)
theorem ev_lcU {i : Nat} (h : EV T te W ⟨ρ, m0⟩ (fun d μ => ∃ (ds : List D) (f : D → D), d = .tup ds ∧ ds.length ≤ 100000 ∧ (∀ e ∈ ds, EV T te' (fun _ _ _ _ => False) ⟨(wipeD ρ [i]).set i (some e), μ⟩ (fun x μ' => x = f e ∧ μ' = μ) (fun _ _ => False)) ∧ P (.lst (ds.map f)) μ) XP) : EV T (tLc (iTup T.K te) (gName i) tYes te' [i]) W ⟨ρ, m0⟩ P XP :=
  ev_lc (is := [i]) (fun _ h => h) (iv_tup (h.imp fun d μ ⟨ds, f, hs, hl, turn, done⟩ => ⟨ds, hs, hl, fun n acc μ' => μ' = μ ∧ acc = (ds.take n).map f, ⟨rfl, by simp⟩, fun n acc μ' hn _ ⟨e1, e2⟩ => by
    subst e1 e2
    refine gv_name (tv_yes ⟨fun _ => ?_, fun e => (nomatch e)⟩)
    have hm : nth ds n ∈ ds := List.mem_of_getElem? (nth_get hn)
    refine (turn _ hm).imp fun x μ2 ⟨e1, e2⟩ => ⟨e2, ?_⟩
    rw [e1, List.take_succ, nth_get hn]
    simp, fun acc μ' ⟨e1, e2⟩ => by
    subst e1 e2
    rw [List.take_length]
    exact done⟩))
theorem ov_isNT {ds : List D} (p : P (.bl false) μ) : OV T rIsN (.tup ds) .non μ P := ov_of (fun x y Hb H Q ex rx ry q => by
  obtain ⟨a, xs, rfl, _, _⟩ := rx.tup_inv
  cases ry
  refine ⟨rfl, q _ ?_⟩
  rw [decide_eq_false (by simp)]
  exact .bl _) p
end
end Pw
namespace NQ
open PySem PySem.SeqAt GQ
open AutoSeq1 (wpAny_loadPart')
open MeetsSeq MeetsSeq2 MeetsSeq3 SeqRoads2
end NQ
namespace Pw
open PySem PySem.Spec PyProof.Rows L2
open Evl (Ex ex_l ex_t)
section
variable {T : Cfg} {P : D → Mu → Prop} {μ : Mu}
theorem Go.ext {Hb H H' : Hp} (ex : Ex Hb H) (sm : SimMu T μ Hb H) (e : Ext H H') : Go T μ Hb H μ Hb H' :=
  ⟨Ex.refl _, fun a o h n _ _ => ⟨e a o h, fun _ => n⟩, fun a m h => .inl (by rw [h]; simp), fun a o h => ⟨o, e a o h⟩, fun a o h => e a o (ex a o h), sm.up (k := sm.kt) (fun a u _ q => e a u q) (fun _ _ _ => Iff.rfl) fun a m h => by
    obtain ⟨n, o, ho, r⟩ := sm a m h
    exact ⟨n, o, e a o ho, r⟩⟩
end
open Evl (Ex ex_l ex_t fresh_back)
inductive Stl (μ : Mu) : D → D → Prop
  | refl (d : D) : Stl μ d d
  | ptr {p : Addr} {ds es : List D} (h : μ p = some (.lst ds)) (l : ds.length = es.length) (k : ∀ (i : Nat) (x y : D), ds[i]? = some x → es[i]? = some y → Stl μ x y) : Stl μ (.ptr p) (.lst es)
  | lst {ds es : List D} (l : ds.length = es.length) (k : ∀ (i : Nat) (x y : D), ds[i]? = some x → es[i]? = some y → Stl μ x y) : Stl μ (.lst ds) (.lst es)
  | tup {ds es : List D} (l : ds.length = es.length) (k : ∀ (i : Nat) (x y : D), ds[i]? = some x → es[i]? = some y → Stl μ x y) : Stl μ (.tup ds) (.tup es)
theorem Stl.own {μ : Mu} {p : Addr} {ds : List D} (h : μ p = some (.lst ds)) : Stl μ (.ptr p) (.lst ds) := .ptr h rfl fun i x y hx hy => by
  rw [hx] at hy; cases hy; exact .refl _
theorem Stl.two {μ : Mu} {d e d' e' : D} (h : Stl μ d d') (k : Stl μ e e') : Stl μ (.tup [d, e]) (.tup [d', e']) := .tup rfl fun i x y hx hy => by
  match i, hx, hy with
  | 0, hx, hy => cases hx; cases hy; exact h
  | 1, hx, hy => cases hx; cases hy; exact k
  | n + 2, hx, _ => simp at hx
def frzH (μ : Mu) (a : Addr) (Hb H : Hp) : Hp := fun b => if b = a then Hb b else match μ b with
  | some (.lst _) => H b
  | _ => Hb b
section
variable {T : Cfg} {W : WX} {ρ ρ' : List (Option D)} {m0 : Mu} {K : Out → Prop} {ta tb te te' : TE} {Hb H : Hp} {XP : XW} {P : D → Mu → Prop} {μ : Mu} {u : TS}
theorem frz_ex {a : Addr} (ex : Ex Hb H) (sm : SimMu T μ Hb H) : Ex Hb (frzH μ a Hb H) := fun b o h => by
  unfold frzH
  split
  · exact h
  · split
    · exact ex b o h
    · exact h
theorem Stl.rep {a : Addr} {w : MO} {d d' : D} (h : Stl μ d d') (ex : Ex Hb H) (sm : SimMu T μ Hb H) (ha : μ a = some w) (hw : ∀ ds, w ≠ .lst ds) : ∀ {v : V}, Rep T Hb d v → Rep T (frzH μ a Hb H) d' v := by
  have e1 := frz_ex (a := a) ex sm
  induction h with
  | refl d => intro v r; exact r.mono e1
  | @ptr p ds es hp l k ih =>
    intro v r
    cases r
    obtain ⟨n, o, ho, ro⟩ := sm p _ hp
    cases o with
    | lst xs =>
      have ro : RepL T Hb ds xs := ro
      have hh : frzH μ a Hb H p = some (.lst xs) := by
        unfold frzH
        rw [if_neg (fun e => by rw [e, ha] at hp; cases hp; exact hw _ rfl), hp]
        exact ho
      refine .lst hh (l.symm.trans ro.1) fun i y z hy hz => ?_
      have hi : i < ds.length := by rw [l]; exact (List.getElem?_eq_some_iff.mp hy).1
      exact ih i _ y (List.getElem?_eq_getElem hi) hy (ro.2 i _ z (List.getElem?_eq_getElem hi) hz)
    | _ => exact ro.elim
  | @lst ds es l k ih =>
    intro v r
    obtain ⟨b, xs, rfl, hx, rl⟩ := r.lst_inv
    refine .lst (e1 _ _ hx) (l.symm.trans rl.1) fun i y w hy hw => ?_
    have hi : i < ds.length := by rw [l]; exact (List.getElem?_eq_some_iff.mp hy).1
    exact ih i _ y (List.getElem?_eq_getElem hi) hy (rl.2 i _ w (List.getElem?_eq_getElem hi) hw)
  | @tup ds es l k ih =>
    intro v r
    obtain ⟨b, xs, rfl, hx, rl⟩ := r.tup_inv
    refine .tup (ex_t e1 hx) (l.symm.trans rl.1) fun i y w hy hw => ?_
    have hi : i < ds.length := by rw [l]; exact (List.getElem?_eq_some_iff.mp hy).1
    exact ih i _ y (List.getElem?_eq_getElem hi) hy (rl.2 i _ w (List.getElem?_eq_getElem hi) hw)
end
theorem eqv_nil (ps : List PyData) : PyData.eqv (.list ps) (.list []) = decide (ps.length = 0) := by
  cases ps with
  | nil => rfl
  | cons p ps => rfl
end Pw
namespace NQ
open PySem PySem.SeqAt GQ
open AutoSeq1 (wpAny_loadPart')
open MeetsSeq MeetsSeq2 MeetsSeq3 SeqRoads2
end NQ
namespace Pw
open PySem PySem.Spec PyProof.Rows L2
open Evl (Ex ex_l ex_t)
open Evl (Ex ex_l ex_t fresh_back)
end Pw
namespace MxS
open PySem PySem.Spec PyProof.Rows L2
section
variable {P : Program} {w : World} {κ : Type} [DecidableEq κ] (kd : KeyKind P w κ)
structure Quiet : Prop where
  cls : ∀ (ks : List κ) (vs : List Value), ItemsAre kd ks vs → ∀ v ∈ vs, ∀ n, ofAClassStatement n v = pure false
  hsv : ∀ (ks : List κ) (vs : List Value), ItemsAre kd ks vs → ∀ v ∈ vs, ∀ n, ∃ c, hashByValue n v = pure c
abbrev hsh (k : List κ) : Int := tupleKeyHash kd k
def row (p : Addr × List κ) : Int × Value := (hsh kd p.2, Value.ref p.1)
structure Tb (h : Heap) (a : Addr) (L : List (Addr × List κ)) (es : Array (Int × Value)) (ep : Nat) (t : SetTable) : Prop where
  obj : ∃ o, o.ExactSet ∧ o.data = .set es ep t ∧ h.get? a = some o
  its : es.toList = L.map (row kd)
  okt : TabOk t (L.map fun p => hsh kd p.2)
  one : (L.map Prod.snd).Nodup
  key : ∀ p, p ∈ L → IsTupleKey kd h p.2 p.1
  lead : w.params.followText "set-order" = true ∨ t.led = true
  free : 5 * L.length < 3 * t.mask
  small : L.length ≤ 63
end
section
variable {P : Program} {w : World} {κ : Type} [DecidableEq κ] {kd : KeyKind P w κ} {A : Around} {E : Value → Shared → Prop} {s : Shared} {a : Addr} {L : List (Addr × List κ)} {es : Array (Int × Value)} {ep : Nat} {t : SetTable}
theorem quiet_cls (q : Quiet kd) {k : List κ} {b : Addr} {Z : Bool → Shared → Prop} (hk : IsTupleKey kd s.heap k b) (h : Z false s) : wpAny (model P w) A (ofAClassStatement 8 (.ref b)) Z E s := by
  have ty := hk.typeIs
  obtain ⟨o, xs, n, g1, g2, g3, g4⟩ := hk
  have no := q.cls k _ g4
  unfold ofAClassStatement
  refine wpAny_bind (wpAny_typeOf ty ?_)
  dsimp only
  simp only [show (("tuple" : String) == "tuple") = true by decide, if_true, Bool.not_true, Bool.false_eq_true, if_false]
  try refine wpAny_bind (wpAny_pure ?_)
  try simp only [Bool.not_true, Bool.false_eq_true, if_false]
  refine wpAny_bind (wpAny_seqItems g1 g3 ?_)
  dsimp only
  refine wpAny_bind ?_
  rw [← Array.forIn_toList]
  refine wpAny_forIn_list _ (fun more c z => c.1 = none ∧ z = s ∧ ∀ v ∈ more, ∀ n, ofAClassStatement n v = pure false) _ ?_ ?_ _ _ ⟨rfl, rfl, no⟩
  · rintro v more c z ⟨c0, rfl, all⟩
    rw [all v List.mem_cons_self]
    refine wpAny_bind (wpAny_pure ?_)
    simp only [Bool.false_eq_true, if_false]
    exact wpAny_pure ⟨rfl, rfl, fun u hu => all u (List.mem_cons_of_mem _ hu)⟩
  · rintro ⟨c1, c2⟩ z ⟨c0, rfl, _⟩
    simp only at c0
    subst c0
    exact wpAny_pure h
theorem quiet_hsv (q : Quiet kd) {k : List κ} {b : Addr} {Z : Bool → Shared → Prop} (hk : IsTupleKey kd s.heap k b) (h : ∀ c, Z c s) : wpAny (model P w) A (hashByValue 8 (.ref b)) Z E s := by
  have ty := hk.typeIs
  obtain ⟨o, xs, n, g1, g2, g3, g4⟩ := hk
  have no := q.hsv k _ g4
  unfold hashByValue
  refine wpAny_bind (wpAny_specialOf ty F.slot_tuple_hash.lookup ?_)
  refine wpAny_bind (wpAny_seqItems g1 g3 ?_)
  refine wpAny_bind ?_
  rw [← Array.forIn_toList]
  refine wpAny_forIn_list _ (fun more c z => c.1 = none ∧ z = s ∧ ∀ v ∈ more, ∀ n, ∃ c, hashByValue n v = pure c) _ ?_ ?_ _ _ ⟨rfl, rfl, no⟩
  · rintro v more c z ⟨c0, rfl, all⟩
    obtain ⟨y, hy⟩ := all v List.mem_cons_self 7
    rw [hy]
    refine wpAny_bind (wpAny_pure ?_)
    cases y with
    | true =>
      simp only [Bool.not_true, Bool.false_eq_true, if_false]
      exact wpAny_pure ⟨rfl, rfl, fun u hu => all u (List.mem_cons_of_mem _ hu)⟩
    | false =>
      simp only [Bool.not_false, if_true]
      exact wpAny_pure (wpAny_pure (h false))
  · rintro ⟨c1, c2⟩ z ⟨c0, rfl, _⟩
    simp only at c0
    subst c0
    exact wpAny_pure (h true)
theorem quiet_seen (q : Quiet kd) {k : List κ} {b : Addr} {Z : Bool → Shared → Prop} (hk : IsTupleKey kd s.heap k b) {ys : List Value} (hy : ∀ y ∈ ys, ∃ c k', IsTupleKey kd s.heap k' c ∧ y = .ref c) (h : Z false s) : wpAny (model P w) A (searchCouldBeSeen (.ref b) ys) Z E s := by
  unfold searchCouldBeSeen
  refine wpAny_bind ?_
  refine wpAny_forIn_list _ (fun more c z => c.1 = none ∧ z = s ∧ ∀ y ∈ more, ∃ c k', IsTupleKey kd s.heap k' c ∧ y = .ref c) _ ?_ ?_ _ _ ⟨rfl, rfl, hy⟩
  · rintro v more c z ⟨c0, rfl, all⟩
    obtain ⟨d, k', hd, rfl⟩ := all v List.mem_cons_self
    have on : ∀ y ∈ more, ∃ c k', IsTupleKey kd z.heap k' c ∧ y = .ref c := fun u hu => all u (List.mem_cons_of_mem _ hu)
    dsimp only
    by_cases same : (b == d || (carriedByValue (.ref b) && carriedByValue (.ref d))) = true
    · exact wp_if_pos same (wpAny_pure ⟨rfl, rfl, on⟩)
    · refine wp_if_neg same (wpAny_bind (wpAny_eqIsQuiet_tuple hk ?_))
      simp only [Bool.not_true, Bool.false_eq_true, if_false]
      refine wpAny_bind (wpAny_eqIsQuiet_tuple hd ?_)
      simp only [Bool.not_true, Bool.false_eq_true, if_false]
      refine wpAny_bind (quiet_cls q hk ?_)
      simp only [Bool.false_eq_true, if_false]
      refine wpAny_bind (quiet_cls q hd ?_)
      simp only [Bool.false_eq_true, if_false]
      exact wpAny_pure ⟨rfl, rfl, on⟩
  · rintro ⟨c1, c2⟩ z ⟨c0, rfl, _⟩
    simp only at c0
    subst c0
    exact wpAny_pure h
theorem Tb.size (R : Tb kd s.heap a L es ep t) : es.size = L.length := by
  rw [← Array.length_toList, R.its, List.length_map]
theorem Tb.psize (R : Tb kd s.heap a L es ep t) : t.place.size = L.length := by
  have := R.okt.sz
  rwa [List.length_map] at this
theorem Tb.fits (R : Tb kd s.heap a L es ep t) : t.fits es.size = true := by
  have e1 := R.psize
  have e2 := R.size
  have e3 := R.free
  unfold SetTable.fits SetTable.fill
  rw [R.okt.dm, Bool.and_eq_true, beq_iff_eq, decide_eq_true_eq]
  refine ⟨by omega, ?_⟩
  show t.place.size + 0 ≤ _
  omega
theorem Tb.at (R : Tb kd s.heap a L es ep t) {i : Nat} {p : Addr × List κ} (h : L[i]? = some p) : es[i]? = some (hsh kd p.2, Value.ref p.1) := by
  have : es.toList[i]? = some (row kd p) := by rw [R.its, List.getElem?_map, h]; rfl
  rwa [Array.getElem?_toList] at this
abbrev pb (t : SetTable) (x : Int) (c : Nat) : SetTable.Probe := nth t.mask (runAt t.mask (SetTable.bits x % (t.mask + 1)) (SetTable.bits x)) c
theorem pb_nodummy (t : SetTable) (x : Int) (c : Nat) : (pb t x c).dummy = none := by
  have all : ∀ (n : Nat) (p : SetTable.Probe), p.dummy = none → (nth t.mask p n).dummy = none := by
    intro n
    induction n with
    | zero => exact fun p h => h
    | succ n ih => exact fun p h => ih (adv t.mask p) (by unfold adv; split <;> exact h)
  exact all c _ rfl
theorem seek (q : Quiet kd) (R : Tb kd s.heap a L es ep t) {x : Addr} {k : List κ} (hx : IsTupleKey kd s.heap k x) (hu : A.units < cLine) {z : Nat} (zf : z < 10 * SetTable.turns t.mask) (zo : (pb t (hsh kd k) z).j ∉ t.place.toList) (zi : ∀ c, c < z → (pb t (hsh kd k) c).j ∈ t.place.toList)
    {Z : SetFound → Shared → Prop} (yes : k ∈ L.map Prod.snd → Z (.there none) s) (no : k ∉ L.map Prod.snd → Z (.free (pb t (hsh kd k) z).j false) s) : ∀ (f c : Nat) (stand : Option SetTable.Probe), stand.getD (t.probeStart (hsh kd k)) = pb t (hsh kd k) c → c ≤ z → z < f + c →
      (∀ (i : Nat) (p : Addr × List κ), L[i]? = some p → p.2 = k → ∃ d, c ≤ d ∧ d < z ∧ t.place.toList[i]? = some (pb t (hsh kd k) d).j) → wpAny (model P w) A (setSearchFrom a (.ref x) (hsh kd k) true f stand) Z E s := by
  intro f
  induction f with
  | zero => intro c stand _ h1 h2; omega
  | succ f ih =>
    intro c stand st cz zf' later
    obtain ⟨o, ex, dt, ob⟩ := R.obj
    have gw : ¬ t.gaveWay = true := by
      unfold SetTable.gaveWay
      rw [mask_odd R.okt.mok]
      decide
    have hash : ∀ (i : Nat) (p : Addr × List κ), L[i]? = some p → (es[i]?.map (·.1)).getD 0 = hsh kd p.2 := fun i p hp => by rw [R.at hp]; rfl
    have go : ∀ d, nth t.mask (pb t (hsh kd k) c) d = pb t (hsh kd k) (c + d) := fun d => (nth_add t.mask c _ d).symm
    rw [setSearchFrom_succ]
    refine wpAny_bind (wpAny_setState_of ob dt R.fits ?_)
    dsimp only
    refine wp_if_neg gw ?_
    try refine wpAny_bind (wpAny_pure ?_)
    have look := go_spec t R.okt.ris R.okt.dm (fun i => (es[i]?.map (·.1)).getD 0) (hsh kd k) (10 * SetTable.turns t.mask) (z - c) (pb t (hsh kd k) c) (pb_nodummy t _ c) (by omega) (fun d hd => by rw [go]; exact zi (c + d) (by omega)) (by rw [go, show c + (z - c) = z by omega]; exact zo)
    rcases look with ⟨d, i, dz, pi, hi, before, eq⟩ | ⟨before, eq⟩
    · rw [st, show t.probe (fun i => (es[i]?.map (·.1)).getD 0) (hsh kd k) (pb t (hsh kd k) c) = _ from eq]
      dsimp only
      rw [go] at pi
      have il : i < L.length := by
        have := (List.getElem?_eq_some_iff.mp pi).1
        rw [Array.length_toList, R.psize] at this
        exact this
      obtain ⟨p, hp⟩ : ∃ p, L[i]? = some p := ⟨_, List.getElem?_eq_getElem il⟩
      have pm := List.mem_of_getElem? hp
      have live : t.slot (pb t (hsh kd k) (c + d)).j = .live i := slot_live R.okt.ris pi
      have rest : wpAny (model P w) A (searchRest a (.ref x) (hsh kd k) true f es t (nth t.mask (pb t (hsh kd k) c) d).j i (nth t.mask (pb t (hsh kd k) c) (d + 1))) Z E s := by
        rw [go, go]
        unfold searchRest
        rw [R.at hp]
        dsimp only
        refine wpAny_bind (wpAny_holding (wpAny_eqBool_tuple hu (R.key p pm) hx ?_))
        refine wpAny_bind (wpAny_setState_of ob dt R.fits ?_)
        dsimp only
        by_cases pk : p.2 = k
        · exact wp_if_pos (by simp [pk]) (wpAny_pure (yes (List.mem_map.mpr ⟨p, pm, pk⟩)))
        · refine wp_if_neg (by simp [pk]) ?_
          try refine wpAny_bind (wpAny_pure ?_)
          rw [sameMem]
          dsimp only
          simp only [if_true, live, R.at hp]
          refine wpAny_bind (wpAny_isSame_ref_self (wpAny_bind (wpAny_pure ?_)))
          simp only [if_true]
          refine wp_if_neg (by simp [pk]) (ih (c + (d + 1)) _ rfl (by omega) (by omega) fun i2 p2 h2 k2 => ?_)
          obtain ⟨e, e1, e2, e3⟩ := later i2 p2 h2 k2
          have ne1 : ¬ e < c + d := fun lt => before (e - c) i2 (by omega) (by rw [go, show c + (e - c) = e by omega]; exact e3) (by rw [← k2]; exact hash i2 p2 h2)
          have ne2 : e ≠ c + d := fun ee => by
            rw [ee] at e3
            have l2 := slot_live R.okt.ris e3
            rw [live] at l2
            cases l2
            rw [hp] at h2
            cases h2
            exact pk k2
          exact ⟨e, by omega, e2, e3⟩
      by_cases led : t.led = true
      · refine wp_if_neg (by simp [led]) ?_
        try refine wpAny_bind (wpAny_pure ?_)
        exact rest
      · refine wp_if_pos (by simp [led]) (wpAny_bind (quiet_seen q hx (fun y hy => ?_) ?_))
        · obtain ⟨e, he, rfl⟩ := List.mem_map.mp hy
          have he : e ∈ es.toList := by
            have : e ∈ es ∧ e.1 = hsh kd k := by simpa using he
            simpa using this.1
          rw [R.its] at he
          obtain ⟨p2, m2, rfl⟩ := List.mem_map.mp he
          exact ⟨p2.1, p2.2, R.key p2 m2, rfl⟩
        · refine wp_if_neg (by decide) ?_
          try refine wpAny_bind (wpAny_pure ?_)
          exact rest
    · rw [st, show t.probe (fun i => (es[i]?.map (·.1)).getD 0) (hsh kd k) (pb t (hsh kd k) c) = _ from eq, go, show c + (z - c) = z by omega]
      dsimp only
      refine wpAny_pure (no fun mem => ?_)
      obtain ⟨p, pm, pk⟩ := List.mem_map.mp mem
      obtain ⟨i, hi⟩ := List.getElem?_of_mem pm
      obtain ⟨e, e1, e2, e3⟩ := later i p hi pk
      exact before (e - c) i (by omega) (by rw [go, show c + (e - c) = e by omega]; exact e3) (by rw [← pk]; exact hash i p hi)
theorem seek_all (q : Quiet kd) (R : Tb kd s.heap a L es ep t) {x : Addr} {k : List κ} (hx : IsTupleKey kd s.heap k x) (hu : A.units < cLine) {Z : SetFound → Shared → Prop} (yes : k ∈ L.map Prod.snd → Z (.there none) s)
    (no : ∀ z, k ∉ L.map Prod.snd → (pb t (hsh kd k) z).j ∉ t.place.toList → (∀ c, c < z → (pb t (hsh kd k) c).j ∈ t.place.toList) → Z (.free (pb t (hsh kd k) z).j false) s) : wpAny (model P w) A (setSearch a (.ref x) (hsh kd k) true) Z E s := by
  have fr := R.free
  obtain ⟨z, zf, zo, zi⟩ := R.okt.first (by rw [List.length_map]; omega) (hsh kd k)
  have few : 10 * SetTable.turns t.mask < 100000 := by
    unfold SetTable.turns
    rcases R.okt.mok with e | e | e <;> omega
  unfold setSearch
  refine seek q R hx hu zf zo zi yes (fun n => no z n zo zi) 100000 0 none rfl (Nat.zero_le _) (by omega) fun i p hp pk => ?_
  have il : i < t.place.toList.length := by
    rw [Array.length_toList, R.psize]
    exact (List.getElem?_eq_some_iff.mp hp).1
  obtain ⟨c, cz, ce⟩ := R.okt.before zo (i := i) (h := hsh kd k) (by rw [List.getElem?_map, hp, ← pk]; rfl) (List.getElem?_eq_getElem il)
  exact ⟨c, Nat.zero_le _, cz, by rw [List.getElem?_eq_getElem il]; exact congrArg some ce.symm⟩
theorem key_on {h h' : Heap} {k : List κ} {b : Addr} {o : Obj} (hb : IsTupleKey kd h k b) (ob : h.get? a = some o) (dt : o.data = .set es ep t) (sb : Heap.SameBut a h h') : IsTupleKey kd h' k b := by
  obtain ⟨o2, xs, n, g1, g2, g3, g4⟩ := hb
  refine ⟨o2, xs, n, ?_, g2, g3, g4⟩
  rw [sb.2 b fun e => ?_]
  · exact g1
  · rw [e, ob] at g1
    cases g1
    rw [dt] at g3
    cases g3
theorem picked (L : List (Addr × List κ)) (its : es.toList = L.map (row kd)) : ∀ l : List Nat, (∀ i ∈ l, i < L.length) → l.filterMap (fun i => es[i]?) = (l.filterMap fun i => L[i]?).map (row kd) ∧ ((l.filterMap fun i => L[i]?).map fun p => hsh kd p.2) = l.map fun i => (es.map (·.1)).getD i 0
  | [], _ => ⟨rfl, rfl⟩
  | i :: l, hl => by
    have il := hl i List.mem_cons_self
    obtain ⟨e1, e2⟩ := picked L its l fun j hj => hl j (List.mem_cons_of_mem _ hj)
    have g1 : L[i]? = some L[i] := List.getElem?_eq_getElem il
    have g2 : es[i]? = some (row kd L[i]) := by rw [← Array.getElem?_toList, its, List.getElem?_map, g1]; rfl
    refine ⟨?_, ?_⟩
    · rw [List.filterMap_cons, List.filterMap_cons, g1, g2]
      simp only [List.map_cons, e1]
    · rw [List.filterMap_cons, g1]
      simp only [List.map_cons, e2]
      congr 1
      simp [Array.getD_eq_getD_getElem?, g2, row]
theorem all_of (L : List (Addr × List κ)) : ∀ n, n ≤ L.length → (List.range n).filterMap (fun i => L[i]?) = L.take n
  | 0, _ => rfl
  | n + 1, h => by
    rw [List.range_succ, List.filterMap_append, all_of L n (by omega), List.take_succ, List.getElem?_eq_getElem (show n < L.length by omega)]
    simp [List.getElem?_eq_getElem (show n < L.length by omega)]
theorem wider {o : Obj} (ob : s.heap.get? a = some o) (ex : o.ExactSet) (dt : o.data = .set es ep t) (its : es.toList = L.map (row kd)) (okt : TabOk t (L.map fun p => hsh kd p.2)) (lm : L.length ≤ t.mask) (one : (L.map Prod.snd).Nodup) (key : ∀ p, p ∈ L → IsTupleKey kd s.heap p.2 p.1)
    (lead : w.params.followText "set-order" = true ∨ t.led = true) (small : L.length ≤ 63) {n M : Nat} (nM : SetTable.sizeAbove n - 1 = M) (hM : MaskOk M) (n128 : SetTable.sizeAbove n ≤ 128) (room : 5 * L.length < 3 * M) {Z : Unit → Shared → Prop}
    (hZ : ∀ h' L' es' ep' t', Heap.SameBut a s.heap h' → Tb kd h' a L' es' ep' t' → L'.Perm L → Z () { s with heap := h' }) : wpAny (model P w) A (setRelay a n) Z E s := by
  have sz : es.size = L.length := by rw [← Array.length_toList, its, List.length_map]
  have psz : t.place.size = L.length := by
    have := okt.sz
    rwa [List.length_map] at this
  have fit : t.fits es.size = true := by
    unfold SetTable.fits SetTable.fill
    rw [okt.dm, Bool.and_eq_true, beq_iff_eq, decide_eq_true_eq]
    refine ⟨by omega, ?_⟩
    show t.place.size + 0 ≤ _
    omega
  obtain ⟨t2, ord, e1, pm, ok2, m2, l2, p2, d2⟩ := relaid_ok t (hs := es.map (·.1)) (wanted := n) nM hM (by rw [Array.size_map, sz]; omega)
  rw [Array.size_map, sz] at pm
  obtain ⟨r1, r2⟩ := picked L its ord.toList fun i hi => List.mem_range.mp (pm.mem_iff.mp hi)
  have perm : (ord.toList.filterMap fun i => L[i]?).Perm L := by
    have := pm.filterMap fun i => L[i]?
    rwa [all_of L L.length (Nat.le_refl _), List.take_length] at this
  rw [← r2] at ok2
  have its2 : (ord.filterMap fun i => es[i]?).toList = (ord.toList.filterMap fun i => L[i]?).map (row kd) := by
    first
      | (rw [Array.toList_filterMap]; exact r1)
      | simpa using r1
  generalize (ord.toList.filterMap fun i => L[i]?) = L2 at perm ok2 its2
  have len2 := perm.length_eq
  have sz2 : (ord.filterMap fun i => es[i]?).size = es.size := by rw [← Array.length_toList, its2, List.length_map, len2, sz]
  rw [setRelay_eq]
  refine wpAny_bind (wpAny_setState_of ob dt fit ?_)
  dsimp only
  refine wp_if_neg (by rw [sizeLine_eq]; omega) ?_
  try refine wpAny_bind (wpAny_pure ?_)
  rw [e1]
  dsimp only
  refine wpAny_bind ?_
  refine wp_if_neg (by rw [sz2]; simp) ?_
  try refine wpAny_bind (wpAny_pure ?_)
  refine wpAny_pure ?_
  dsimp only
  refine wpAny_storeSet_of ob dt ?_ (by rw [sz2, sz, sizeLine_eq]; omega)
  have sb : Heap.SameBut a s.heap (s.heap.update a (Obj.putSet (ord.filterMap fun i => es[i]?) t2)) := Heap.SameBut.update ..
  refine hZ _ L2 (ord.filterMap fun i => es[i]?) (ep + 1) t2 sb ⟨⟨{ o with data := .set (ord.filterMap fun i => es[i]?) (ep + 1) t2 }, ⟨ex.1, ex.2.1, ex.2.2⟩, rfl, store_at ob dt⟩, its2, ok2, (perm.map Prod.snd).nodup_iff.mpr one, fun p hp => key_on (key p (perm.mem_iff.mp hp)) ob dt sb, by rw [l2]; exact lead, by rw [len2, m2]; exact room, by rw [len2]; exact small⟩ perm
theorem gain (q : Quiet kd) (R : Tb kd s.heap a L es ep t) {x : Addr} {k : List κ} (hx : IsTupleKey kd s.heap k x) (hu : A.units < cLine) (few : L.length < 63) {Z : Bool → Shared → Prop}
    (hZ : ∀ b h' L' es' ep' t', Heap.SameBut a s.heap h' → Tb kd h' a L' es' ep' t' → (k ∈ L.map Prod.snd → L' = L) → (k ∉ L.map Prod.snd → L'.Perm ((x, k) :: L)) → Z b { s with heap := h' }) : wpAny (model P w) A (setAddHashed a (.ref x) (hsh kd k)) Z E s := by
  obtain ⟨o, ex, dt, ob⟩ := R.obj
  have sz := R.size
  have fr := R.free
  unfold setAddHashed
  refine wpAny_holding ?_
  rw [show (100000 : Nat) = 99999 + 1 from rfl, setAddHashedIn_succ]
  refine wpAny_bind (wpAny_setState_of ob dt R.fits ?_)
  dsimp only
  refine wp_if_neg (by simp [byScan, Value.scannable]) ?_
  try refine wpAny_bind (wpAny_pure ?_)
  refine wpAny_bind (seek_all q R hx hu (fun mem => ?_) fun z new zo zi => ?_)
  · dsimp only
    exact wpAny_pure (hZ false s.heap L es ep t (Heap.SameBut.refl a s.heap) R (fun _ => rfl) fun n => absurd mem n)
  dsimp only
  refine wpAny_bind (wpAny_setState_of ob dt R.fits ?_)
  dsimp only
  obtain ⟨f1, f2, f3, f4, f5, f6, f7, f8, f9⟩ := R.okt.put zo zi
  generalize t.put (pb t (hsh kd k) z).j = tp at f1 f3 f4 f5 f6 f7 f8 f9 ⊢
  obtain ⟨t0, at1⟩ := tp
  dsimp only at f1 f3 f4 f5 f6 f7 f8 f9 ⊢
  subst f1
  -- what is said of hashes by value changes but a mark
  have mark : ∀ (c : Bool), ∃ t1 : SetTable, (if c = true then t0 else { t0 with plain := false }) = t1 ∧ t1.mask = t0.mask ∧ t1.led = t0.led ∧ t1.fill = t0.fill ∧ ∀ hs, TabOk t0 hs → TabOk t1 hs := fun c => by
    cases c with
    | true => exact ⟨t0, rfl, rfl, rfl, rfl, fun hs h => h⟩
    | false => exact ⟨{ t0 with plain := false }, rfl, rfl, rfl, rfl, fun hs h => ⟨h.ris, h.dm, h.sz, h.mok, h.bd, h.reach⟩⟩
  by_cases pl0 : t0.plain = true
  refine wp_if_pos pl0 (wpAny_bind (quiet_hsv q hx fun c => ?_))
  obtain ⟨t1, e1, mk1, mk2, mk3, mk4⟩ := mark c
  rw [e1]
  rotate_left
  refine wp_if_neg pl0 ?_
  try refine wpAny_bind (wpAny_pure ?_)
  obtain ⟨t1, e1, mk1, mk2, mk3, mk4⟩ := mark true
  rw [e1]
  all_goals
    replace f3 := mk4 _ f3
    rw [← mk1] at f4
    rw [← mk2] at f5
    rw [← mk3] at f9
    generalize SetTable.below t.place (pb t (hsh kd k) z).j = m at f2 f3 ⊢
    have perm := put_perm L m (x, k)
    have its1 : (SetTable.insertAt es m (hsh kd k, Value.ref x)).toList = (L.take m ++ (x, k) :: L.drop m).map (row kd) := by
      rw [SetTable.toList_insertAt, R.its, List.map_append, List.map_cons, List.map_take, List.map_drop]
      rfl
    have hashes : (L.take m ++ (x, k) :: L.drop m).map (fun p => hsh kd p.2) = (L.map fun p => hsh kd p.2).take m ++ hsh kd k :: (L.map fun p => hsh kd p.2).drop m := by
      rw [List.map_append, List.map_cons, List.map_take, List.map_drop]
    rw [← hashes] at f3
    generalize L.take m ++ (x, k) :: L.drop m = L1 at perm its1 f3
    have len1 : L1.length = L.length + 1 := perm.length_eq
    have one1 : (L1.map Prod.snd).Nodup := (perm.map Prod.snd).nodup_iff.mpr (List.nodup_cons.mpr ⟨new, R.one⟩)
    generalize SetTable.insertAt es m (hsh kd k, Value.ref x) = es1 at its1 ⊢
    have sz1 : es1.size = L.length + 1 := by rw [← Array.length_toList, its1, List.length_map, len1]
    refine wpAny_bind (wpAny_storeSet_of ob dt ?_ (by rw [sz1, sizeLine_eq]; omega))
    have sb : Heap.SameBut a s.heap (s.heap.update a (Obj.putSet es1 t1)) := Heap.SameBut.update ..
    have ob1 := store_at (es' := es1) (t' := t1) ob dt
    generalize s.heap.update a (Obj.putSet es1 t1) = h1 at sb ob1 ⊢
    have key1 : ∀ p, p ∈ L1 → IsTupleKey kd h1 p.2 p.1 := fun p hp => by
      rcases List.mem_cons.mp (perm.mem_iff.mp hp) with e | hp
      · rw [e]; exact key_on hx ob dt sb
      · exact key_on (R.key p hp) ob dt sb
    have lead1 : w.params.followText "set-order" = true ∨ t1.led = true := by rw [f5]; exact R.lead
    have full : t1.tooFull = true ↔ 3 * t.mask ≤ 5 * (L.length + 1) := by
      unfold SetTable.tooFull
      rw [decide_eq_true_eq, f9, List.length_map, f4]
      omega
    by_cases tf : t1.tooFull = true
    · first
        | (refine wpAny_bind ?_; refine wp_if_pos (by simp [tf]) ?_)
        | (refine wp_if_pos (by simp [tf]) ?_; refine wpAny_bind ?_)
      have tf' := full.mp tf
      rw [sz]
      have two : (t.mask = 7 ∧ L.length = 4) ∨ (t.mask = 31 ∧ L.length = 18) := by
        rcases R.okt.mok with e | e | e <;> omega
      have wide : ∀ M, SetTable.sizeAbove (SetTable.grown (L.length + 1)) - 1 = M → MaskOk M → SetTable.sizeAbove (SetTable.grown (L.length + 1)) ≤ 128 → 5 * (L.length + 1) < 3 * M →
          wpAny (model P w) A (setRelay a (SetTable.grown (L.length + 1))) (fun _ z => wpAny (model P w) A (pure true) Z E z) E { s with heap := h1 } := fun M g1 g2 g3 g4 =>
        wider (s := { s with heap := h1 }) (L := L1) ob1 ⟨ex.1, ex.2.1, ex.2.2⟩ rfl its1 f3 (by rw [len1, f4]; omega) one1 key1 lead1 (by omega) g1 g2 g3 (by rw [len1]; exact g4) fun h2 L2 es2 ep2 t2 sb2 R2 perm2 =>
          wpAny_pure (hZ true h2 L2 es2 ep2 t2 (sb.trans sb2) R2 (fun y => absurd y new) fun _ => perm2.trans perm)
      rcases two with ⟨_, e⟩ | ⟨_, e⟩
      · exact wide 31 (by rw [e, size_20]) (.inr (.inl rfl)) (by rw [e, size_20]; decide) (by omega)
      · exact wide 127 (by rw [e, size_76]) (.inr (.inr rfl)) (by rw [e, size_76]; decide) (by omega)
    · first
        | refine wp_if_neg (by simp [tf]) ?_
        | (refine wpAny_bind ?_; refine wp_if_neg (by simp [tf]) ?_; refine wpAny_pure ?_)
      have tf' : ¬ 3 * t.mask ≤ 5 * (L.length + 1) := fun z => tf (full.mpr z)
      exact wpAny_pure (hZ true h1 L1 es1 (ep + 1) t1 sb ⟨⟨{ o with data := .set es1 (ep + 1) t1 }, ⟨ex.1, ex.2.1, ex.2.2⟩, rfl, ob1⟩, its1, f3, one1, key1, lead1, by rw [len1, f4]; omega, by omega⟩ (fun y => absurd y new) fun _ => perm)
structure In (ks : List (Addr × List κ)) (i : Nat) (L : List (Addr × List κ)) : Prop where
  from_ : ∀ p, p ∈ L → p ∈ ks
  has : ∀ k, k ∈ L.map Prod.snd ↔ k ∈ (ks.take i).map Prod.snd
  le : L.length ≤ i
theorem key_keep {h h' : Heap} {k : List κ} {b : Addr} (x : IsTupleKey kd h k b) (hk : ∀ c o, h.get? c = some o → h'.get? c = some o) : IsTupleKey kd h' k b := by
  obtain ⟨o, xs, n, g, r⟩ := x
  exact ⟨o, xs, n, hk b o g, r⟩
theorem Tb.keep {h h' : Heap} (R : Tb kd h a L es ep t) (ha : ∀ o, h.get? a = some o → h'.get? a = some o) (hk : ∀ p, p ∈ L → IsTupleKey kd h' p.2 p.1) : Tb kd h' a L es ep t := by
  obtain ⟨o, r1, r2, r3⟩ := R.obj
  exact ⟨⟨o, r1, r2, ha o r3⟩, R.its, R.okt, R.one, hk, R.lead, R.free, R.small⟩
abbrev nu (w : World) : Obj := { cls := .type "set", dict := none, data := .set #[] 0 (.fresh 0 0 (!w.params.followText "set-order")) }
theorem tb_new {h : Heap} (ob : h.get? a = some (nu w)) : Tb kd h a [] #[] 0 (.fresh 0 0 (!w.params.followText "set-order")) where
  obj := ⟨_, ⟨rfl, rfl, rfl⟩, rfl, ob⟩
  its := rfl
  okt := ⟨List.Pairwise.nil, rfl, rfl, .inl rfl, fun y hy => (by cases hy), fun i h j hi => (by simp at hi)⟩
  one := List.nodup_nil
  key := fun p hp => (by cases hp)
  lead := by
    show _ ∨ (!w.params.followText "set-order") = true
    cases w.params.followText "set-order"
    · exact .inr rfl
    · exact .inl rfl
  free := by
    show 5 * 0 < 3 * 7
    decide
  small := Nat.zero_le _
theorem taken (q : Quiet kd) {I : Addr} {fp wr : List Addr} {G : Array GenState → Array GenState → Prop} {n : Nat} {Pv : Nat → Value → Prop} {St : Nat → Shared → Prop} {Rs : Result → Shared → Prop} (W : WalksS P w A.in1 I fp wr G n Pv St) (S : Addr) (notIn : S ∉ fp) (ks : List (Addr × List κ)) (len : n = ks.length) (few : ks.length ≤ 63)
    (val : ∀ i v, Pv i v → ∃ p, ks[i]? = some p ∧ v = .ref p.1) (h0 : Heap) (key : ∀ p, p ∈ ks → IsTupleKey kd h0 p.2 p.1) (fresh : h0.get? S = none) (wfresh : ∀ b ∈ wr, h0.get? b = none) (hu : A.in1.units < cLine) : ∀ (m i : Nat) (s : Shared), i + m = n → St i s → (∀ b o, h0.get? b = some o → s.heap.get? b = some o) →
      (∃ L es ep t, Tb kd s.heap S L es ep t ∧ In ks i L) → (∀ s' L es ep t, Moved (S :: wr) G s s' → Tb kd s'.heap S L es ep t → In ks n L → (∀ b o, h0.get? b = some o → s'.heap.get? b = some o) → Rs (.ok (.ret .none)) s') → codeAny (model P w) A (.builtin "set.update.loop" ⟨[.ref S, .ref I], []⟩) Rs s := by
  have sw : S ∉ wr := fun h => notIn (W.sub _ h)
  have up : ∀ b ∈ wr, b ∈ S :: wr := fun b hb => List.mem_cons_of_mem _ hb
  have stays : ∀ {y y' : Shared}, Moved wr G y y' → (∀ b o, h0.get? b = some o → y.heap.get? b = some o) → ∀ b o, h0.get? b = some o → y'.heap.get? b = some o := fun mv kp b o e =>
    mv.heap b o (fun hb => by rw [wfresh b hb] at e; cases e) (kp b o e)
  intro m
  induction m with
  | zero =>
    intro i s im st kp ⟨L, es, ep, t, R, g⟩ done
    obtain rfl : i = n := by omega
    refine codeAny_builtin F.entry_set_update_loop ?_
    rw [Around.under_plainId F.plain_set_update_loop _]
    show wpAny _ A.in1 (pyNext (.ref I) >>= _) _ _ s
    refine wpAny_bind (W.done s _ _ st fun s' mv => ?_)
    have kp' := stays mv kp
    exact wpAny_pure (done s' L es ep t (mv.mono up) (R.keep (fun o e => mv.heap S o sw e) fun p hp => key_keep (key p (g.from_ p hp)) kp') g kp')
  | succ m ih =>
    intro i s im st kp ⟨L, es, ep, t, R, g⟩ done
    have lt : i < n := by omega
    refine codeAny_builtin F.entry_set_update_loop ?_
    rw [Around.under_plainId F.plain_set_update_loop _]
    show wpAny _ A.in1 (pyNext (.ref I) >>= _) _ _ s
    refine wpAny_bind (W.item i s _ _ lt st fun v s' pv st' mv => ?_)
    obtain ⟨p, hp, rfl⟩ := val i v pv
    have kp' := stays mv kp
    have R' : Tb kd s'.heap S L es ep t := R.keep (fun o e => mv.heap S o sw e) fun y hy => key_keep (key y (g.from_ y hy)) kp'
    have hx : IsTupleKey kd s'.heap p.2 p.1 := key_keep (key p (List.mem_of_getElem? hp)) kp'
    show wpAny _ A.in1 (holding [Value.ref p.1] (setAdd S (.ref p.1)) >>= _) _ _ s'
    refine wpAny_bind (wpAny_holding ?_)
    unfold setAdd
    refine wpAny_holding (wpAny_bind (wpAny_pyHash_tuple hu hx ?_))
    refine gain (s := { s' with toks := s'.toks + (p.2.length + 1) }) q R' hx hu (by have := g.le; omega) fun b h' L' es' ep' t' sb R2 c1 c2 => ?_
    have tk : ks.take (i + 1) = ks.take i ++ [p] := by rw [List.take_succ, hp]; rfl
    have g' : In ks (i + 1) L' := by
      by_cases c : p.2 ∈ L.map Prod.snd
      · rw [c1 c]
        refine ⟨g.from_, fun k => ?_, by have := g.le; omega⟩
        rw [tk, List.map_append, List.mem_append, ← g.has k]
        constructor
        · exact .inl
        · rintro (z | z)
          · exact z
          · have : k = p.2 := by simpa using z
            rw [this]; exact c
      · have pm := c2 c
        refine ⟨fun y hy => ?_, fun k => ?_, ?_⟩
        · rcases List.mem_cons.mp (pm.mem_iff.mp hy) with e | z
          · rw [e]; exact List.mem_of_getElem? hp
          · exact g.from_ y z
        · rw [(pm.map Prod.snd).mem_iff, List.map_cons, List.mem_cons, tk, List.map_append, List.mem_append, ← g.has k]
          constructor
          · rintro (z | z)
            · exact .inr (by simpa using z)
            · exact .inl z
          · rintro (z | z)
            · exact .inr z
            · exact .inl (by simpa using z)
        · rw [pm.length_eq, List.length_cons]
          have := g.le
          omega
    have kp2 : ∀ b o, h0.get? b = some o → h'.get? b = some o := fun b o e => (sb.2 b (fun z => by rw [z, fresh] at e; cases e)).trans (kp' b o e)
    refine wpAny_pure ⟨plainId_quiet F.plain_set_update_loop _, ih (i + 1) _ (by omega) (W.frame _ s' _ _ st' (Nat.le_add_right _ _) fun b hb o e => ?_) kp2 ⟨L', es', ep', t', R2, g'⟩ fun s'' L2 es2 ep2 t2 mv2 R3 g3 kp3 => ?_⟩
    · rw [sb.2 b (fun z : b = S => notIn (z ▸ hb))]; exact e
    · refine done s'' L2 es2 ep2 t2 (Moved.trans W.gtrans ((mv.mono up).then_heap (Nat.le_add_right _ _) fun b o hb e => ?_) mv2) R3 g3 kp3
      rw [sb.2 b (fun z : b = S => hb (by rw [z]; exact List.mem_cons_self))]; exact e
theorem make_set (q : Quiet kd) {l : Addr} {xs : Array Value} (ks : List (Addr × List κ)) {Z : Value → Shared → Prop} (calm : A.handled = none) (hl : s.heap.IsList l xs) (it : xs.toList = ks.map fun p => Value.ref p.1) (key : ∀ p, p ∈ ks → IsTupleKey kd s.heap p.2 p.1) (few : ks.length ≤ 63) (hu : A.units + 3 < cLine)
    (hZ : ∀ (h' : Heap) (tk : Nat) L es ep t, Tb kd h' s.heap.objs.size L es ep t → In ks ks.length L → (∀ b o, s.heap.get? b = some o → h'.get? b = some o) → Z (.ref s.heap.objs.size) { s with heap := h', toks := tk }) : wpAny (model P w) A (call (.type "set") [.ref l]) Z E s := by
  have len : xs.size = ks.length := by rw [← Array.length_toList, it, List.length_map]
  obtain ⟨mc, mt, m1⟩ := F.called_set.mro
  have m2 := F.called_set.made
  have m3 := F.called_set.sub
  refine wpAny_call (codeAny_of_tree ?_)
  show wpAny _ _ (callAny (.type "set") _) _ _ _
  refine wpAny_pure ⟨Code.quiet_builtin _ (by decide +kernel), codeAny_builtin F.entry_type_call ?_⟩
  rw [Around.under_plain (weight_type_call_type "set" [.ref l] []) rfl]
  have m4 := F.called_set.notType
  have m5 := F.called_set.canCreate
  have m6 := F.typeCall_set_1 (.ref l)
  repeat (any_goals (first | assumption | wp_step))
  refine codeAny_mono (code_set_led1 (.ref l) (E := E) (Q₁ := fun v z => v = .ref s.heap.objs.size ∧ z = { s with heap := s.heap.push (nu w) }) ⟨rfl, rfl⟩) fun r z hr => ?_
  cases r with
  | error e => exact hr
  | ok fl =>
    cases fl with
    | ret v =>
      obtain ⟨rfl, rfl⟩ := hr
      have gS : (s.heap.push (nu w)).get? s.heap.objs.size = some (nu w) := Heap.get?_push_size _ rfl
      have tS : Shared.TypeIs { s with heap := s.heap.push (nu w) } (.ref s.heap.objs.size) "set" := ⟨_, gS, rfl⟩
      have i1 := F.called_set.init.lookup
      have i2 := F.called_set.init.bind (.ref s.heap.objs.size)
      repeat (any_goals (first | assumption | wp_step))
      refine codeAny_mono (codeAny_call_builtin (R := wants (fun v y => v = .none ∧ ∃ h' tk L es ep t, y = { s with heap := h', toks := tk } ∧ Tb kd h' s.heap.objs.size L es ep t ∧ In ks ks.length L ∧ ∀ b o, s.heap.get? b = some o → h'.get? b = some o) E) F.called_set.init.plain F.entry_set_init (check_set_init_1 tS ?_)) fun r2 y hr2 => ?_
      · obtain ⟨⟨c1, c2, c3, c4⟩, gl, e1, nl, e2⟩ := hl
        simp only at e1 e2
        subst e1 e2
        have gl' : (s.heap.push (nu w)).get? l = some { cls := .type "list", dict := c2, data := .seq xs nl, slots := c4 } := Heap.get?_push_of_some _ gl
        have n1 := F.sub_list_set
        have n2 := F.sub_list_frozenset
        have n3 : (Value.type "list" == Value.type "dict") = false := by decide
        have il : (s.heap.push (nu w)).IsList l xs := ⟨_, gl', rfl, nl, rfl⟩
        unfold Builtin.«set.__init__» noKeywords Builtin.Frozenset.updateFrom
        generalize hold : pyIter = it0
        wp_walk
        subst hold
        refine wpAny_pyIter_list il ?_
        refine wpAny_bind (wpAny_runValue ?_)
        have lS : l < s.heap.objs.size := Heap.lt_size gl
        have calm3 : A.in1.in1.in1.handled = none := by simp [calm]
        have lI : l ≠ (s.heap.push (nu w)).objs.size := by
          rw [Heap.size_push]
          exact Nat.ne_of_lt (Nat.lt_of_lt_of_le lS (Nat.le_succ _))
        have SI : s.heap.objs.size ∉ [(s.heap.push (nu w)).objs.size, l] := by
          rw [Heap.size_push]
          intro mem
          rcases List.mem_cons.mp mem with e | e
          · exact absurd e (Nat.ne_of_lt (Nat.lt_succ_self _))
          · exact absurd (List.mem_singleton.mp e) (Nat.ne_of_gt lS)
        have val : ∀ (i : Nat) (v : Value), xs[i]? = some v → ∃ p, ks[i]? = some p ∧ v = .ref p.1 := fun i v hv => by
          have : xs.toList[i]? = some v := by rw [Array.getElem?_toList]; exact hv
          rw [it, List.getElem?_map, Option.map_eq_some_iff] at this
          obtain ⟨p, g1, g2⟩ := this
          exact ⟨p, g1, g2.symm⟩
        have gone : ∀ b, s.heap.objs.size ≤ b → s.heap.get? b = none := fun b hb => by
          cases g : s.heap.get? b with
          | none => rfl
          | some o => exact absurd (Nat.lt_of_lt_of_le (Heap.lt_size g) hb) (Nat.lt_irrefl b)
        refine taken q ((Walks.list calm3 _ l lI xs).toS) s.heap.objs.size SI ks len few val s.heap key (gone _ (Nat.le_refl _)) (fun b hb => gone b (by
          rw [List.mem_singleton.mp hb, Heap.size_push]
          exact Nat.le_add_right _ 1)) hu xs.size 0 _ (by omega) ⟨⟨_, Heap.get?_push_size _ rfl, rfl, rfl⟩, (il.push _)⟩ (fun b o e => Heap.get?_push_of_some _ (Heap.get?_push_of_some _ e)) ?first ?last
        case first =>
          refine ⟨[], #[], 0, _, tb_new (Heap.get?_push_of_some _ gS), fun p hp => (by cases hp), fun k => ?_, Nat.le_refl _⟩
          simp
        case last =>
          intro y L es ep t mv R g kp
          obtain ⟨h', g2, d2, tk, os2⟩ := y
          have z1 : g2 = s.gens := mv.gens
          have z2 : d2 = s.drawn := mv.drawn
          have z3 : os2 = s.os := mv.os
          subst z1 z2 z3
          rw [len] at g
          refine wpAny_pure ?_
          exact wpAny_pure ⟨rfl, h', tk, L, es, ep, t, rfl, R, g, kp⟩
      · cases r2 with
        | error e => exact hr2
        | ok fl2 =>
          cases fl2 with
          | ret v2 =>
            obtain ⟨rfl, h', tk, L, es, ep, t, rfl, R, g, kp⟩ := hr2
            repeat (any_goals (first | assumption | wp_step))
            exact hZ _ _ _ _ _ _ R g kp
          | _ => exact hr2.elim
    | _ => exact hr.elim
end
end MxS
namespace Pw
open PySem PySem.Spec PyProof.Rows L2
open Evl (Ex ex_l ex_t)
open Evl (Ex ex_l ex_t fresh_back)
section
variable {T : Cfg} {W : WX} {ρ : List (Option D)} {m0 : Mu} {XP : XW} {K : Out → Prop} {ta tb tc te te' : TE} {P : D → Mu → Prop} {u : TS} {μ : Mu}
def kD : Key → D
  | .inl i => .int i
  | .inr x => .str x
theorem repP_snoc {α : Type} {Hb : Hp} {gs : List (α × D)} {fs : List (α × V)} {k : α} {d : D} {v : V} (h : RepP T Hb gs fs) (r : Rep T Hb d v) : RepP T Hb (gs ++ [(k, d)]) (fs ++ [(k, v)]) := by
  have hl : gs.length = fs.length := by have := congrArg List.length h.1; simpa using this
  refine ⟨by simp [h.1], fun i g f a b => ?_⟩
  by_cases hi : i < gs.length
  · rw [List.getElem?_append_left hi] at a
    rw [List.getElem?_append_left (by omega)] at b
    exact h.2 i g f a b
  · rw [List.getElem?_append_right (by omega)] at a
    rw [List.getElem?_append_right (by omega), ← hl] at b
    cases e : i - gs.length with
    | zero => rw [e] at a b; cases a; cases b; exact r
    | succ n => rw [e] at a; simp at a
inductive Stm (μ : Mu) : D → D → Prop
  | refl (d : D) : Stm μ d d
  | own {p : Addr} {kvs : List (Key × D)} (h : μ p = some (.dK kvs)) : Stm μ (.ptr p) (.dic kvs)
  | lst {ds es : List D} (l : ds.length = es.length) (k : ∀ (i : Nat) (x y : D), ds[i]? = some x → es[i]? = some y → Stm μ x y) : Stm μ (.lst ds) (.lst es)
def frzD (μ : Mu) (a : Addr) (Hb H : Hp) : Hp := fun b => if b = a then Hb b else match μ b with
  | some (.dK _) => H b
  | _ => Hb b
theorem frzD_ex {Hb H : Hp} {a : Addr} (ex : Ex Hb H) : Ex Hb (frzD μ a Hb H) := fun b o h => by
  unfold frzD
  split
  · exact h
  · split
    · exact ex b o h
    · exact h
theorem Stm.rep {Hb H : Hp} {a : Addr} {c : Nat} {gs : List (Str × D)} {d d' : D} (h : Stm μ d d') (ex : Ex Hb H) (sm : SimMu T μ Hb H) (ha : μ a = some (.ins c gs)) : ∀ {v : V}, Rep T Hb d v → Rep T (frzD μ a Hb H) d' v := by
  have e1 := frzD_ex (μ := μ) (a := a) ex
  induction h with
  | refl d => intro v r; exact r.mono e1
  | @own p kvs hp =>
    intro v r
    cases r
    obtain ⟨n, o, ho, ro⟩ := sm p _ hp
    cases o with
    | dK fs =>
      have ro : RepP T Hb kvs fs := ro
      have hh : frzD μ a Hb H p = some (.dK fs) := by
        unfold frzD
        rw [if_neg (fun e => by rw [e, ha] at hp; cases hp), hp]
        exact ho
      exact .dic hh ro.1 (ro.mono e1).2
    | _ => exact ro.elim
  | @lst ds es l k ih =>
    intro v r
    obtain ⟨b, xs, rfl, hx, rl⟩ := r.lst_inv
    refine .lst (e1 _ _ hx) (l.symm.trans rl.1) fun i y w hy hw => ?_
    have hi : i < ds.length := by rw [l]; exact (List.getElem?_eq_some_iff.mp hy).1
    exact ih i _ y (List.getElem?_eq_getElem hi) hy (rl.2 i _ w (List.getElem?_eq_getElem hi) hw)
end
def tNevS : TS := fun _ _ _ => False
theorem ps_nev {X : Cx} {st : Stmt} : PS X st tNevS := ⟨fun _ _ _ _ _ _ h => h.elim⟩
def valD (kvs : List (Key × D)) (k : Key) : Option D := (kvs.find? fun kv => decide (kv.1 = k)).map (·.2)
section
variable {T : Cfg} {W : WX} {ρ : List (Option D)} {m0 : Mu} {XP : XW} {K : Out → Prop} {ta tb tc te te' : TE} {P : D → Mu → Prop} {u : TS} {μ : Mu}
theorem Rep.dic_inv {Hb : Hp} {gs : List (Key × D)} {v : V} (h : Rep T Hb (.dic gs) v) : ∃ a fs, v = .ref a ∧ Hb a = some (.dK fs) ∧ RepP T Hb gs fs := by
  cases h with
  | dic h l r => exact ⟨_, _, rfl, h, l, r⟩
theorem RepP.val {Hb : Hp} {k : Key} : ∀ {gs : List (Key × D)} {fs : List (Key × V)}, RepP T Hb gs fs → (∀ d, valD gs k = some d → ∃ v, valV fs k = some v ∧ Rep T Hb d v) ∧ (valD gs k = none → valV fs k = none) := by
  intro gs
  induction gs with
  | nil =>
    intro fs h
    have e : fs = [] := by have := h.1; simpa using this.symm
    subst e
    exact ⟨fun d e => (nomatch e), fun _ => rfl⟩
  | cons g gs ih =>
    intro fs h
    cases fs with
    | nil => have := h.1; simp at this
    | cons f fs =>
      obtain ⟨h1, h2⟩ := h
      simp only [List.map_cons, List.cons.injEq] at h1
      have r0 := h2 0 g f rfl rfl
      have rt : RepP T Hb gs fs := ⟨h1.2, fun i g' f' a b => h2 (i + 1) g' f' (by simpa using a) (by simpa using b)⟩
      have ih := ih rt
      unfold valD valV at *
      rw [List.find?_cons, List.find?_cons]
      by_cases e : g.1 = k
      · have e2 : f.1 = k := by rw [← h1.1]; exact e
        rw [decide_eq_true e, decide_eq_true e2]
        exact ⟨fun d hd => by cases hd; exact ⟨_, rfl, r0⟩, fun q => (nomatch q)⟩
      · have e2 : ¬ f.1 = k := by rw [← h1.1]; exact e
        rw [decide_eq_false e, decide_eq_false e2]
        exact ih
abbrev InvX {X : Type} (R : Nat → X → List (Option D)) (J : Nat → X → Mu → Prop) : Nat → S → Prop := fun n s => ∃ x, leR (R n x) s.r ∧ J n x s.m
theorem sv_forX {X : Type} (R : Nat → X → List (Option D)) (J : Nat → X → Mu → Prop) {wi : TI} {i : Nat} (h : IV T wi W ⟨ρ, m0⟩ (fun n f μ => ∃ x0, leR (R 0 x0) ρ ∧ J 0 x0 μ ∧ (∀ k x μ', k < n → J k x μ' → SV T u W ⟨(R k x).set i (some (f k)), μ'⟩ (forK (InvX R J) k K)) ∧ ∀ s' x, leR (R n x) s'.r → J n x s'.m → K (.nx s')) (xk ⟨ρ, m0⟩ K)) : SV T (tFor wi (gName i) u) W ⟨ρ, m0⟩ K :=
  sv_for (is := [i]) (fun σ Hb H Q S q x => h σ Hb H Q S (fun j n f μ Hb' H' g ok p => q j n f μ Hb' H' g ok (by
    obtain ⟨x0, hle, j0, turn, done⟩ := p
    exact ⟨InvX R J, ⟨x0, hle, j0⟩, fun k s' hk ⟨x, hl, hj⟩ => gv_name (sv_wk (hl.set i _) sub_refl (turn k x s'.m hk hj)), fun s' ⟨x, hl, hj⟩ => done s' x hl hj⟩)) x)
end
end Pw
namespace Far
open PySem PySem.Spec PyProof.Rows L2 Pw
def Th0 (T : Cfg) (d : D) : Prop := (∃ t, Thing T d t) ∧ ∀ x, d = .str x → x.length ≤ 100000
def Th1 (T : Cfg) (d : D) : Prop := Th0 T d ∧ ∀ es, d = .tup es → es.length ≤ 100000 ∧ ∀ e ∈ es, Th0 T e
def Th2 (T : Cfg) (d : D) : Prop := Th0 T d ∧ ∀ es, d = .tup es → ∀ e ∈ es, Th1 T e
def natB : D → Bool
  | .int i => decide (0 ≤ i)
  | _ => false
def intOf : D → Int
  | .int i => i
  | _ => 0
def wtsB (m : Int) : D → Bool
  | .tup ds => decide ((ds.length : Int) = m) && (ds.all natB && decide (0 < (ds.map intOf).sum))
  | _ => false
def stpB (m : Int) : D → Bool
  | .tup [a, b, c] => betw a 0 (m - 1) && (nameB b && wtsB m c)
  | _ => false
def keyOf : D → List Key
  | .tup [.int r, .str x, _] => [.inl r, .inr x]
  | _ => []
def stepsB (m : Int) : D → Bool
  | .lst es => es.all (stpB m) && decide (es.map keyOf).Nodup
  | _ => false
abbrev Stp := Nat × Str × List Nat
def wtsD (ws : List Nat) : D := .tup (ws.map fun w : Nat => D.int (w : Int))
def stpD (s : Stp) : D := .tup [.int (s.1 : Int), .str s.2.1, wtsD s.2.2]
def gcdL (ws : List Nat) : Nat := ws.foldl (fun g w => Nat.gcd w g) 0
def low (ws : List Nat) : List Nat := ws.map (· / gcdL ws)
def stpP (s : Stp) : PyData := .tuple [.int (s.1 : Int), .str s.2.1, .tuple ((s.2.2.map fun w : Nat => (w : Int)).map .int)]
def lowS (s : Stp) : Stp := (s.1, s.2.1, low s.2.2)
def srtS (ss : List Stp) : List Stp := ss.mergeSort (PySem.W.dataLe false stpP)
def mkS (ss : List Stp) : List Stp := srtS (ss.map lowS)
def mrow (ss : List Stp) (r : Nat) : List (Key × D) := (ss.filter fun s => decide (s.1 = r)).map fun s => (.inr s.2.1, wtsD s.2.2)
def maF (m : Nat) (ss : List Stp) : List (Str × D) := [("many", .int (m : Int)), ("steps", .lst (ss.map stpD)), ("onward", .lst ((List.range m).map fun r => .dic (mrow ss r)))]
def maD (m : Nat) (ss : List Stp) : D := .ins 1 (maF m ss)
structure Sok (m : Nat) (s : Stp) : Prop where
  rm : s.1 < m
  nm : nmB s.2.1 = true
  ln : s.2.2.length = m
  ps : 0 < s.2.2.sum
  bd : ∀ w ∈ s.2.2, w < 2 ^ 8000
def keyS (s : Stp) : Nat × Str := (s.1, s.2.1)
structure Good (m : Nat) (ss : List Stp) : Prop where
  m1 : 1 ≤ m
  m12 : m ≤ 12
  ln : ss.length ≤ 63
  nd : (ss.map keyS).Nodup
  ok : ∀ s ∈ ss, Sok m s
theorem tup_of {d : D} (h : kindOf d "tuple" = true) : ∃ es, d = .tup es := by
  cases d <;> first | exact ⟨_, rfl⟩ | (simp [kindOf, tagOf, kk] at h)
theorem lst_of {d : D} (h : kindOf d "list" = true) : ∃ es, d = .lst es := by
  cases d <;> first | exact ⟨_, rfl⟩ | (simp [kindOf, tagOf, kk] at h)
theorem gcd_fold_dvd : ∀ (ws : List Nat) (g : Nat), (∀ w ∈ ws, ws.foldl (fun g w => Nat.gcd w g) g ∣ w) ∧ ws.foldl (fun g w => Nat.gcd w g) g ∣ g := by
  intro ws
  induction ws with
  | nil => intro g; exact ⟨fun w h => (List.not_mem_nil h).elim, Nat.dvd_refl _⟩
  | cons a ws ih =>
    intro g
    obtain ⟨h1, h2⟩ := ih (Nat.gcd a g)
    refine ⟨fun w h => ?_, Nat.dvd_trans h2 (Nat.gcd_dvd_right _ _)⟩
    rcases List.mem_cons.1 h with rfl | h
    · exact Nat.dvd_trans h2 (Nat.gcd_dvd_left _ _)
    · exact h1 w h
theorem gcdL_dvd {ws : List Nat} {w : Nat} (h : w ∈ ws) : gcdL ws ∣ w := (gcd_fold_dvd ws 0).1 w h
theorem sum_pos {ws : List Nat} (h : 0 < ws.sum) : ∃ w ∈ ws, 0 < w := by
  induction ws with
  | nil => simp at h
  | cons a ws ih =>
    rw [List.sum_cons] at h
    by_cases e : 0 < a
    · exact ⟨a, by simp, e⟩
    · obtain ⟨w, hw, h⟩ := ih (by omega)
      exact ⟨w, by simp [hw], h⟩
theorem gcdL_pos {ws : List Nat} (h : 0 < ws.sum) : 0 < gcdL ws := by
  obtain ⟨w, hw, h0⟩ := sum_pos h
  exact Nat.pos_of_dvd_of_pos (gcdL_dvd hw) h0
theorem low_len (ws : List Nat) : (low ws).length = ws.length := by simp [low]
theorem sum_of_mem {ws : List Nat} {w : Nat} (h : w ∈ ws) : w ≤ ws.sum := by
  induction ws with
  | nil => cases h
  | cons a ws ih =>
    rw [List.sum_cons]
    rcases List.mem_cons.1 h with rfl | h
    · omega
    · have := ih h; omega
theorem low_pos {ws : List Nat} (h : 0 < ws.sum) : 0 < (low ws).sum := by
  obtain ⟨w, hw, h0⟩ := sum_pos h
  have h1 : w / gcdL ws ∈ low ws := List.mem_map.2 ⟨w, hw, rfl⟩
  have h2 : 0 < w / gcdL ws := Nat.div_pos (Nat.le_of_dvd h0 (gcdL_dvd hw)) (gcdL_pos h)
  exact Nat.lt_of_lt_of_le h2 (sum_of_mem h1)
theorem low_bd {ws : List Nat} {b : Nat} (h : ∀ w ∈ ws, w < b) : ∀ w ∈ low ws, w < b := by
  intro w hw
  obtain ⟨v, hv, rfl⟩ := List.mem_map.1 hw
  exact Nat.lt_of_le_of_lt (Nat.div_le_self _ _) (h v hv)
theorem mk_perm (ss : List Stp) : (mkS ss).Perm (ss.map lowS) := List.mergeSort_perm _ _
theorem keyS_low (ss : List Stp) : (ss.map lowS).map keyS = ss.map keyS := by
  rw [List.map_map]
  rfl
theorem Sok.low {m : Nat} {s : Stp} (h : Sok m s) : Sok m (lowS s) := ⟨h.rm, h.nm, by show (Far.low s.2.2).length = m; rw [low_len]; exact h.ln, low_pos h.ps, low_bd h.bd⟩
theorem Good.made {m : Nat} {ss : List Stp} (h : Good m ss) : Good m (mkS ss) where
  m1 := h.m1
  m12 := h.m12
  ln := by rw [(mk_perm ss).length_eq, List.length_map]; exact h.ln
  nd := by rw [((mk_perm ss).map keyS).nodup_iff, keyS_low]; exact h.nd
  ok := fun s hs => by
    have := (mk_perm ss).mem_iff.1 hs
    obtain ⟨s', h', rfl⟩ := List.mem_map.1 this
    exact (h.ok s' h').low
structure MaOk (T : Cfg) : Prop where
  sh : ShOk T
  cl : Cls T.K (T.cls 1)
  nm : NoAttr T.K (T.cls 1) "many"
  ns : NoAttr T.K (T.cls 1) "steps"
  no : NoAttr T.K (T.cls 1) "onward"
theorem wts_nat {ws : List Nat} : ((ws.map fun w : Nat => D.int (w : Int)).all natB = true) ∧ ((ws.map fun w : Nat => D.int (w : Int)).map intOf).sum = (ws.sum : Int) := by
  induction ws with
  | nil => exact ⟨rfl, rfl⟩
  | cons w ws ih =>
    refine ⟨?_, ?_⟩
    · rw [List.map_cons, List.all_cons, ih.1]
      simp [natB]
    · rw [List.map_cons, List.map_cons, List.sum_cons, ih.2, List.sum_cons]
      simp [intOf]
theorem Sok.good {m : Nat} {s : Stp} (h : Sok m s) : stpB m (stpD s) = true := by
  show (betw (.int (s.1 : Int)) 0 ((m : Int) - 1) && (nmB s.2.1 && wtsB m (wtsD s.2.2))) = true
  have h1 : betw (.int (s.1 : Int)) 0 ((m : Int) - 1) = true := by
    have := h.rm
    show (decide (0 ≤ (s.1 : Int)) && decide ((s.1 : Int) ≤ (m : Int) - 1)) = true
    rw [decide_eq_true (by omega), decide_eq_true (by omega)]
    rfl
  have h2 : wtsB m (wtsD s.2.2) = true := by
    show (decide (((s.2.2.map fun w : Nat => D.int (w : Int)).length : Int) = (m : Int)) && ((s.2.2.map fun w : Nat => D.int (w : Int)).all natB && decide (0 < ((s.2.2.map fun w : Nat => D.int (w : Int)).map intOf).sum))) = true
    have := h.ln
    have := h.ps
    rw [wts_nat.1, wts_nat.2, decide_eq_true (by simp; omega), decide_eq_true (by omega)]
    rfl
  rw [h1, h2, h.nm]
  rfl
theorem key_stp (s : Stp) : keyOf (stpD s) = [.inl (s.1 : Int), .inr s.2.1] := rfl
theorem Good.steps {m : Nat} {ss : List Stp} (h : Good m ss) : stepsB m (.lst (ss.map stpD)) = true := by
  show ((ss.map stpD).all (stpB m) && decide ((ss.map stpD).map keyOf).Nodup) = true
  have h1 : (ss.map stpD).all (stpB m) = true := by
    rw [List.all_map, List.all_eq_true]
    exact fun s hs => (h.ok s hs).good
  have h2 : ((ss.map stpD).map keyOf).Nodup := by
    rw [List.map_map]
    have := h.nd
    unfold List.Nodup at this ⊢
    rw [List.pairwise_map] at this ⊢
    refine this.imp fun {a b} hab e => hab ?_
    rw [Function.comp, Function.comp, key_stp, key_stp] at e
    simp only [List.cons.injEq, Sum.inl.injEq, Sum.inr.injEq] at e
    exact Prod.ext (by have := e.1; show a.1 = b.1; omega) e.2.1
  rw [h1, decide_eq_true h2]
  rfl
theorem th0_int {T : Cfg} (hT : ShOk T) (i : Int) : Th0 T (.int i) := ⟨⟨_, th_int hT i⟩, fun x h => by cases h⟩
theorem th0_tup {T : Cfg} (hT : ShOk T) (ds : List D) : Th0 T (.tup ds) := ⟨⟨_, th_tup hT ds⟩, fun x h => by cases h⟩
theorem th0_lst {T : Cfg} (hT : ShOk T) (ds : List D) : Th0 T (.lst ds) := ⟨⟨_, th_lst hT ds⟩, fun x h => by cases h⟩
theorem th0_str {T : Cfg} (hT : ShOk T) {x : Str} (hx : x.length ≤ 100000) : Th0 T (.str x) := ⟨⟨_, th_str hT x⟩, fun y h => by cases h; exact hx⟩
theorem nm_len {x : Str} (h : nmB x = true) : x.length ≤ 8 := by
  unfold nmB at h
  rw [Bool.and_eq_true, Bool.and_eq_true] at h
  exact of_decide_eq_true h.2.1
theorem Th0.one {T : Cfg} {d : D} (h : Th0 T d) (hd : ∀ es, d ≠ .tup es) : Th1 T d := ⟨h, fun es e => absurd e (hd es)⟩
theorem Sok.th {T : Cfg} (hT : ShOk T) {m : Nat} (hm : m ≤ 12) {s : Stp} (h : Sok m s) : Th2 T (stpD s) := by
  refine ⟨th0_tup hT _, fun es he e hm' => ?_⟩
  cases he
  simp only [List.mem_cons, List.not_mem_nil, or_false] at hm'
  rcases hm' with rfl | rfl | rfl
  · exact (th0_int hT _).one fun _ h => by cases h
  · exact (th0_str hT (Nat.le_trans (nm_len h.nm) (by decide))).one fun _ h => by cases h
  · refine ⟨th0_tup hT _, fun es he => ?_⟩
    cases he
    refine ⟨?_, fun e he => ?_⟩
    · have := h.ln
      simp
      omega
    · obtain ⟨w, _, rfl⟩ := List.mem_map.1 he
      exact th0_int hT _
theorem at_nat {α : Type} {l : List α} {k : Nat} {a : α} (h : l[k]? = some a) : atI l (k : Int) = some a := by
  have hk : k < l.length := (List.getElem?_eq_some_iff.1 h).1
  have e : ixN l.length (k : Int) = some k := by
    unfold ixN
    rw [if_pos (by omega), if_pos (by omega)]
    rfl
  unfold atI
  rw [e]
  exact h
def lookS (ss : List Stp) (r : Nat) (x : Str) : Option (List Nat) := (ss.find? fun s => decide (keyS s = (r, x))).map fun s => s.2.2
def menuS (ss : List Stp) (r : Nat) : List Str := ((ss.filter fun s => decide (s.1 = r)).map fun s => s.2.1).mergeSort (PySem.W.dataLe false PyData.str)
def heapQ (ws : List Nat) : List Rat := ws.map fun w : Nat => Rat.divInt (w : Int) (ws.sum : Int)
def heapD : Option (List Nat) → D
  | none => .non
  | some ws => .lst ((heapQ ws).map shD)
theorem look_mem {ss : List Stp} {r : Nat} {x : Str} {ws : List Nat} (h : lookS ss r x = some ws) : ∃ s ∈ ss, s.1 = r ∧ s.2.1 = x ∧ s.2.2 = ws := by
  unfold lookS at h
  obtain ⟨s, hs, rfl⟩ := Option.map_eq_some_iff.1 h
  have h1 := List.find?_some hs
  have h2 := List.mem_of_find?_eq_some hs
  have h3 := of_decide_eq_true h1
  exact ⟨s, h2, congrArg Prod.fst h3, congrArg Prod.snd h3, rfl⟩
end Far
namespace Pw
open PySem PySem.Spec PyProof.Rows L2
open Evl (Ex ex_l ex_t fresh_back)
end Pw
namespace Far
open PySem PySem.Spec PyProof.Rows L2 Pw
end Far
namespace Pw
open PySem PySem.Spec PyProof.Rows L2
end Pw
namespace Far
open PySem PySem.Spec PyProof.Rows L2 Pw
structure Wok (m : Nat) (xs : List Str) (s : Stp) : Prop where
  sg : s.2.1 ∈ xs
  ln : s.2.2.length = m
  ps : 0 < s.2.2.sum
  le : s.2.2.sum ≤ 6 * m + 6
  w12 : ∀ w ∈ s.2.2, w ≤ 12
structure Drawn (m : Nat) (xs : List Str) (ss : List Stp) : Prop where
  ln : ss.length ≤ m * xs.length
  nd : (ss.map keyS).Nodup
  rm : ∀ s ∈ ss, s.1 < m
  ok : ∀ s ∈ ss, Wok m xs s
structure Run (m r j : Nat) (xs : List Str) (ss : List Stp) : Prop where
  nd : (ss.map keyS).Nodup
  rm : ∀ s ∈ ss, s.1 < r ∨ (s.1 = r ∧ s.2.1 ∈ xs.take j)
  ok : ∀ s ∈ ss, Wok m xs s
theorem Run.add {m r j : Nat} {xs : List Str} {ss : List Stp} {ws : List Nat} (h : Run m r j xs ss) (hn : xs.Nodup) (hj : j < xs.length) (hw : Wok m xs (r, xs[j], ws)) : Run m r (j + 1) xs (ss ++ [(r, xs[j], ws)]) where
  nd := by
    rw [List.map_append, List.nodup_append]
    refine ⟨h.nd, by simp, fun k hk k' hk' e => ?_⟩
    simp at hk'
    rw [hk'] at e
    obtain ⟨s, hs, rfl⟩ := List.mem_map.1 hk
    rcases h.rm s hs with h1 | ⟨h1, h2⟩
    · have := congrArg Prod.fst e
      simp [keyS] at this
      omega
    · have h3 : s.2.1 = xs[j] := congrArg Prod.snd e
      rw [h3] at h2
      obtain ⟨i, hi⟩ := List.getElem?_of_mem h2
      have hi2 : i < j := by
        have := (List.getElem?_eq_some_iff.1 hi).1
        rw [List.length_take] at this
        omega
      rw [List.getElem?_take_of_lt hi2] at hi
      obtain ⟨b1, e1⟩ := List.getElem?_eq_some_iff.1 hi
      have := (List.getElem_inj hn).1 e1
      omega
  rm := fun s hs => by
    rcases List.mem_append.1 hs with h1 | h1
    · rcases h.rm s h1 with h2 | ⟨h2, h3⟩
      · exact .inl h2
      · exact .inr ⟨h2, by rw [List.take_succ]; exact List.mem_append_left _ h3⟩
    · simp at h1
      subst h1
      exact .inr ⟨rfl, by rw [List.take_succ, List.getElem?_eq_getElem hj]; exact List.mem_append_right _ (List.mem_singleton.2 rfl)⟩
  ok := fun s hs => by
    rcases List.mem_append.1 hs with h1 | h1
    · exact h.ok s h1
    · simp at h1
      subst h1
      exact hw
theorem Run.next {m r j : Nat} {xs : List Str} {ss : List Stp} (h : Run m r j xs ss) : Run m (r + 1) 0 xs ss where
  nd := h.nd
  rm := fun s hs => .inl (by rcases h.rm s hs with h1 | ⟨h1, _⟩ <;> omega)
  ok := h.ok
open FM (Bq)
def Dv (N : Nat) (q : Rat) : Prop := 0 < N ∧ ∃ k : Int, q * (N : Rat) = (k : Rat)
theorem Dv.den {N : Nat} {q : Rat} (h : Dv N q) : q.den ≤ N := by
  obtain ⟨h0, k, hk⟩ := h
  have hN : (N : Rat) ≠ 0 := fun e => by have := Rat.natCast_eq_zero_iff.1 e; omega
  have e : q = Rat.divInt k (N : Int) := by
    rw [Rat.divInt_eq_div]
    have h1 : ((N : Int) : Rat) = (N : Rat) := rfl
    rw [h1, ← hk]
    grind
  rw [e, Rat.den_divInt]
  split
  · omega
  · simp only [Int.natAbs_natCast]
    exact Nat.div_le_self _ _
theorem Dv.add {N : Nat} {p q : Rat} (h : Dv N p) (k : Dv N q) : Dv N (p + q) := by
  obtain ⟨h0, i, hi⟩ := h
  obtain ⟨_, j, hj⟩ := k
  exact ⟨h0, i + j, by rw [Rat.intCast_add, ← hi, ← hj]; grind⟩
theorem Dv.zero {N : Nat} (h : 0 < N) : Dv N 0 := ⟨h, 0, by simp⟩
theorem Dv.one {N : Nat} (h : 0 < N) : Dv N 1 := ⟨h, N, by rw [Rat.one_mul]; rfl⟩
theorem Dv.mul {N M : Nat} {p q : Rat} (h : Dv N p) (k : Dv M q) : Dv (N * M) (p * q) := by
  obtain ⟨h0, i, hi⟩ := h
  obtain ⟨h1, j, hj⟩ := k
  refine ⟨Nat.mul_pos h0 h1, i * j, ?_⟩
  rw [Rat.intCast_mul, ← hi, ← hj]
  have : ((N * M : Nat) : Rat) = (N : Rat) * (M : Rat) := by simp
  rw [this]
  grind
theorem Dv.up {N M : Nat} {q : Rat} (h : Dv N q) (k : N ∣ M) (hM : 0 < M) : Dv M q := by
  obtain ⟨h0, i, hi⟩ := h
  obtain ⟨c, rfl⟩ := k
  refine ⟨hM, i * c, ?_⟩
  have : ((N * c : Nat) : Rat) = (N : Rat) * (c : Rat) := by simp
  rw [this, Rat.intCast_mul, ← hi]
  have h2 : (((c : Nat) : Int) : Rat) = (c : Rat) := rfl
  rw [h2]
  grind
theorem Dv.sum {N : Nat} (h : 0 < N) : ∀ {qs : List Rat}, (∀ q ∈ qs, Dv N q) → Dv N qs.sum := by
  intro qs
  induction qs with
  | nil => intro _; exact Dv.zero h
  | cons q qs ih =>
    intro hq
    rw [List.sum_cons]
    exact (hq q (by simp)).add (ih fun p hp => hq p (by simp [hp]))
def U01 (q : Rat) : Prop := 0 ≤ q ∧ q ≤ 1
theorem u0 : U01 0 := ⟨by grind, by grind⟩
theorem u1 : U01 1 := ⟨by grind, by grind⟩
theorem u_mul {p q : Rat} (h : U01 p) (k : U01 q) : U01 (p * q) := by
  refine ⟨Rat.mul_nonneg h.1 k.1, ?_⟩
  have h1 : 0 ≤ p * (1 - q) := Rat.mul_nonneg h.1 (by have := k.2; grind)
  have := h.2
  grind
def wtQ (ws : List Nat) (k : Nat) : Rat := Rat.divInt ((ws.getD k 0 : Nat) : Int) (ws.sum : Int)
def ledQ (ws : List Nat) (qs : List Rat) : Rat := ((List.range ws.length).map fun k => wtQ ws k * qs.getD k 0).sum
theorem wtQ_nonneg (ws : List Nat) (k : Nat) : 0 ≤ wtQ ws k := Rat.divInt_nonneg (by omega) (by omega)
theorem sum_range_succ (f : Nat → Rat) (n : Nat) : ((List.range (n + 1)).map f).sum = ((List.range n).map f).sum + f n := by
  rw [List.range_succ, List.map_append, List.sum_append]
  simp [Rat.add_zero]
theorem wt_cast (w s : Nat) : Rat.divInt (w : Int) (s : Int) = (w : Rat) / (s : Rat) := by
  rw [Rat.divInt_eq_div]
  rfl
theorem sum_div (s : Rat) : ∀ (ws : List Nat) (n : Nat), n ≤ ws.length → ((List.range n).map fun k => ((ws.getD k 0 : Nat) : Rat) / s).sum = ((ws.take n).sum : Rat) / s := by
  intro ws n
  induction n with
  | zero => intro _; simp [Rat.div_def]
  | succ n ih =>
    intro h
    rw [sum_range_succ, ih (by omega), List.take_succ, List.getElem?_eq_getElem (by omega), Option.toList_some, List.sum_append]
    have e : ws.getD n 0 = ws[n] := by simp [List.getD_eq_getElem?_getD, List.getElem?_eq_getElem (show n < ws.length by omega)]
    rw [e]
    have e2 : (([ws[n]] : List Nat).sum) = ws[n] := by simp
    rw [e2]
    have e3 : (((ws.take n).sum + ws[n] : Nat) : Rat) = ((ws.take n).sum : Rat) + (ws[n] : Rat) := by simp
    rw [e3, Rat.div_def, Rat.div_def, Rat.div_def]
    grind
theorem wtQ_sum {ws : List Nat} (h : 0 < ws.sum) : ((List.range ws.length).map (wtQ ws)).sum = 1 := by
  have e : (wtQ ws) = fun k => ((ws.getD k 0 : Nat) : Rat) / (ws.sum : Rat) := by
    funext k
    exact wt_cast _ _
  rw [e, sum_div _ ws _ (Nat.le_refl _), List.take_length]
  have h2 : (ws.sum : Rat) ≠ 0 := fun e => by have := Rat.natCast_eq_zero_iff.1 e; omega
  grind
theorem led_le {f g : Nat → Rat} : ∀ n : Nat, (∀ k, k < n → 0 ≤ f k ∧ U01 (g k)) → 0 ≤ ((List.range n).map fun k => f k * g k).sum ∧ ((List.range n).map fun k => f k * g k).sum ≤ ((List.range n).map f).sum := by
  intro n
  induction n with
  | zero => intro _; simp
  | succ n ih =>
    intro h
    obtain ⟨h1, h2⟩ := ih fun k hk => h k (by omega)
    obtain ⟨h3, h4⟩ := h n (by omega)
    rw [sum_range_succ, sum_range_succ]
    have h5 : 0 ≤ f n * g n := Rat.mul_nonneg h3 h4.1
    have h6 : 0 ≤ f n * (1 - g n) := Rat.mul_nonneg h3 (by have := h4.2; grind)
    exact ⟨by grind, by grind⟩
theorem getD_u {qs : List Rat} (h : ∀ q ∈ qs, U01 q) (k : Nat) : U01 (qs.getD k 0) := by
  rw [List.getD_eq_getElem?_getD]
  cases e : qs[k]? with
  | none => exact u0
  | some q => exact h q (List.mem_of_getElem? e)
theorem led_u {ws : List Nat} {qs : List Rat} (h : 0 < ws.sum) (hq : ∀ q ∈ qs, U01 q) : U01 (ledQ ws qs) := by
  have := led_le (f := wtQ ws) (g := fun k => qs.getD k 0) ws.length fun k _ => ⟨wtQ_nonneg ws k, getD_u hq k⟩
  rw [wtQ_sum h] at this
  exact this
end Far
namespace Pw
open PySem PySem.Spec PyProof.Rows L2
open Evl (Ex ex_l ex_t fresh_back)
abbrev Cls' := Value × Option Nat × (Addr → Value → Option Addr → TS)
def ownK (P : D → Mu → Prop) (μ : Mu) : D → Prop
  | .lst xs => ∀ p, μ p = none → P (.ptr p) (put μ p (.lst xs))
  | d => P d μ
def nw (c : List D → (D → Prop) → (XD → Prop) → Prop) : Ct := fun ds μ P XP => μ = mu0 ∧ ∃ Pf Xf, c ds Pf Xf ∧ (∀ d, Pf d → ownK P mu0 d) ∧ ∀ x, Xf x → XP x mu0
theorem mrg_own {μ : Mu} {p : Addr} {m : MO} : mrg μ mu0 (put mu0 p m) = put μ p m := by
  funext b
  unfold mrg put
  by_cases e : b = p
  · simp [e]
  · simp [e]
section
variable {T : Cfg} {W : WX} {ρ : List (Option D)} {m0 : Mu} {XP : XW} {K : Out → Prop} {te te' : TE} {P : D → Mu → Prop} {u : TS} {μ : Mu} {E : XK} {ta : TA} {Hb H : Hp}
theorem ev_calO {c : List D → (D → Prop) → (XD → Prop) → Prop} (h : EA T ta W ⟨ρ, m0⟩ (fun ds μ => c ds (ownK P μ) (fun _ => False)) XP) : EV T (tCall (spOf T (nw c)) [] E ta) W ⟨ρ, m0⟩ P XP := fun σ Hb H Q S q x =>
  h σ Hb H _ S (fun ds μ vs Hb1 H1 g r p => by
    refine ⟨ds, mu0, Hb1, fun d μ' => (∀ xs, d ≠ .lst xs) ∧ μ' = mu0 ∧ ownK P μ d ∨ ∃ p xs, d = .ptr p ∧ μ' = put mu0 p (.lst xs) ∧ ownK P μ (.lst xs), fun _ _ => False, g.sub, g.mu.nil, by simpa using r, ⟨rfl, _, _, p, fun d hd => ?_, fun x hx => hx⟩, fun d μ' v Hb' H' g' r' k => ?_, fun y μ' cls dd Hb' H' g' r' k => k.elim⟩
    · cases d with
      | lst xs => exact fun p _ => .inr ⟨p, xs, rfl, rfl, hd⟩
      | _ => exact .inl ⟨fun xs e => (by cases e), rfl, hd⟩
    · have gw := g'.widen sub_nil g.mu
      rcases k with ⟨hn, rfl, k⟩ | ⟨p, xs, rfl, rfl, k⟩
      · rw [mrg_nil] at gw
        refine q d μ v Hb' H' (g.trans gw) r' ?_
        cases d <;> first | exact absurd rfl (hn _) | exact k
      · rw [mrg_own] at gw
        refine q _ _ v Hb' H' (g.trans gw) r' (k p ?_)
        rcases g'.new p (.lst xs) put_same with h | h
        · exact absurd rfl h
        · exact mu_fresh g.mu h) x
theorem cv_isiM {a : Addr} {ds : List D} {n : String} {b : Bool} (hm : μ a = some (.lst ds)) (hk : PySem.W.kitOne T.K (.type "list") (.type n) = some b) (p : P (.bl b) μ) : CV T (rIsi T.K) [.ptr a, .ty n] μ P := fun xs Hb H Q ex sm r q => by
  obtain ⟨v, w, rfl, r1, r2⟩ := two_inv r
  cases r1
  cases r2
  obtain ⟨_, o, ho, ro⟩ := sm a _ hm
  cases o with
  | lst ys => exact ⟨_, _, _, _, b, rfl, .ty n, .base (.lst ho), hk, q _ _ _ _ _ (Go.refl ex sm) (.bl _) p⟩
  | _ => exact ro.elim
theorem Paired.sq {Hb H : Hp} (ex : Ex Hb H) {ps : List Addr} {kvs : List (Key × V)} (h : Paired (fun p kv => SqT T.K Hb p [kV kv.1, kv.2]) ps kvs) : Paired (fun p kv => SqT T.K H p [kV kv.1, kv.2]) ps kvs := by
  induction h with
  | nil => exact .nil
  | cons a _ ih => exact .cons (ex_t ex a) ih
end
def KtS (K : PySem.W.Frag) (a : Addr) (xs : List Str) : Prop := ∃ (o : Obj) (its : Array Value) (n : Nat), K.lookup a = some o ∧ o.cls = .type "tuple" ∧ o.data = .seq its n ∧ its.size ≤ sizeLine ∧ Vals (xs.map V.str) its.toList
def strsB : List Value → List Str → Bool
  | [], [] => true
  | .str x _ :: us, z :: zs => decide (x = z) && strsB us zs
  | _, _ => false
def kttS (K : PySem.W.Frag) (a : Addr) (zs : List Str) : Bool := match K.lookup a with
  | some ⟨.type c, _, .seq its _, _⟩ => decide (c = "tuple") && (decide (zs.length ≤ 100) && strsB its.toList zs)
  | _ => false
theorem strsB_ok : ∀ {us : List Value} {zs : List Str}, strsB us zs = true → Vals (zs.map V.str) us ∧ us.length = zs.length
  | [], [], _ => ⟨.nil, rfl⟩
  | .str i t :: us, z :: zs, h => by
    unfold strsB at h
    simp only [Bool.and_eq_true, decide_eq_true_eq] at h
    obtain ⟨h1, h2⟩ := strsB_ok (us := us) (zs := zs) h.2
    exact ⟨.cons ⟨t, by rw [h.1]⟩ h1, by simp [h2]⟩
theorem kttS_ok {K : PySem.W.Frag} {a : Addr} {zs : List Str} (h : kttS K a zs = true) : KtS K a zs := by
  unfold kttS at h
  split at h
  · rename_i c dd its n sl e
    simp only [Bool.and_eq_true, decide_eq_true_eq] at h
    obtain ⟨h1, h2, h3⟩ := h
    obtain ⟨v, l⟩ := strsB_ok h3
    subst h1
    refine ⟨_, its, n, e, rfl, rfl, ?_, v⟩
    rw [← Array.length_toList, l, sizeLine_eq]
    omega
  · cases h
end Pw
namespace Lw
open PySem PySem.Spec PyProof.Rows L2 Pw
def top (i : Nat) : Stmt := PySem.Challenge.pw_farbetween_k72_recipes_as_texts.main.body.getD i (.Pass ⟨0, 0, 0, 0⟩)
abbrev s_is_name : Stmt := (top 6)
abbrev s_are_unlike9 : Stmt := (top 9)
abbrev s_are_signs9 : Stmt := (top 10)
abbrev s_is_pair9 : Stmt := (top 11)
abbrev s_are_pairs9 : Stmt := (top 12)
abbrev s_is_part_name : Stmt := (top 18)
abbrev s_sign_in : Stmt := (top 19)
abbrev s_signs_in : Stmt := (top 20)
abbrev s_pairs_in : Stmt := (top 21)
abbrev s_weight_in : Stmt := (top 22)
abbrev s_Reading___init__ : Stmt := (inClass (top 23) 0)
abbrev s_Reading_word : Stmt := (inClass (top 23) 1)
abbrev s_Reading_told : Stmt := (inClass (top 23) 2)
abbrev s_Reading_next_recipe : Stmt := (inClass (top 23) 3)
abbrev s_read_recipe : Stmt := (top 24)
abbrev s_inner_of : Stmt := (top 25)
abbrev s_head_of : Stmt := (top 26)
abbrev s_words_of : Stmt := (top 27)
abbrev s_show_recipe : Stmt := (top 28)
abbrev s_names_of : Stmt := (top 29)
abbrev s_parts_of : Stmt := (top 30)
abbrev s_Lwell : Stmt := (top 33)
abbrev s_Ldraw : Stmt := (top 34)
abbrev s_Lone : Stmt := (top 35)
abbrev s_Lword : Stmt := (top 36)
abbrev s_Lunlike : Stmt := (top 37)
abbrev s_Lpairs : Stmt := (top 38)
abbrev s_Lweight : Stmt := (top 39)
abbrev s_Lname : Stmt := (top 40)
abbrev s_Lrecipe : Stmt := (top 41)
abbrev s_Lwords72 : Stmt := (top 42)
abbrev s_Lnames72 : Stmt := (top 43)
abbrev s_Lright72 : Stmt := (top 44)
abbrev s_law : Stmt := (top 45)
theorem sc_is_name : FnScope ["thing", "letter"] ["thing"] (defScope s_is_name) := ⟨rfl, rfl, rfl, by decide +kernel, rfl, by decide +kernel, by decide +kernel⟩
theorem sc_are_unlike9 : FnScope ["things"] ["things"] (defScope s_are_unlike9) := ⟨rfl, rfl, rfl, by decide +kernel, rfl, by decide +kernel, by decide +kernel⟩
theorem sc_are_signs9 : FnScope ["thing", "sign"] ["thing"] (defScope s_are_signs9) := ⟨rfl, rfl, rfl, by decide +kernel, rfl, by decide +kernel, by decide +kernel⟩
theorem sc_is_pair9 : FnScope ["thing", "sign"] ["thing"] (defScope s_is_pair9) := ⟨rfl, rfl, rfl, by decide +kernel, rfl, by decide +kernel, by decide +kernel⟩
theorem sc_are_pairs9 : FnScope ["thing", "pair", "elder", "newer"] ["thing"] (defScope s_are_pairs9) := ⟨rfl, rfl, rfl, by decide +kernel, rfl, by decide +kernel, by decide +kernel⟩
theorem sc_is_part_name : FnScope ["thing"] ["thing"] (defScope s_is_part_name) := ⟨rfl, rfl, rfl, by decide +kernel, rfl, by decide +kernel, by decide +kernel⟩
theorem sc_sign_in : FnScope ["word"] ["word"] (defScope s_sign_in) := ⟨rfl, rfl, rfl, by decide +kernel, rfl, by decide +kernel, by decide +kernel⟩
theorem sc_signs_in : FnScope ["word", "signs"] ["word"] (defScope s_signs_in) := ⟨rfl, rfl, rfl, by decide +kernel, rfl, by decide +kernel, by decide +kernel⟩
theorem sc_pairs_in : FnScope ["word", "pairs", "pair"] ["word"] (defScope s_pairs_in) := ⟨rfl, rfl, rfl, by decide +kernel, rfl, by decide +kernel, by decide +kernel⟩
theorem sc_weight_in : FnScope ["word", "figure"] ["word"] (defScope s_weight_in) := ⟨rfl, rfl, rfl, by decide +kernel, rfl, by decide +kernel, by decide +kernel⟩
theorem sc_Reading___init__ : FnScope ["self", "words"] ["self", "words"] (defScope s_Reading___init__) := ⟨rfl, rfl, rfl, by decide +kernel, rfl, by decide +kernel, by decide +kernel⟩
theorem sc_Reading_word : FnScope ["self"] ["self"] (defScope s_Reading_word) := ⟨rfl, rfl, rfl, by decide +kernel, rfl, by decide +kernel, by decide +kernel⟩
theorem sc_Reading_told : FnScope ["self", "reader", "found"] ["self", "reader"] (defScope s_Reading_told) := ⟨rfl, rfl, rfl, by decide +kernel, rfl, by decide +kernel, by decide +kernel⟩
theorem sc_Reading_next_recipe : FnScope ["self", "word", "sign", "weights"] ["self"] (defScope s_Reading_next_recipe) := ⟨rfl, rfl, rfl, by decide +kernel, rfl, by decide +kernel, by decide +kernel⟩
theorem sc_read_recipe : FnScope ["text", "reading", "found"] ["text"] (defScope s_read_recipe) := ⟨rfl, rfl, rfl, by decide +kernel, rfl, by decide +kernel, by decide +kernel⟩
theorem sc_inner_of : FnScope ["recipe"] ["recipe"] (defScope s_inner_of) := ⟨rfl, rfl, rfl, by decide +kernel, rfl, by decide +kernel, by decide +kernel⟩
theorem sc_head_of : FnScope ["recipe", "weight", "pair"] ["recipe"] (defScope s_head_of) := ⟨rfl, rfl, rfl, by decide +kernel, rfl, by decide +kernel, by decide +kernel⟩
theorem sc_words_of : FnScope ["recipe", "found", "inner"] ["recipe"] (defScope s_words_of) := ⟨rfl, rfl, rfl, by decide +kernel, rfl, by decide +kernel, by decide +kernel⟩
theorem sc_show_recipe : FnScope ["recipe"] ["recipe"] (defScope s_show_recipe) := ⟨rfl, rfl, rfl, by decide +kernel, rfl, by decide +kernel, by decide +kernel⟩
theorem sc_names_of : FnScope ["recipe", "found", "inner"] ["recipe"] (defScope s_names_of) := ⟨rfl, rfl, rfl, by decide +kernel, rfl, by decide +kernel, by decide +kernel⟩
theorem sc_parts_of : FnScope ["recipe"] ["recipe"] (defScope s_parts_of) := ⟨rfl, rfl, rfl, by decide +kernel, rfl, by decide +kernel, by decide +kernel⟩
theorem sc_Lwell : FnScope ["_law_cell"] ["_law_cell"] (defScope s_Lwell) := ⟨rfl, rfl, rfl, by decide +kernel, rfl, by decide +kernel, by decide +kernel⟩
theorem sc_Ldraw : FnScope ["_law_well_here", "_law_many", "_law_prime", "_law_number", "_law_digit"] ["_law_well_here", "_law_many"] (defScope s_Ldraw) := ⟨rfl, rfl, rfl, by decide +kernel, rfl, by decide +kernel, by decide +kernel⟩
theorem sc_Lone : FnScope ["_law_well_here", "_law_some"] ["_law_well_here", "_law_some"] (defScope s_Lone) := ⟨rfl, rfl, rfl, by decide +kernel, rfl, by decide +kernel, by decide +kernel⟩
theorem sc_Lword : FnScope ["_law_well_here", "_law_letters", "_law_k"] ["_law_well_here"] (defScope s_Lword) := ⟨rfl, rfl, rfl, by decide +kernel, rfl, by decide +kernel, by decide +kernel⟩
theorem sc_Lunlike : FnScope ["_law_well_here", "_law_most", "_law_found", "_law_k", "_law_word_here"] ["_law_well_here", "_law_most"] (defScope s_Lunlike) := ⟨rfl, rfl, rfl, by decide +kernel, rfl, by decide +kernel, by decide +kernel⟩
theorem sc_Lpairs : FnScope ["_law_well_here", "_law_elder", "_law_newer"] ["_law_well_here"] (defScope s_Lpairs) := ⟨rfl, rfl, rfl, by decide +kernel, rfl, by decide +kernel, by decide +kernel⟩
theorem sc_Lweight : FnScope ["_law_well_here"] ["_law_well_here"] (defScope s_Lweight) := ⟨rfl, rfl, rfl, by decide +kernel, rfl, by decide +kernel, by decide +kernel⟩
theorem sc_Lname : FnScope ["_law_well_here", "_law_name_here"] ["_law_well_here"] (defScope s_Lname) := ⟨rfl, rfl, rfl, by decide +kernel, rfl, by decide +kernel, by decide +kernel⟩
theorem sc_Lrecipe : FnScope ["_law_well_here", "_law_room", "_law_way", "_law_size", "_law_weights", "_law_one_here"] ["_law_well_here", "_law_room"] (defScope s_Lrecipe) := ⟨rfl, rfl, rfl, by decide +kernel, rfl, by decide +kernel, by decide +kernel⟩
theorem sc_Lwords72 : FnScope ["_law_recipe_here", "_law_kind", "_law_told", "_law_pairs_here", "_law_elder", "_law_newer"] ["_law_recipe_here"] (defScope s_Lwords72) := ⟨rfl, rfl, rfl, by decide +kernel, rfl, by decide +kernel, by decide +kernel⟩
theorem sc_Lnames72 : FnScope ["_law_recipe_here", "_law_found", "_law_inner"] ["_law_recipe_here"] (defScope s_Lnames72) := ⟨rfl, rfl, rfl, by decide +kernel, rfl, by decide +kernel, by decide +kernel⟩
theorem sc_Lright72 : FnScope ["_law_well_here", "_law_texts", "_law_told", "_law_turn", "_law_recipe_here", "_law_text", "_law_kept", "_law_again", "_law_found", "_law_names_here"] ["_law_well_here"] (defScope s_Lright72) := ⟨rfl, rfl, rfl, by decide +kernel, rfl, by decide +kernel, by decide +kernel⟩
theorem sc_law : FnScope ["_law_script", "_law_cell"] ["_law_script"] (defScope s_law) := ⟨rfl, rfl, rfl, by decide +kernel, rfl, by decide +kernel, by decide +kernel⟩
abbrev FnP (K : PySem.W.Frag) (x q : Str) (st : Stmt) (dvs : List V) (f : Addr) : Prop := FunD K x q (defArgs st) (defBody st) (defScope st) dvs [] f (fdOf K f)
def d_is_name : He.DefD := ⟨("is_name", none), "is_name", "is_name", defArgs s_is_name, defBody s_is_name, defScope s_is_name, [], []⟩
def d_are_unlike9 : He.DefD := ⟨("are_unlike", none), "are_unlike", "are_unlike", defArgs s_are_unlike9, defBody s_are_unlike9, defScope s_are_unlike9, [], []⟩
def d_are_signs9 : He.DefD := ⟨("are_signs", none), "are_signs", "are_signs", defArgs s_are_signs9, defBody s_are_signs9, defScope s_are_signs9, [], []⟩
def d_is_pair9 : He.DefD := ⟨("is_pair", none), "is_pair", "is_pair", defArgs s_is_pair9, defBody s_is_pair9, defScope s_is_pair9, [], []⟩
def d_are_pairs9 : He.DefD := ⟨("are_pairs", none), "are_pairs", "are_pairs", defArgs s_are_pairs9, defBody s_are_pairs9, defScope s_are_pairs9, [], []⟩
def d_is_part_name : He.DefD := ⟨("is_part_name", none), "is_part_name", "is_part_name", defArgs s_is_part_name, defBody s_is_part_name, defScope s_is_part_name, [], []⟩
def d_sign_in : He.DefD := ⟨("sign_in", none), "sign_in", "sign_in", defArgs s_sign_in, defBody s_sign_in, defScope s_sign_in, [], []⟩
def d_signs_in : He.DefD := ⟨("signs_in", none), "signs_in", "signs_in", defArgs s_signs_in, defBody s_signs_in, defScope s_signs_in, [], []⟩
def d_pairs_in : He.DefD := ⟨("pairs_in", none), "pairs_in", "pairs_in", defArgs s_pairs_in, defBody s_pairs_in, defScope s_pairs_in, [], []⟩
def d_weight_in : He.DefD := ⟨("weight_in", none), "weight_in", "weight_in", defArgs s_weight_in, defBody s_weight_in, defScope s_weight_in, [], []⟩
def d_Reading___init__ : He.DefD := ⟨("Reading", some "__init__"), "__init__", "Reading.__init__", defArgs s_Reading___init__, defBody s_Reading___init__, defScope s_Reading___init__, [], []⟩
def d_Reading_word : He.DefD := ⟨("Reading", some "word"), "word", "Reading.word", defArgs s_Reading_word, defBody s_Reading_word, defScope s_Reading_word, [], []⟩
def d_Reading_told : He.DefD := ⟨("Reading", some "told"), "told", "Reading.told", defArgs s_Reading_told, defBody s_Reading_told, defScope s_Reading_told, [], []⟩
def d_Reading_next_recipe : He.DefD := ⟨("Reading", some "next_recipe"), "next_recipe", "Reading.next_recipe", defArgs s_Reading_next_recipe, defBody s_Reading_next_recipe, defScope s_Reading_next_recipe, [], []⟩
def d_read_recipe : He.DefD := ⟨("read_recipe", none), "read_recipe", "read_recipe", defArgs s_read_recipe, defBody s_read_recipe, defScope s_read_recipe, [], []⟩
def d_inner_of : He.DefD := ⟨("inner_of", none), "inner_of", "inner_of", defArgs s_inner_of, defBody s_inner_of, defScope s_inner_of, [], []⟩
def d_head_of : He.DefD := ⟨("head_of", none), "head_of", "head_of", defArgs s_head_of, defBody s_head_of, defScope s_head_of, [], []⟩
def d_words_of : He.DefD := ⟨("words_of", none), "words_of", "words_of", defArgs s_words_of, defBody s_words_of, defScope s_words_of, [], []⟩
def d_show_recipe : He.DefD := ⟨("show_recipe", none), "show_recipe", "show_recipe", defArgs s_show_recipe, defBody s_show_recipe, defScope s_show_recipe, [], []⟩
def d_names_of : He.DefD := ⟨("names_of", none), "names_of", "names_of", defArgs s_names_of, defBody s_names_of, defScope s_names_of, [], []⟩
def d_parts_of : He.DefD := ⟨("parts_of", none), "parts_of", "parts_of", defArgs s_parts_of, defBody s_parts_of, defScope s_parts_of, [], []⟩
def d_Lwell : He.DefD := ⟨("_law_well", none), "_law_well", "_law_well", defArgs s_Lwell, defBody s_Lwell, defScope s_Lwell, [], []⟩
def d_Ldraw : He.DefD := ⟨("_law_draw", none), "_law_draw", "_law_draw", defArgs s_Ldraw, defBody s_Ldraw, defScope s_Ldraw, [], []⟩
def d_Lone : He.DefD := ⟨("_law_one", none), "_law_one", "_law_one", defArgs s_Lone, defBody s_Lone, defScope s_Lone, [], []⟩
def d_Lword : He.DefD := ⟨("_law_word", none), "_law_word", "_law_word", defArgs s_Lword, defBody s_Lword, defScope s_Lword, [], []⟩
def d_Lunlike : He.DefD := ⟨("_law_unlike", none), "_law_unlike", "_law_unlike", defArgs s_Lunlike, defBody s_Lunlike, defScope s_Lunlike, [], []⟩
def d_Lpairs : He.DefD := ⟨("_law_pairs", none), "_law_pairs", "_law_pairs", defArgs s_Lpairs, defBody s_Lpairs, defScope s_Lpairs, [], []⟩
def d_Lweight : He.DefD := ⟨("_law_weight", none), "_law_weight", "_law_weight", defArgs s_Lweight, defBody s_Lweight, defScope s_Lweight, [], []⟩
def d_Lname : He.DefD := ⟨("_law_name", none), "_law_name", "_law_name", defArgs s_Lname, defBody s_Lname, defScope s_Lname, [], []⟩
def d_Lrecipe : He.DefD := ⟨("_law_recipe", none), "_law_recipe", "_law_recipe", defArgs s_Lrecipe, defBody s_Lrecipe, defScope s_Lrecipe, [], []⟩
def d_Lwords72 : He.DefD := ⟨("_law_words", none), "_law_words", "_law_words", defArgs s_Lwords72, defBody s_Lwords72, defScope s_Lwords72, [], []⟩
def d_Lnames72 : He.DefD := ⟨("_law_names", none), "_law_names", "_law_names", defArgs s_Lnames72, defBody s_Lnames72, defScope s_Lnames72, [], []⟩
def d_Lright72 : He.DefD := ⟨("_law_right", none), "_law_right", "_law_right", defArgs s_Lright72, defBody s_Lright72, defScope s_Lright72, [], []⟩
def d_law : He.DefD := ⟨("law", none), "law", "law", defArgs s_law, defBody s_law, defScope s_law, [], []⟩
def fn : List He.DefD := ([d_is_name, d_are_unlike9, d_are_signs9, d_is_pair9, d_are_pairs9, d_is_part_name, d_sign_in, d_signs_in, d_pairs_in, d_weight_in, d_Reading___init__, d_Reading_word, d_Reading_told, d_Reading_next_recipe, d_read_recipe, d_inner_of, d_head_of, d_words_of, d_show_recipe, d_names_of, d_parts_of, d_Lwell, d_Ldraw, d_Lone, d_Lword, d_Lunlike, d_Lpairs, d_Lweight, d_Lname, d_Lrecipe] : List He.DefD) ++ ([d_Lwords72, d_Lnames72, d_Lright72, d_law] : List He.DefD)
def fa : List He.Fa := ([.glo "is_name", .glo "are_unlike", .glo "are_signs", .glo "is_pair", .glo "are_pairs", .glo "is_part_name", .glo "sign_in", .glo "signs_in", .glo "pairs_in", .glo "weight_in", .glo "read_recipe", .glo "inner_of", .glo "head_of", .glo "words_of", .glo "show_recipe", .glo "names_of", .glo "parts_of", .glo "_law_well", .glo "_law_draw", .glo "_law_one", .glo "_law_word", .glo "_law_unlike", .glo "_law_pairs", .glo "_law_weight", .glo "_law_name", .glo "_law_recipe", .glo "_law_words", .glo "_law_names", .glo "_law_right", .glo "law"] : List He.Fa) ++ ([.glo "Reading", .cls "Reading", .mkr "Reading", .noat "Reading" "words", .noat "Reading" "at", .noat "Reading" "top", .noat "Reading" "bottom", .meth "Reading" "word", .meth "Reading" "told", .meth "Reading" "next_recipe", .free "all", .free "int", .free "isinstance", .free "len", .free "list", .free "range", .free "repr", .free "set", .free "sorted", .free "str", .free "tuple", .free "zip", .str "LETTERS" "abcdefghijklmnopqrstuvwxyz", .int "MOST_LETTERS" 8, .int "MOST_WEIGHT" 1000, .glo "WORDS", .str "FIGURES" "0123456789", .int "MOST_WORDS" 30, .str "NONE" "-"] : List He.Fa)
def exs : List (PySem.W.Frag → Bool) := ([(fun K => decide (PySem.W.mroIn K (He.ga K "Reading") (.type "object") = some true)), (fun K => He.eqO (PySem.W.findIn K (.ref (He.ga K "Reading")) "__class__") (some (some (.builtin "object.__class__")))), (fun K => He.eqO (PySem.W.specialIn K (.builtin "object.__class__") "__get__") (some (some (.builtin "getset_descriptor.__get__")))), (fun K => decide (PySem.W.takesIn K (.builtin "object.__class__") = some true)), (fun K => decide (PySem.W.subIn K (.type "NoneType") (.ref (He.ga K "Reading")) = some false)), (fun K => decide (PySem.W.kitOne K (.type "NoneType") (.ref (He.ga K "Reading")) = some false)), (fun K => decide (PySem.W.subIn K (.type "bool") (.ref (He.ga K "Reading")) = some false)), (fun K => decide (PySem.W.kitOne K (.type "bool") (.ref (He.ga K "Reading")) = some false)), (fun K => decide (PySem.W.kitOne K (.ref (He.ga K "Reading")) (.type "bool") = some false)), (fun K => decide (PySem.W.subIn K (.type "int") (.ref (He.ga K "Reading")) = some false)), (fun K => decide (PySem.W.kitOne K (.type "int") (.ref (He.ga K "Reading")) = some false)), (fun K => decide (PySem.W.kitOne K (.ref (He.ga K "Reading")) (.type "int") = some false)), (fun K => decide (PySem.W.subIn K (.type "str") (.ref (He.ga K "Reading")) = some false)), (fun K => decide (PySem.W.kitOne K (.type "str") (.ref (He.ga K "Reading")) = some false)), (fun K => decide (PySem.W.kitOne K (.ref (He.ga K "Reading")) (.type "str") = some false)), (fun K => decide (PySem.W.subIn K (.type "list") (.ref (He.ga K "Reading")) = some false)), (fun K => decide (PySem.W.kitOne K (.type "list") (.ref (He.ga K "Reading")) = some false)), (fun K => decide (PySem.W.kitOne K (.ref (He.ga K "Reading")) (.type "list") = some false)), (fun K => decide (PySem.W.subIn K (.type "tuple") (.ref (He.ga K "Reading")) = some false)), (fun K => decide (PySem.W.kitOne K (.type "tuple") (.ref (He.ga K "Reading")) = some false))] : List (PySem.W.Frag → Bool)) ++ ([(fun K => decide (PySem.W.kitOne K (.ref (He.ga K "Reading")) (.type "tuple") = some false)), (fun K => decide (PySem.W.subIn K (.type "dict") (.ref (He.ga K "Reading")) = some false)), (fun K => decide (PySem.W.kitOne K (.type "dict") (.ref (He.ga K "Reading")) = some false)), (fun K => decide (PySem.W.kitOne K (.ref (He.ga K "Reading")) (.type "dict") = some false)), (fun K => kttS K (He.ga K "WORDS") ["stop", "part", "ahead", "toss", "beside", "only", "rename"])] : List (PySem.W.Frag → Bool))
structure Txt (K : PySem.W.Frag) (mg : Str → Option Value) : Prop where
  F_is_name : FnP K "is_name" "is_name" s_is_name [] (He.ga K "is_name")
  g_is_name : mg "is_name" = some (.ref (He.ga K "is_name"))
  F_are_unlike9 : FnP K "are_unlike" "are_unlike" s_are_unlike9 [] (He.ga K "are_unlike")
  g_are_unlike9 : mg "are_unlike" = some (.ref (He.ga K "are_unlike"))
  F_are_signs9 : FnP K "are_signs" "are_signs" s_are_signs9 [] (He.ga K "are_signs")
  g_are_signs9 : mg "are_signs" = some (.ref (He.ga K "are_signs"))
  F_is_pair9 : FnP K "is_pair" "is_pair" s_is_pair9 [] (He.ga K "is_pair")
  g_is_pair9 : mg "is_pair" = some (.ref (He.ga K "is_pair"))
  F_are_pairs9 : FnP K "are_pairs" "are_pairs" s_are_pairs9 [] (He.ga K "are_pairs")
  g_are_pairs9 : mg "are_pairs" = some (.ref (He.ga K "are_pairs"))
  F_is_part_name : FnP K "is_part_name" "is_part_name" s_is_part_name [] (He.ga K "is_part_name")
  g_is_part_name : mg "is_part_name" = some (.ref (He.ga K "is_part_name"))
  F_sign_in : FnP K "sign_in" "sign_in" s_sign_in [] (He.ga K "sign_in")
  g_sign_in : mg "sign_in" = some (.ref (He.ga K "sign_in"))
  F_signs_in : FnP K "signs_in" "signs_in" s_signs_in [] (He.ga K "signs_in")
  g_signs_in : mg "signs_in" = some (.ref (He.ga K "signs_in"))
  F_pairs_in : FnP K "pairs_in" "pairs_in" s_pairs_in [] (He.ga K "pairs_in")
  g_pairs_in : mg "pairs_in" = some (.ref (He.ga K "pairs_in"))
  F_weight_in : FnP K "weight_in" "weight_in" s_weight_in [] (He.ga K "weight_in")
  g_weight_in : mg "weight_in" = some (.ref (He.ga K "weight_in"))
  F_Reading___init__ : FnP K "__init__" "Reading.__init__" s_Reading___init__ [] (He.ma K (He.ga K "Reading") "__init__")
  F_Reading_word : FnP K "word" "Reading.word" s_Reading_word [] (He.ma K (He.ga K "Reading") "word")
  F_Reading_told : FnP K "told" "Reading.told" s_Reading_told [] (He.ma K (He.ga K "Reading") "told")
  F_Reading_next_recipe : FnP K "next_recipe" "Reading.next_recipe" s_Reading_next_recipe [] (He.ma K (He.ga K "Reading") "next_recipe")
  F_read_recipe : FnP K "read_recipe" "read_recipe" s_read_recipe [] (He.ga K "read_recipe")
  g_read_recipe : mg "read_recipe" = some (.ref (He.ga K "read_recipe"))
  F_inner_of : FnP K "inner_of" "inner_of" s_inner_of [] (He.ga K "inner_of")
  g_inner_of : mg "inner_of" = some (.ref (He.ga K "inner_of"))
  F_head_of : FnP K "head_of" "head_of" s_head_of [] (He.ga K "head_of")
  g_head_of : mg "head_of" = some (.ref (He.ga K "head_of"))
  F_words_of : FnP K "words_of" "words_of" s_words_of [] (He.ga K "words_of")
  g_words_of : mg "words_of" = some (.ref (He.ga K "words_of"))
  F_show_recipe : FnP K "show_recipe" "show_recipe" s_show_recipe [] (He.ga K "show_recipe")
  g_show_recipe : mg "show_recipe" = some (.ref (He.ga K "show_recipe"))
  F_names_of : FnP K "names_of" "names_of" s_names_of [] (He.ga K "names_of")
  g_names_of : mg "names_of" = some (.ref (He.ga K "names_of"))
  F_parts_of : FnP K "parts_of" "parts_of" s_parts_of [] (He.ga K "parts_of")
  g_parts_of : mg "parts_of" = some (.ref (He.ga K "parts_of"))
  F_Lwell : FnP K "_law_well" "_law_well" s_Lwell [] (He.ga K "_law_well")
  g_Lwell : mg "_law_well" = some (.ref (He.ga K "_law_well"))
  F_Ldraw : FnP K "_law_draw" "_law_draw" s_Ldraw [] (He.ga K "_law_draw")
  g_Ldraw : mg "_law_draw" = some (.ref (He.ga K "_law_draw"))
  F_Lone : FnP K "_law_one" "_law_one" s_Lone [] (He.ga K "_law_one")
  g_Lone : mg "_law_one" = some (.ref (He.ga K "_law_one"))
  F_Lword : FnP K "_law_word" "_law_word" s_Lword [] (He.ga K "_law_word")
  g_Lword : mg "_law_word" = some (.ref (He.ga K "_law_word"))
  F_Lunlike : FnP K "_law_unlike" "_law_unlike" s_Lunlike [] (He.ga K "_law_unlike")
  g_Lunlike : mg "_law_unlike" = some (.ref (He.ga K "_law_unlike"))
  F_Lpairs : FnP K "_law_pairs" "_law_pairs" s_Lpairs [] (He.ga K "_law_pairs")
  g_Lpairs : mg "_law_pairs" = some (.ref (He.ga K "_law_pairs"))
  F_Lweight : FnP K "_law_weight" "_law_weight" s_Lweight [] (He.ga K "_law_weight")
  g_Lweight : mg "_law_weight" = some (.ref (He.ga K "_law_weight"))
  F_Lname : FnP K "_law_name" "_law_name" s_Lname [] (He.ga K "_law_name")
  g_Lname : mg "_law_name" = some (.ref (He.ga K "_law_name"))
  F_Lrecipe : FnP K "_law_recipe" "_law_recipe" s_Lrecipe [] (He.ga K "_law_recipe")
  g_Lrecipe : mg "_law_recipe" = some (.ref (He.ga K "_law_recipe"))
  F_Lwords72 : FnP K "_law_words" "_law_words" s_Lwords72 [] (He.ga K "_law_words")
  g_Lwords72 : mg "_law_words" = some (.ref (He.ga K "_law_words"))
  F_Lnames72 : FnP K "_law_names" "_law_names" s_Lnames72 [] (He.ga K "_law_names")
  g_Lnames72 : mg "_law_names" = some (.ref (He.ga K "_law_names"))
  F_Lright72 : FnP K "_law_right" "_law_right" s_Lright72 [] (He.ga K "_law_right")
  g_Lright72 : mg "_law_right" = some (.ref (He.ga K "_law_right"))
  F_law : FnP K "law" "law" s_law [] (He.ga K "law")
  g_law : mg "law" = some (.ref (He.ga K "law"))
  g_Reading : mg "Reading" = some (.ref (He.ga K "Reading"))
  cl_Reading : Cls K (He.ga K "Reading")
  mk_Reading : Mk K (He.ga K "Reading") (He.ma K (He.ga K "Reading") "__init__")
  na_Reading_words : NoAttr K (He.ga K "Reading") "words"
  na_Reading_at : NoAttr K (He.ga K "Reading") "at"
  na_Reading_top : NoAttr K (He.ga K "Reading") "top"
  na_Reading_bottom : NoAttr K (He.ga K "Reading") "bottom"
  m_Readingword : Meth K (He.ga K "Reading") "word" (He.ma K (He.ga K "Reading") "word")
  m_Readingtold : Meth K (He.ga K "Reading") "told" (He.ma K (He.ga K "Reading") "told")
  m_Readingnext_recipe : Meth K (He.ga K "Reading") "next_recipe" (He.ma K (He.ga K "Reading") "next_recipe")
  f_all : mg "all" = none
  f_int : mg "int" = none
  f_isinstance : mg "isinstance" = none
  f_len : mg "len" = none
  f_list : mg "list" = none
  f_range : mg "range" = none
  f_repr : mg "repr" = none
  f_set : mg "set" = none
  f_sorted : mg "sorted" = none
  f_str : mg "str" = none
  f_tuple : mg "tuple" = none
  f_zip : mg "zip" = none
  k_LETTERS : ∃ t, mg "LETTERS" = some (.str "abcdefghijklmnopqrstuvwxyz" t)
  k_MOST_LETTERS : ∃ t, mg "MOST_LETTERS" = some (.int 8 t)
  k_MOST_WEIGHT : ∃ t, mg "MOST_WEIGHT" = some (.int 1000 t)
  k_WORDS : mg "WORDS" = some (.ref (He.ga K "WORDS"))
  k_FIGURES : ∃ t, mg "FIGURES" = some (.str "0123456789" t)
  k_MOST_WORDS : ∃ t, mg "MOST_WORDS" = some (.int 30 t)
  k_NONE : ∃ t, mg "NONE" = some (.str "-" t)
  obj_Reading : PySem.W.mroIn K (He.ga K "Reading") (.type "object") = some true
  ia_Reading : PySem.W.findIn K (.ref (He.ga K "Reading")) "__class__" = some (some (.builtin "object.__class__"))
  ig_Reading : PySem.W.specialIn K (.builtin "object.__class__") "__get__" = some (some (.builtin "getset_descriptor.__get__"))
  it_Reading : PySem.W.takesIn K (.builtin "object.__class__") = some true
  nf_Reading_NoneType : PySem.W.subIn K (.type "NoneType") (.ref (He.ga K "Reading")) = some false
  kit_Reading_NoneType : PySem.W.kitOne K (.type "NoneType") (.ref (He.ga K "Reading")) = some false
  nf_Reading_bool : PySem.W.subIn K (.type "bool") (.ref (He.ga K "Reading")) = some false
  kit_Reading_bool : PySem.W.kitOne K (.type "bool") (.ref (He.ga K "Reading")) = some false
  tik_Reading_bool : PySem.W.kitOne K (.ref (He.ga K "Reading")) (.type "bool") = some false
  nf_Reading_int : PySem.W.subIn K (.type "int") (.ref (He.ga K "Reading")) = some false
  kit_Reading_int : PySem.W.kitOne K (.type "int") (.ref (He.ga K "Reading")) = some false
  tik_Reading_int : PySem.W.kitOne K (.ref (He.ga K "Reading")) (.type "int") = some false
  nf_Reading_str : PySem.W.subIn K (.type "str") (.ref (He.ga K "Reading")) = some false
  kit_Reading_str : PySem.W.kitOne K (.type "str") (.ref (He.ga K "Reading")) = some false
  tik_Reading_str : PySem.W.kitOne K (.ref (He.ga K "Reading")) (.type "str") = some false
  nf_Reading_list : PySem.W.subIn K (.type "list") (.ref (He.ga K "Reading")) = some false
  kit_Reading_list : PySem.W.kitOne K (.type "list") (.ref (He.ga K "Reading")) = some false
  tik_Reading_list : PySem.W.kitOne K (.ref (He.ga K "Reading")) (.type "list") = some false
  nf_Reading_tuple : PySem.W.subIn K (.type "tuple") (.ref (He.ga K "Reading")) = some false
  kit_Reading_tuple : PySem.W.kitOne K (.type "tuple") (.ref (He.ga K "Reading")) = some false
  tik_Reading_tuple : PySem.W.kitOne K (.ref (He.ga K "Reading")) (.type "tuple") = some false
  nf_Reading_dict : PySem.W.subIn K (.type "dict") (.ref (He.ga K "Reading")) = some false
  kit_Reading_dict : PySem.W.kitOne K (.type "dict") (.ref (He.ga K "Reading")) = some false
  tik_Reading_dict : PySem.W.kitOne K (.ref (He.ga K "Reading")) (.type "dict") = some false
  kt_WORDS : KtS K (He.ga K "WORDS") ["stop", "part", "ahead", "toss", "beside", "only", "rename"]
theorem txt_of {K : PySem.W.Frag} {h : Heap} {mg : Str → Option Value} (KX : K.In h) (G : h.Ns mainGlobals mg) (c : SaysF fa fn exs K) : Txt K mg :=
  { F_is_name := (fdOf_ok (c.def_ 0 (d := d_is_name) rfl)),
    g_is_name := (He.glo_ok KX G (c.fact 0 rfl)),
    F_are_unlike9 := (fdOf_ok (c.def_ 1 (d := d_are_unlike9) rfl)),
    g_are_unlike9 := (He.glo_ok KX G (c.fact 1 rfl)),
    F_are_signs9 := (fdOf_ok (c.def_ 2 (d := d_are_signs9) rfl)),
    g_are_signs9 := (He.glo_ok KX G (c.fact 2 rfl)),
    F_is_pair9 := (fdOf_ok (c.def_ 3 (d := d_is_pair9) rfl)),
    g_is_pair9 := (He.glo_ok KX G (c.fact 3 rfl)),
    F_are_pairs9 := (fdOf_ok (c.def_ 4 (d := d_are_pairs9) rfl)),
    g_are_pairs9 := (He.glo_ok KX G (c.fact 4 rfl)),
    F_is_part_name := (fdOf_ok (c.def_ 5 (d := d_is_part_name) rfl)),
    g_is_part_name := (He.glo_ok KX G (c.fact 5 rfl)),
    F_sign_in := (fdOf_ok (c.def_ 6 (d := d_sign_in) rfl)),
    g_sign_in := (He.glo_ok KX G (c.fact 6 rfl)),
    F_signs_in := (fdOf_ok (c.def_ 7 (d := d_signs_in) rfl)),
    g_signs_in := (He.glo_ok KX G (c.fact 7 rfl)),
    F_pairs_in := (fdOf_ok (c.def_ 8 (d := d_pairs_in) rfl)),
    g_pairs_in := (He.glo_ok KX G (c.fact 8 rfl)),
    F_weight_in := (fdOf_ok (c.def_ 9 (d := d_weight_in) rfl)),
    g_weight_in := (He.glo_ok KX G (c.fact 9 rfl)),
    F_Reading___init__ := (fdOf_ok (c.def_ 10 (d := d_Reading___init__) rfl)),
    F_Reading_word := (fdOf_ok (c.def_ 11 (d := d_Reading_word) rfl)),
    F_Reading_told := (fdOf_ok (c.def_ 12 (d := d_Reading_told) rfl)),
    F_Reading_next_recipe := (fdOf_ok (c.def_ 13 (d := d_Reading_next_recipe) rfl)),
    F_read_recipe := (fdOf_ok (c.def_ 14 (d := d_read_recipe) rfl)),
    g_read_recipe := (He.glo_ok KX G (c.fact 10 rfl)),
    F_inner_of := (fdOf_ok (c.def_ 15 (d := d_inner_of) rfl)),
    g_inner_of := (He.glo_ok KX G (c.fact 11 rfl)),
    F_head_of := (fdOf_ok (c.def_ 16 (d := d_head_of) rfl)),
    g_head_of := (He.glo_ok KX G (c.fact 12 rfl)),
    F_words_of := (fdOf_ok (c.def_ 17 (d := d_words_of) rfl)),
    g_words_of := (He.glo_ok KX G (c.fact 13 rfl)),
    F_show_recipe := (fdOf_ok (c.def_ 18 (d := d_show_recipe) rfl)),
    g_show_recipe := (He.glo_ok KX G (c.fact 14 rfl)),
    F_names_of := (fdOf_ok (c.def_ 19 (d := d_names_of) rfl)),
    g_names_of := (He.glo_ok KX G (c.fact 15 rfl)),
    F_parts_of := (fdOf_ok (c.def_ 20 (d := d_parts_of) rfl)),
    g_parts_of := (He.glo_ok KX G (c.fact 16 rfl)),
    F_Lwell := (fdOf_ok (c.def_ 21 (d := d_Lwell) rfl)),
    g_Lwell := (He.glo_ok KX G (c.fact 17 rfl)),
    F_Ldraw := (fdOf_ok (c.def_ 22 (d := d_Ldraw) rfl)),
    g_Ldraw := (He.glo_ok KX G (c.fact 18 rfl)),
    F_Lone := (fdOf_ok (c.def_ 23 (d := d_Lone) rfl)),
    g_Lone := (He.glo_ok KX G (c.fact 19 rfl)),
    F_Lword := (fdOf_ok (c.def_ 24 (d := d_Lword) rfl)),
    g_Lword := (He.glo_ok KX G (c.fact 20 rfl)),
    F_Lunlike := (fdOf_ok (c.def_ 25 (d := d_Lunlike) rfl)),
    g_Lunlike := (He.glo_ok KX G (c.fact 21 rfl)),
    F_Lpairs := (fdOf_ok (c.def_ 26 (d := d_Lpairs) rfl)),
    g_Lpairs := (He.glo_ok KX G (c.fact 22 rfl)),
    F_Lweight := (fdOf_ok (c.def_ 27 (d := d_Lweight) rfl)),
    g_Lweight := (He.glo_ok KX G (c.fact 23 rfl)),
    F_Lname := (fdOf_ok (c.def_ 28 (d := d_Lname) rfl)),
    g_Lname := (He.glo_ok KX G (c.fact 24 rfl)),
    F_Lrecipe := (fdOf_ok (c.def_ 29 (d := d_Lrecipe) rfl)),
    g_Lrecipe := (He.glo_ok KX G (c.fact 25 rfl)),
    F_Lwords72 := (fdOf_ok (c.def_ 30 (d := d_Lwords72) rfl)),
    g_Lwords72 := (He.glo_ok KX G (c.fact 26 rfl)),
    F_Lnames72 := (fdOf_ok (c.def_ 31 (d := d_Lnames72) rfl)),
    g_Lnames72 := (He.glo_ok KX G (c.fact 27 rfl)),
    F_Lright72 := (fdOf_ok (c.def_ 32 (d := d_Lright72) rfl)),
    g_Lright72 := (He.glo_ok KX G (c.fact 28 rfl)),
    F_law := (fdOf_ok (c.def_ 33 (d := d_law) rfl)),
    g_law := (He.glo_ok KX G (c.fact 29 rfl)),
    g_Reading := (He.glo_ok KX G (c.fact 30 rfl)),
    cl_Reading := (He.cls_ok (c.fact 31 rfl)),
    mk_Reading := (He.mkr_ok (c.fact 32 rfl)),
    na_Reading_words := (He.noat_ok (c.fact 33 rfl)),
    na_Reading_at := (He.noat_ok (c.fact 34 rfl)),
    na_Reading_top := (He.noat_ok (c.fact 35 rfl)),
    na_Reading_bottom := (He.noat_ok (c.fact 36 rfl)),
    m_Readingword := (He.meth_ok (c.fact 37 rfl)),
    m_Readingtold := (He.meth_ok (c.fact 38 rfl)),
    m_Readingnext_recipe := (He.meth_ok (c.fact 39 rfl)),
    f_all := (He.free_ok KX G (c.fact 40 rfl)),
    f_int := (He.free_ok KX G (c.fact 41 rfl)),
    f_isinstance := (He.free_ok KX G (c.fact 42 rfl)),
    f_len := (He.free_ok KX G (c.fact 43 rfl)),
    f_list := (He.free_ok KX G (c.fact 44 rfl)),
    f_range := (He.free_ok KX G (c.fact 45 rfl)),
    f_repr := (He.free_ok KX G (c.fact 46 rfl)),
    f_set := (He.free_ok KX G (c.fact 47 rfl)),
    f_sorted := (He.free_ok KX G (c.fact 48 rfl)),
    f_str := (He.free_ok KX G (c.fact 49 rfl)),
    f_tuple := (He.free_ok KX G (c.fact 50 rfl)),
    f_zip := (He.free_ok KX G (c.fact 51 rfl)),
    k_LETTERS := (He.str_ok KX G (c.fact 52 rfl)),
    k_MOST_LETTERS := (He.int_ok KX G (c.fact 53 rfl)),
    k_MOST_WEIGHT := (He.int_ok KX G (c.fact 54 rfl)),
    k_WORDS := (He.glo_ok KX G (c.fact 55 rfl)),
    k_FIGURES := (He.str_ok KX G (c.fact 56 rfl)),
    k_MOST_WORDS := (He.int_ok KX G (c.fact 57 rfl)),
    k_NONE := (He.str_ok KX G (c.fact 58 rfl)),
    obj_Reading := (of_decide_eq_true (c.ex_ 0 rfl)),
    ia_Reading := (He.eqO_ok (c.ex_ 1 rfl)),
    ig_Reading := (He.eqO_ok (c.ex_ 2 rfl)),
    it_Reading := (of_decide_eq_true (c.ex_ 3 rfl)),
    nf_Reading_NoneType := (of_decide_eq_true (c.ex_ 4 rfl)),
    kit_Reading_NoneType := (of_decide_eq_true (c.ex_ 5 rfl)),
    nf_Reading_bool := (of_decide_eq_true (c.ex_ 6 rfl)),
    kit_Reading_bool := (of_decide_eq_true (c.ex_ 7 rfl)),
    tik_Reading_bool := (of_decide_eq_true (c.ex_ 8 rfl)),
    nf_Reading_int := (of_decide_eq_true (c.ex_ 9 rfl)),
    kit_Reading_int := (of_decide_eq_true (c.ex_ 10 rfl)),
    tik_Reading_int := (of_decide_eq_true (c.ex_ 11 rfl)),
    nf_Reading_str := (of_decide_eq_true (c.ex_ 12 rfl)),
    kit_Reading_str := (of_decide_eq_true (c.ex_ 13 rfl)),
    tik_Reading_str := (of_decide_eq_true (c.ex_ 14 rfl)),
    nf_Reading_list := (of_decide_eq_true (c.ex_ 15 rfl)),
    kit_Reading_list := (of_decide_eq_true (c.ex_ 16 rfl)),
    tik_Reading_list := (of_decide_eq_true (c.ex_ 17 rfl)),
    nf_Reading_tuple := (of_decide_eq_true (c.ex_ 18 rfl)),
    kit_Reading_tuple := (of_decide_eq_true (c.ex_ 19 rfl)),
    tik_Reading_tuple := (of_decide_eq_true (c.ex_ 20 rfl)),
    nf_Reading_dict := (of_decide_eq_true (c.ex_ 21 rfl)),
    kit_Reading_dict := (of_decide_eq_true (c.ex_ 22 rfl)),
    tik_Reading_dict := (of_decide_eq_true (c.ex_ 23 rfl)),
    kt_WORDS := (kttS_ok (c.ex_ 24 rfl)) }
abbrev R : PySem.W.OpenRow := PySem.W.OpenLaw.row PySem.Challenge.rw_farbetween_k72_recipes_as_texts
abbrev hk : PySem.W.Hook := hookF 5 fa fn exs
def ob (s : PySem.W.SharedT) : AlF := obsFG 5 fa fn exs (HandSHeadRun.getT s)
theorem ob_eq (s : PySem.W.SharedT) : ob s = hk.obs s.abs := obsFG_eq (HandSHeadRun.getT_eq s)
def loose : List Str := (["FarError", "NoText", "Reading", "is_name", "are_unlike", "are_signs", "is_pair", "are_pairs", "is_part_name", "sign_in", "signs_in", "pairs_in", "weight_in", "read_recipe", "inner_of", "head_of", "words_of", "show_recipe", "names_of", "parts_of", "_law_cell_at", "_law_well", "_law_draw", "_law_one", "_law_word", "_law_unlike", "_law_pairs", "_law_weight", "_law_name", "_law_recipe"] : List Str) ++ (["_law_words", "_law_names", "_law_right", "LETTERS", "MOST_LETTERS", "MOST_WEIGHT", "WORDS", "FIGURES", "MOST_WORDS", "NONE"] : List Str)
theorem run (w : World) : HandSHeadRun.RunEq R (PySem.W.view R.prog [45]) hk ob 6000 loose w := by
  intro os
  kernel_rfl
end Lw
--HEAD--
namespace Pw
open PySem PySem.Spec PySem.Calls PyProof.Rows L2
open Evl (Ex ex_l ex_t fresh_back)
section
variable {T : Cfg} {W : WX} {ρ : List (Option D)} {m0 : Mu} {XP : XW} {K : Out → Prop} {te : TE} {P : D → Mu → Prop} {μ : Mu}
theorem RepL.rep {Hb : Hp} {d : D} {v : V} (r : Rep T Hb d v) : ∀ n : Nat, RepL T Hb (List.replicate n d) (List.replicate n v)
  | 0 => .nil
  | n + 1 => .cons r (RepL.rep r n)
theorem ov_catA {ds es : List D} (hl : ds.length + es.length ≤ 100000) (p : P (.tup (ds ++ es)) μ) : OV T (rCatA T.K) (.tup ds) (.tup es) μ P := fun x y Hb H Q ex sm rx ry q => by
  obtain ⟨a, xs, rfl, hx, r⟩ := id rx.tup_inv
  obtain ⟨b, ys, rfl, hy, r'⟩ := id ry.tup_inv
  refine ⟨a, b, xs, ys, rfl, rfl, ex_t ex hx, ex_t ex hy, by rw [← r.1, ← r'.1]; exact Evl.sz_of hl, fun e => ?_, fun _ e => ?_, fun _ _ p' hp => ?_⟩
  · subst e
    have : ds = [] := List.eq_nil_of_length_eq_zero (by simpa using r.1)
    subst this
    exact q _ _ _ _ _ (.refl ex sm) ry p
  · subst e
    have : es = [] := List.eq_nil_of_length_eq_zero (by simpa using r'.1)
    subst this
    rw [List.append_nil] at p
    exact q _ _ _ _ _ (.refl ex sm) rx p
  · have g := Go.lay ex sm (o := .tup (xs ++ ys)) hp
    have r2 := (r.app r').mono g.ex
    exact q _ _ _ _ _ g (.tup (.inl (.inl upd_same)) r2.1 r2.2) p
end
open PySem PySem.Spec PyProof.Rows L2
section
variable {T : Cfg} {W : WX} {ρ : List (Option D)} {m0 : Mu} {XP : XW} {K : Out → Prop} {te : TE} {ta : TA} {P : D → Mu → Prop} {μ : Mu} {E : XK}
theorem Sim.fr {r : List (Option D)} {m m' : Mu} {σ : L2.St} {Hb H : Hp} (S : Sim T ⟨r, m⟩ σ Hb H) (h : SimMu T m' Hb H) : Sim T ⟨r, m'⟩ σ Hb H := ⟨S.len, S.vars, S.sub, h⟩
theorem ev_fgt0 (h : EV T te W ⟨ρ, m0⟩ (fun d _ => P d mu0) XP) : EV T te W ⟨ρ, m0⟩ P XP := fun σ Hb H Q S q x => h σ Hb H Q S (fun d μ v Hb' H' g r p => q d mu0 v Hb' H' (g.forget sub_nil) r p) x
end
def bkTys : List String := ["NoneType", "bool", "int", "str", "list", "tuple", "dict"]
def rSplitS : V → List V → Hp → VK → Prop := fun x xs H Q => ∃ a b, x = .str a ∧ xs = [.str b] ∧ (b.length == 0) = false ∧ a.length + 2 ≤ sizeLine ∧ rNewStrs (Txt.split a b) H Q
abbrev tSplitS (to te : TE) : TE := tM1 rSplitS to te
def rJoinS (K : PySem.W.Frag) : V → List V → Hp → VK → Prop := fun x xs H Q => ∃ a p, ∃ ys : List Str, x = .str a ∧ xs = [.ref p] ∧ (SqL K H p (ys.map V.str) ∨ SqT K H p (ys.map V.str)) ∧ (ys.map (·.length)).sum + ys.length * a.length ≤ 16777216 ∧ Q (.str (Txt.join a ys)) H
abbrev tJoinS (K : PySem.W.Frag) (to te : TE) : TE := tM1 (rJoinS K) to te
abbrev rIntS : List V → Hp → VK → Prop := fun xs H Q => ∃ a n, xs = [.str a] ∧ PySem.intText? a = some n ∧ a.length ≤ 640 ∧ Q (.int n) H
section
variable {T : Cfg} {W : WX} {ρ : List (Option D)} {m0 : Mu} {P : D → Mu → Prop} {XP : XW} {ta te : TE} {μ : Mu}
theorem strs_rep {Hb : Hp} : ∀ ys : List Str, RepL T Hb (ys.map D.str) (ys.map V.str) := by
  intro ys
  induction ys with
  | nil => exact .nil
  | cons y ys ih => exact .cons (.str y) ih
theorem strs_of {Hb : Hp} : ∀ {ys : List Str} {xs : List V}, RepL T Hb (ys.map D.str) xs → xs = ys.map V.str := by
  intro ys
  induction ys with
  | nil => intro xs r; exact r.nil_inv
  | cons y ys ih =>
    intro xs r
    obtain ⟨v, zs, rfl, rv, rz⟩ := RepL.cons_inv (d := D.str y) (ds := ys.map D.str) r
    cases rv
    rw [ih rz]
    rfl
theorem ev_split (h : EV T ta W ⟨ρ, m0⟩ (fun d μ1 => ∃ a, d = .str a ∧ EV T te W ⟨ρ, μ1⟩ (fun e μ2 => ∃ b, e = .str b ∧ (b.length == 0) = false ∧ a.length + 2 ≤ sizeLine ∧ P (.lst ((Txt.split a b).map D.str)) μ2) XP) XP) : EV T (tSplitS ta te) W ⟨ρ, m0⟩ P XP := fun σ Hb H Q S q x =>
  h σ Hb H _ S (fun d μ1 v Hb1 H1 g1 r1 p1 => by
    obtain ⟨a, rfl, p1⟩ := p1
    cases r1
    exact ⟨⟨a, rfl⟩, p1 σ Hb1 H1 _ (S.go g1) (fun e μ2 w Hb2 H2 g2 r2 p2 => by
      obtain ⟨b, rfl, hb, ha, p⟩ := p2
      cases r2
      refine ⟨a, b, rfl, rfl, hb, ha, fun l hl => ?_⟩
      have g := Go.lay g2.sub g2.mu (o := .lst ((Txt.split a b).map V.str)) hl
      have rr := strs_rep (T := T) (Hb := upd Hb2 l (.lst ((Txt.split a b).map V.str))) (Txt.split a b)
      exact q _ _ _ _ _ ((g1.trans g2).trans g) (.lst upd_same rr.1 rr.2) p)
      (fun y μ' cls dd Hb' H' g r p => x y μ' cls dd Hb' H' (g1.trans g) r p)⟩) x
theorem ev_joinS (h : EV T ta W ⟨ρ, m0⟩ (fun d μ1 => ∃ a, d = .str a ∧ EV T te W ⟨ρ, μ1⟩ (fun e μ2 => ∃ ys : List Str, Seqd e (ys.map D.str) ∧ (ys.map (·.length)).sum + ys.length * a.length ≤ 16777216 ∧ P (.str (Txt.join a ys)) μ2) XP) XP) : EV T (tJoinS T.K ta te) W ⟨ρ, m0⟩ P XP := fun σ Hb H Q S q x =>
  h σ Hb H _ S (fun d μ1 v Hb1 H1 g1 r1 p1 => by
    obtain ⟨a, rfl, p1⟩ := p1
    cases r1
    exact ⟨⟨a, rfl⟩, p1 σ Hb1 H1 _ (S.go g1) (fun e μ2 w Hb2 H2 g2 r2 p2 => by
      obtain ⟨ys, hs, hl, p⟩ := p2
      obtain ⟨l, xs, rfl, hx, rx⟩ := hs.inv r2
      rw [strs_of rx] at hx
      exact ⟨a, l, ys, rfl, rfl, .inl (ex_l g2.sub hx), hl, q _ _ _ _ _ (g1.trans g2) (.str _) p⟩)
      (fun y μ' cls dd Hb' H' g r p => x y μ' cls dd Hb' H' (g1.trans g) r p)⟩) x
theorem cv_intS {a : Str} {n : Int} (h : PySem.intText? a = some n) (hl : a.length ≤ 640) (p : P (.int n) μ) : CV T rIntS [.str a] μ P := cv_of (fun xs Hb H Q ex r q => by
  obtain ⟨v, rfl, r1⟩ := one_inv r
  cases r1
  exact ⟨a, n, rfl, h, hl, q _ (.int n)⟩) p
end
end Pw
namespace Far
open PySem PySem.Spec PyProof.Rows L2 Pw
def nuS (n : Nat) : Str := Str.ofString (toString ((n : Nat) : Int))
theorem nuS_tl (n : Nat) : (nuS n).cps.toList = TL.numL n := TL.tl_num n
theorem nuS_len (n : Nat) : (nuS n).length = (TL.numL n).length := by
  rw [← nuS_tl, Array.length_toList]
  rfl
theorem numL_pos (n : Nat) : 1 ≤ (TL.numL n).length := List.length_pos_iff.2 (TL.numL_ne n)
theorem numL_head {n : Nat} (h : n ≠ 0) : ∀ c l, TL.numL n = c :: l → c ≠ 48 := by
  induction n using Nat.strongRecOn with
  | _ n ih =>
    intro c l e
    by_cases h10 : n < 10
    · rw [TL.numL_lt h10] at e
      cases e
      omega
    · rw [TL.numL_step (by omega)] at e
      cases hq : TL.numL (n / 10) with
      | nil => exact absurd hq (TL.numL_ne _)
      | cons d r =>
        rw [hq] at e
        cases e
        exact ih (n / 10) (by omega) (by omega) _ _ hq
theorem nuS_int {n : Nat} (h : (TL.numL n).length ≤ 640) : PySem.intText? (nuS n) = some (n : Int) := TL.int_num (by omega)
theorem numL_lt {n k : Nat} (h : (TL.numL n).length ≤ k) : n < 10 ^ k := by
  induction k generalizing n with
  | zero => have := numL_pos n; omega
  | succ k ih =>
    by_cases h10 : n < 10
    · exact Nat.lt_of_lt_of_le h10 (by rw [Nat.pow_succ]; have := Nat.pow_pos (n := k) (show 0 < 10 by decide); omega)
    · rw [TL.numL_step (by omega), List.length_append] at h
      have := ih (n := n / 10) (by simpa using h)
      rw [Nat.pow_succ]
      omega
def figS : Str := "0123456789"
theorem fig_abc : ∀ c, 48 ≤ c → c ≤ 57 → c ∈ figS.cps.toList := by
  intro c h1 h2
  have : c = 48 ∨ c = 49 ∨ c = 50 ∨ c = 51 ∨ c = 52 ∨ c = 53 ∨ c = 54 ∨ c = 55 ∨ c = 56 ∨ c = 57 := by omega
  rcases this with rfl | rfl | rfl | rfl | rfl | rfl | rfl | rfl | rfl | rfl <;> decide +kernel
end Far
namespace Pw
open PySem PySem.Spec PyProof.Rows L2
theorem fn_none {P : Program} {w : World} {K : PySem.W.Frag} {mg : Str → Option Value} {base : PySem.Heap} {CX : CXT} {k : Nat} {f : Addr} {fd : FuncData} {ps : List Str} {sp : Sp} (h : ∀ vs H Q E, sp vs H Q E → False) : FnOk P w K mg base CX k f fd ps sp :=
  ⟨fun vs H Q E z => (h vs H Q E z).elim, fun A outer s H args us vs Q E _ _ _ _ z => (h vs H Q E z).elim⟩
theorem sp_none {T : Cfg} {c : Ct} {vs : List V} {H : Hp} {Q : VK} {E : XK} (h : ∀ ds μ P XP, c ds μ P XP → False) (z : spOf T c vs H Q E) : False := by
  obtain ⟨ds, μ, Hb, P, XP, _, _, _, hc, _⟩ := z
  exact h ds μ P XP hc
section
variable {T : Cfg} {W : WX} {ρ : List (Option D)} {m0 : Mu} {P : D → Mu → Prop} {XP : XW} {K : Out → Prop}
theorem ov_ninT {z : Str} {zs : List Str} {μ : Mu} (p : P (.bl (!decide (z ∈ zs))) μ) : OV T (rIn T.K true) (.str z) (.tup (zs.map D.str)) μ P := ov_of (fun x y Hb H Q ex rx ry q => by
  cases rx
  obtain ⟨a, xs, rfl, hx, r⟩ := ry.tup_inv
  obtain rfl := strs_inv r
  refine ⟨a, _, rfl, .inr (Evl.ex_t ex hx), rfl, ?_, ?_⟩
  · rw [List.all_eq_true]
    intro v hv
    obtain ⟨s, _, rfl⟩ := List.mem_map.1 hv
    rfl
  · show Q (.bl (if true = true then !inV (.str z) (zs.map V.str) else _)) H
    rw [if_pos rfl, inV_strs]
    exact q _ (.bl _)) p
theorem ev_ktS {a : Addr} {xs : List Str} (h : KtS T.K a xs) (p : P (.tup (xs.map D.str)) m0) : EV T (tC (.ref a)) W ⟨ρ, m0⟩ P XP := fun σ Hb H Q S q x => by
  have r : RepL T Hb (xs.map D.str) (xs.map V.str) := strs_rep xs
  exact q _ _ _ _ _ S.refl (.tup (.inr h) r.1 r.2) p
theorem sv_faug {ta tv : TE} {r : R2} {f : Str} (h : EV T ta W ⟨ρ, m0⟩ (fun d μ1 => ∃ a c gs e, d = .ptr a ∧ μ1 a = some (.ins c gs) ∧ Cls T.K (T.cls c) ∧ NoAttr T.K (T.cls c) f ∧ gs.lookup f = some e ∧ EV T tv W ⟨ρ, μ1⟩ (fun e' μ2 => OV T r e e' μ2 (fun z μ3 => ∃ gs', μ3 a = some (.ins c gs') ∧ gs'.length < 1000 ∧ K (.nx ⟨ρ, put μ3 a (.ins c (putG f z gs'))⟩))) (xk ⟨ρ, m0⟩ K)) (xk ⟨ρ, m0⟩ K)) : SV T (sFldAug T.K ta tv r f) W ⟨ρ, m0⟩ K := fun σ Hb H Dn S c =>
  h σ Hb H _ S (fun d μ1 v Hb1 H1 g1 r1 p1 => by
    obtain ⟨a, cc, gs, e, rfl, hm, hc, hn, hl, p⟩ := p1
    cases r1
    obtain ⟨n, o, ho, r0⟩ := g1.mu a _ hm
    cases o with
    | ins C dx fs =>
      obtain ⟨rfl, r0⟩ := r0
      obtain ⟨u, hu, ru⟩ := r0.look hl
      refine ⟨a, T.cls cc, dx, fs, u, rfl, ho, hc, hn, hu, ?_⟩
      refine p σ Hb1 H1 _ (S.go g1) (fun e' μ2 w Hb2 H2 g2 r2 p2 => ?_) (fun x μ' cls dd Hb' H' g r k => c.x S x μ' cls dd Hb' H' (g1.trans g) r k)
      refine p2 u w Hb2 H2 _ g2.sub g2.mu (ru.mono g2.ex) r2 fun z μ3 y Hb3 H3 g3 r3 p3 => ?_
      obtain ⟨gs', hm3, hl3, k⟩ := p3
      obtain ⟨n3, o3, ho3, r4⟩ := g3.mu a _ hm3
      cases o3 with
      | ins C3 dx3 fs3 =>
        obtain ⟨rfl, r4⟩ := r4
        have hz : fs3.length < 1000 := by
          have := congrArg List.length r4.1
          simp at this
          omega
        have g4 := Go.chg g3.sub g3.mu (p := a) (o := .ins (T.cls cc) dx3 (putF f y fs3)) (z := .ins cc (putG f z gs')) hm3 ⟨rfl, putF_rep r4 r3⟩
        have g := ((g1.trans g2).trans g3).trans g4
        exact ⟨dx3, fs3, ho3, hz, c.nx _ _ _ _ g (S.go g) k⟩
      | _ => exact r4.elim
    | _ => exact r0.elim) (c.x S)
end
end Pw
namespace Far
open PySem PySem.Spec PyProof.Rows L2 Pw
inductive Rcp
  | stop
  | part (x : Str)
  | ahead (a : Str) (r : Rcp)
  | toss (a : Str) (k l : Nat) (r s : Rcp)
  | beside (as : List Str) (r s : Rcp)
  | only (as : List Str) (r : Rcp)
  | rename (ps : List (Str × Str)) (r : Rcp)
def strsT (as : List Str) : D := .tup (as.map D.str)
def rpT (p : Str × Str) : D := .tup [.str p.1, .str p.2]
def rcD : Rcp → D
  | .stop => .tup [.str "stop"]
  | .part x => .tup [.str "part", .str x]
  | .ahead a r => .tup [.str "ahead", .str a, rcD r]
  | .toss a k l r s => .tup [.str "toss", .str a, .tup [.int (k : Int), .int (l : Int)], rcD r, rcD s]
  | .beside as r s => .tup [.str "beside", strsT as, rcD r, rcD s]
  | .only as r => .tup [.str "only", strsT as, rcD r]
  | .rename ps r => .tup [.str "rename", .tup (ps.map rpT), rcD r]
def arrW (p : Str × Str) : Str := Txt.join ">" [p.1, p.2]
def sgW (as : List Str) : Str := if as = [] then "-" else Txt.join "," as
def prW (ps : List (Str × Str)) : Str := if ps = [] then "-" else Txt.join "," (ps.map arrW)
def hdW : Rcp → List Str
  | .stop => ["stop"]
  | .part x => [x]
  | .ahead a _ => ["ahead", a]
  | .toss a k l _ _ => ["toss", a, nuS k, nuS l]
  | .beside as _ _ => ["beside", sgW as]
  | .only as _ => ["only", sgW as]
  | .rename ps _ => ["rename", prW ps]
def innR : Rcp → List Rcp
  | .stop => []
  | .part _ => []
  | .ahead _ r => [r]
  | .toss _ _ _ r s => [r, s]
  | .beside _ r s => [r, s]
  | .only _ r => [r]
  | .rename _ r => [r]
def wdsR : Rcp → List Str
  | .stop => ["stop"]
  | .part x => [x]
  | .ahead a r => "ahead" :: a :: wdsR r
  | .toss a k l r s => "toss" :: a :: nuS k :: nuS l :: (wdsR r ++ wdsR s)
  | .beside as r s => "beside" :: sgW as :: (wdsR r ++ wdsR s)
  | .only as r => "only" :: sgW as :: wdsR r
  | .rename ps r => "rename" :: prW ps :: wdsR r
def nmsR : Rcp → List Str
  | .stop => []
  | .part x => [x]
  | .ahead _ r => nmsR r
  | .toss _ _ _ r s => nmsR r ++ nmsR s
  | .beside _ r s => nmsR r ++ nmsR s
  | .only _ r => nmsR r
  | .rename _ r => nmsR r
def htR : Rcp → Nat
  | .stop => 1
  | .part _ => 1
  | .ahead _ r => htR r + 1
  | .toss _ _ _ r s => max (htR r) (htR s) + 1
  | .beside _ r s => max (htR r) (htR s) + 1
  | .only _ r => htR r + 1
  | .rename _ r => htR r + 1
def sevens : List Str := ["stop", "part", "ahead", "toss", "beside", "only", "rename"]
structure SgsOk (as : List Str) : Prop where
  nd : as.Nodup
  nm : ∀ x ∈ as, nmB x = true
  ln : as.length ≤ 100
structure PrsOk (ps : List (Str × Str)) : Prop where
  n1 : (ps.map (·.1)).Nodup
  n2 : (ps.map (·.2)).Nodup
  nm : ∀ p ∈ ps, nmB p.1 = true ∧ nmB p.2 = true
  ln : ps.length ≤ 100
def okR : Rcp → Prop
  | .stop => True
  | .part x => nmB x = true ∧ x ∉ sevens
  | .ahead a r => nmB a = true ∧ okR r
  | .toss a k l r s => nmB a = true ∧ (1 ≤ k ∧ k ≤ 1000) ∧ (1 ≤ l ∧ l ≤ 1000) ∧ okR r ∧ okR s
  | .beside as r s => SgsOk as ∧ okR r ∧ okR s
  | .only as r => SgsOk as ∧ okR r
  | .rename ps r => PrsOk ps ∧ okR r
theorem ht_pos (r : Rcp) : 1 ≤ htR r := by cases r <;> simp [htR]
theorem ht_le : ∀ r : Rcp, htR r ≤ (wdsR r).length
  | .stop => Nat.le_refl _
  | .part _ => Nat.le_refl _
  | .ahead _ r => by have := ht_le r; simp only [htR, wdsR, List.length_cons]; omega
  | .toss _ _ _ r s => by have := ht_le r; have := ht_le s; simp only [htR, wdsR, List.length_cons, List.length_append]; omega
  | .beside _ r s => by have := ht_le r; have := ht_le s; simp only [htR, wdsR, List.length_cons, List.length_append]; omega
  | .only _ r => by have := ht_le r; simp only [htR, wdsR, List.length_cons]; omega
  | .rename _ r => by have := ht_le r; simp only [htR, wdsR, List.length_cons]; omega
theorem wds_eq (r : Rcp) : wdsR r = hdW r ++ (innR r).flatMap wdsR := by cases r <;> simp [wdsR, hdW, innR]
theorem nms_eq (r : Rcp) : nmsR r = (match r with | .part x => [x] | _ => []) ++ (innR r).flatMap nmsR := by cases r <;> simp [nmsR, innR]
theorem inn_ht {r s : Rcp} (h : s ∈ innR r) : htR s < htR r := by
  cases r <;> simp only [innR, List.mem_cons, List.not_mem_nil, or_false] at h <;> simp only [htR] <;> first | (rcases h with rfl | rfl <;> omega) | (subst h; omega) | exact h.elim
theorem inn_ok {r s : Rcp} (k : okR r) (h : s ∈ innR r) : okR s := by
  cases r <;> simp only [innR, List.mem_cons, List.not_mem_nil, or_false] at h <;> simp only [okR] at k
  · subst h; exact k.2
  · rcases h with rfl | rfl
    · exact k.2.2.2.1
    · exact k.2.2.2.2
  · rcases h with rfl | rfl
    · exact k.2.1
    · exact k.2.2
  · subst h; exact k.2
  · subst h; exact k.2
theorem inn_wds {r s : Rcp} (h : s ∈ innR r) : (wdsR s).length < (wdsR r).length := by
  cases r <;> simp only [innR, List.mem_cons, List.not_mem_nil, or_false] at h <;> simp only [wdsR, List.length_cons, List.length_append] <;> first | (rcases h with rfl | rfl <;> omega) | (subst h; omega) | exact h.elim
theorem nm_no {x : Str} (h : nmB x = true) {c : Nat} (hc : c ∉ abc.cps.toList) : c ∉ x.cps.toList := fun hm => by
  unfold nmB at h
  rw [Bool.and_eq_true, Bool.and_eq_true] at h
  exact hc (of_decide_eq_true (List.all_eq_true.1 h.2.2 c hm))
theorem nm_len8 {x : Str} (h : nmB x = true) : 1 ≤ x.length ∧ x.length ≤ 8 := by
  unfold nmB at h
  rw [Bool.and_eq_true, Bool.and_eq_true] at h
  exact ⟨of_decide_eq_true h.1, of_decide_eq_true h.2.1⟩
theorem split_sg {as : List Str} (hne : as ≠ []) (h : ∀ x ∈ as, nmB x = true) : Txt.split (Txt.join "," as) "," = as :=
  TL.split_join (y := ",") (s := 44) (S := []) (by decide +kernel) (by decide +kernel) hne fun p hp => nm_no (h p hp) (by decide +kernel)
theorem split_arr {p : Str × Str} (h : nmB p.1 = true ∧ nmB p.2 = true) : Txt.split (arrW p) ">" = [p.1, p.2] :=
  TL.split_join (y := ">") (s := 62) (S := []) (by decide +kernel) (by decide +kernel) (by simp) fun x hx => by
    simp only [List.mem_cons, List.not_mem_nil, or_false] at hx
    rcases hx with rfl | rfl
    · exact nm_no h.1 (by decide +kernel)
    · exact nm_no h.2 (by decide +kernel)
theorem arr_tl (p : Str × Str) : (arrW p).cps.toList = p.1.cps.toList ++ 62 :: p.2.cps.toList := by
  have : TL.tl (arrW p) = TL.tl p.1 ++ ([62] ++ TL.tl p.2) := by
    unfold arrW
    rw [TL.join_eq, TL.tl_join]
    rfl
  exact this
theorem arr_no {p : Str × Str} (h : nmB p.1 = true ∧ nmB p.2 = true) {c : Nat} (hc : c ∉ abc.cps.toList) (hn : c ≠ 62) : c ∉ (arrW p).cps.toList := by
  rw [arr_tl, List.mem_append, List.mem_cons]
  rintro (k | k | k)
  · exact nm_no h.1 hc k
  · exact hn k
  · exact nm_no h.2 hc k
theorem split_prs {ps : List (Str × Str)} (hne : ps ≠ []) (h : ∀ p ∈ ps, nmB p.1 = true ∧ nmB p.2 = true) : Txt.split (Txt.join "," (ps.map arrW)) "," = ps.map arrW :=
  TL.split_join (y := ",") (s := 44) (S := []) (by decide +kernel) (by decide +kernel) (by simpa using hne) fun x hx => by
    obtain ⟨p, hp, rfl⟩ := List.mem_map.1 hx
    exact arr_no (h p hp) (by decide +kernel) (by decide)
end Far
namespace Pw
open PySem PySem.Spec PyProof.Rows L2
open Evl (Ex ex_l ex_t fresh_back)
def tEith (t1 t2 : TE) : TE := fun σ H Q => t1 σ H Q ∨ t2 σ H Q
theorem pe_eith {X : Cx} {e : Expr} {t1 t2 : TE} (h1 : PE X e t1) (h2 : PE X e t2) : PE X e (tEith t1 t2) := ⟨fun pins s σ H Q I h => h.elim (h1.run pins s σ H Q I) (h2.run pins s σ H Q I)⟩
section
variable {T : Cfg} {W : WX} {ρ : List (Option D)} {m0 : Mu} {XP : XW} {K : Out → Prop} {te te' : TE} {P : D → Mu → Prop} {u : TS} {μ : Mu} {E : XK} {ta : TA} {Hb H : Hp}
theorem ev_eithL {t1 t2 : TE} (h : EV T t1 W ⟨ρ, m0⟩ P XP) : EV T (tEith t1 t2) W ⟨ρ, m0⟩ P XP := fun σ Hb H Q Sm q x => .inl (h σ Hb H Q Sm q x)
theorem ev_eithR {t1 t2 : TE} (h : EV T t2 W ⟨ρ, m0⟩ P XP) : EV T (tEith t1 t2) W ⟨ρ, m0⟩ P XP := fun σ Hb H Q Sm q x => .inr (h σ Hb H Q Sm q x)
theorem ev_held {i : Nat} {f : Addr} {sp : Sp} (hv : ρ[i]? = some (some (.ptr f))) (h : EV T (tCall sp [] E ta) W ⟨ρ, m0⟩ P XP) : EV T (tCallL i f sp [] E ta) W ⟨ρ, m0⟩ P XP := fun σ Hb H Q Sm q x => by
  obtain ⟨v, e, r⟩ := Sm.vars i _ hv
  cases r
  exact ⟨e, h σ Hb H Q Sm q x⟩
def StlL (μ : Mu) (ds es : List D) : Prop := ds.length = es.length ∧ ∀ (i : Nat) (x y : D), ds[i]? = some x → es[i]? = some y → Stl μ x y
theorem StlL.nil : StlL μ [] [] := ⟨rfl, fun i x y h _ => by simp at h⟩
theorem StlL.cons {d e : D} {ds es : List D} (h : Stl μ d e) (t : StlL μ ds es) : StlL μ (d :: ds) (e :: es) := by
  refine ⟨by simp [t.1], fun i x y a b => ?_⟩
  cases i with
  | zero => simp at a b; subst a b; exact h
  | succ i => simp at a b; exact t.2 i x y a b
end
structure Nest (μ : Mu) (p : Addr) (qs : List Addr) (rows : List (List D)) : Prop where
  top : μ p = some (.lst (qs.map D.ptr))
  ln : qs.length = rows.length
  row : ∀ (i : Nat) (q : Addr) (r : List D), qs[i]? = some q → rows[i]? = some r → μ q = some (.lst r)
  ne : p ∉ qs
section
variable {T : Cfg} {W : WX} {ρ : List (Option D)} {m0 : Mu} {XP : XW} {K : Out → Prop} {te te' : TE} {P : D → Mu → Prop} {u : TS} {μ : Mu} {E : XK} {ta : TA} {Hb H : Hp}
theorem Go.lk (s : Ex Hb H) (m : SimMu T μ Hb H) {p : Addr} {o : HO} {y : MO} (hp : μ p = some y) (hno : NoTC o := by exact ⟨fun _ z => (nomatch z), fun _ z => (nomatch z)⟩) : Go T μ Hb H (del μ p) (upd Hb p o) (upd H p o) := by
  obtain ⟨hb, u0, hu0, r0⟩ := m p y hp
  have ex : Ex Hb (upd Hb p o) := Evl.Ex.new hb
  refine ⟨ex, fun a u h n w _ => ?_, fun a x h => ?_, fun a u h => ?_, fun a u h => ?_, m.up (k := m.kt.ex ex) (fun a u n q => (upd_ntc (fun u q => by rw [hu0] at q; cases q; exact r0.ntc) hno a u n).2 q) (upd_ntc (fun u q => by rw [hb] at q; cases q) hno) fun a x h => ?_⟩
  · have ne : a ≠ p := fun e => by subst e; rw [hp] at w; cases w
    exact ⟨by rw [upd_ne ne]; exact h, fun _ => by rw [upd_ne ne]; exact n⟩
  · unfold del at h
    split at h
    · cases h
    · exact .inl (by rw [h]; simp)
  · by_cases e : a = p
    · subst e; exact ⟨o, upd_same⟩
    · exact ⟨u, by rw [upd_ne e]; exact h⟩
  · by_cases e : a = p
    · subst e; rw [upd_same] at h ⊢; exact h
    · rw [upd_ne e] at h ⊢; exact s a u h
  · unfold del at h
    split at h
    · cases h
    · rename_i e
      obtain ⟨n, u, hu, q⟩ := m a x h
      exact ⟨by rw [upd_ne e]; exact n, u, by rw [upd_ne e]; exact hu, q.mono ex⟩
end
section
variable {κ β : Type} [DecidableEq κ]
def putD (kvs : List (κ × β)) (k : κ) (d : β) : List (κ × β) := if k ∈ kvs.map Prod.fst then kvs.map (fun z => (z.1, if z.1 = k then d else z.2)) else kvs ++ [(k, d)]
def lookD (kvs : List (κ × β)) (k : κ) : Option β := (kvs.find? fun kv => decide (kv.1 = k)).map (·.2)
theorem lookD_cons {p : κ × β} {r : List (κ × β)} {k : κ} : lookD (p :: r) k = if p.1 = k then some p.2 else lookD r k := by
  unfold lookD
  rw [List.find?_cons]
  by_cases e : p.1 = k
  · rw [decide_eq_true e, if_pos e]; rfl
  · rw [decide_eq_false e, if_neg e]
theorem lookD_some_mem {k : κ} : ∀ {kvs : List (κ × β)} {d : β}, lookD kvs k = some d → (k, d) ∈ kvs
  | [], d, h => by cases h
  | p :: r, d, h => by
    rw [lookD_cons] at h
    by_cases e : p.1 = k
    · rw [if_pos e] at h
      cases h
      rw [← e]
      exact List.mem_cons_self
    · rw [if_neg e] at h
      exact List.mem_cons_of_mem _ (lookD_some_mem h)
theorem lookD_none {k : κ} : ∀ {kvs : List (κ × β)}, k ∉ kvs.map Prod.fst → lookD kvs k = none
  | [], _ => rfl
  | p :: r, h => by
    rw [List.map_cons, List.mem_cons, not_or] at h
    rw [lookD_cons, if_neg (fun e => h.1 e.symm)]
    exact lookD_none h.2
theorem lookD_isSome {k : κ} : ∀ {kvs : List (κ × β)}, (lookD kvs k).isSome = true ↔ k ∈ kvs.map Prod.fst
  | [] => by simp [lookD]
  | p :: r => by
    rw [lookD_cons, List.map_cons, List.mem_cons]
    by_cases e : p.1 = k
    · rw [if_pos e]; simp [e]
    · rw [if_neg e, lookD_isSome]
      constructor
      · exact fun h => .inr h
      · rintro (h | h)
        · exact absurd h.symm e
        · exact h
theorem lookD_map {k j : κ} {d : β} : ∀ {kvs : List (κ × β)}, lookD (kvs.map fun z => (z.1, if z.1 = k then d else z.2)) j = (lookD kvs j).map fun x => if j = k then d else x
  | [] => rfl
  | p :: r => by
    rw [List.map_cons, lookD_cons, lookD_cons, lookD_map (kvs := r)]
    by_cases e : p.1 = j
    · rw [if_pos e, if_pos e, Option.map_some, e]
    · rw [if_neg e, if_neg e]
theorem lookD_app {k j : κ} {d : β} : ∀ {kvs : List (κ × β)}, k ∉ kvs.map Prod.fst → lookD (kvs ++ [(k, d)]) j = if j = k then some d else lookD kvs j
  | [], _ => by
    rw [List.nil_append, lookD_cons]
    by_cases e : k = j
    · rw [if_pos e, if_pos e.symm]
    · rw [if_neg e, if_neg (fun z => e z.symm)]
  | p :: r, h => by
    rw [List.map_cons, List.mem_cons, not_or] at h
    rw [List.cons_append, lookD_cons, lookD_cons, lookD_app h.2]
    by_cases e : p.1 = j
    · rw [if_pos e, if_pos e, if_neg (fun z => h.1 (by rw [e, z]))]
    · rw [if_neg e, if_neg e]
theorem lookD_put {kvs : List (κ × β)} {k j : κ} {d : β} : lookD (putD kvs k d) j = if j = k then some d else lookD kvs j := by
  unfold putD
  by_cases h : k ∈ kvs.map Prod.fst
  · rw [if_pos h, lookD_map]
    by_cases e : j = k
    · rw [if_pos e, e]
      obtain ⟨x, hx⟩ := Option.isSome_iff_exists.1 (lookD_isSome.2 h)
      rw [hx, Option.map_some, if_pos rfl]
    · rw [if_neg e]
      cases lookD kvs j with
      | none => rfl
      | some x => rw [Option.map_some, if_neg e]
  · rw [if_neg h]
    exact lookD_app h
theorem RepP.put {T : Cfg} {Hb : Hp} {gs : List (κ × D)} {fs : List (κ × V)} {k : κ} {d : D} {v : V} (h : RepP T Hb gs fs) (r : Rep T Hb d v) : RepP T Hb (putD gs k d) (putK fs k v) := by
  by_cases hk : k ∈ gs.map Prod.fst
  · have hk' : (fs.any fun kv => decide (kv.1 = k)) = true := by
      rw [h.1] at hk
      obtain ⟨z, hz, e⟩ := List.mem_map.1 hk
      exact List.any_eq_true.2 ⟨z, hz, decide_eq_true e⟩
    have e1 : putD gs k d = gs.map (fun z => (z.1, if z.1 = k then d else z.2)) := if_pos hk
    have e2 : putK fs k v = fs.map (fun kv => if kv.1 = k then (kv.1, v) else kv) := if_pos hk'
    rw [e1, e2]
    refine ⟨?_, fun i g f a b => ?_⟩
    · rw [List.map_map, List.map_map]
      have e3 : (Prod.fst ∘ fun kv : κ × V => if kv.1 = k then (kv.1, v) else kv) = Prod.fst := by
        funext z
        show (if z.1 = k then (z.1, v) else z).1 = z.1
        split <;> rfl
      rw [e3]
      exact h.1
    · rw [List.getElem?_map] at a b
      obtain ⟨g0, ga, rfl⟩ := Option.map_eq_some_iff.1 a
      obtain ⟨f0, fa, rfl⟩ := Option.map_eq_some_iff.1 b
      have hkey : g0.1 = f0.1 := by
        have := congrArg (fun l : List κ => l[i]?) h.1
        simp only [List.getElem?_map, ga, fa, Option.map_some] at this
        exact Option.some.inj this
      by_cases e : g0.1 = k
      · have e' : f0.1 = k := by rw [← hkey]; exact e
        simp only [if_pos e, if_pos e']
        exact r
      · have e' : ¬ f0.1 = k := by rw [← hkey]; exact e
        simp only [if_neg e, if_neg e']
        exact h.2 i g0 f0 ga fa
  · have hk' : valV fs k = none := by
      rw [h.1] at hk
      cases q : valV fs k with
      | none => rfl
      | some x =>
        unfold valV at q
        obtain ⟨z, hz, _⟩ := Option.map_eq_some_iff.1 q
        exact absurd (List.mem_map.2 ⟨z, List.mem_of_find?_eq_some hz, of_decide_eq_true (List.find?_some (p := fun kv : κ × V => decide (kv.1 = k)) hz)⟩) hk
    have e1 : putD gs k d = gs ++ [(k, d)] := if_neg hk
    rw [e1, putK_new v hk']
    exact repP_snoc h r
end
open Evl (Ex ex_l)
section
variable {T : Cfg} {W : WX} {s : S} {ρ : List (Option D)} {m0 μ μ1 : Mu} {P : D → Mu → Prop} {XP : XW} {kb kb' : Nat} {f : Addr} {C : CF} {te te' : TE}
theorem FunC.mono (F : FunC T kb f C μ) (h : kb ≤ kb') : FunC T kb' f C μ := by
  obtain ⟨k1, o, cells, cc, sp, caps, h1, h2, h3, h4⟩ := F.ex
  exact ⟨⟨k1, o, cells, cc, sp, caps, h1, Nat.le_trans h2 h, h3, h4⟩⟩
end
end Pw
namespace Far
open PySem PySem.Spec PyProof.Rows L2 Pw
structure LaOk (T : Cfg) : Prop where
  ma : MaOk T
  tb : T.tbs ≠ []
def gonW (ss : List Stp) (r : Nat) (x : Str) : List Nat := (lookS ss r x).getD []
theorem menu_look {ss : List Stp} {r : Nat} {x : Str} (h : x ∈ menuS ss r) : ∃ ws, lookS ss r x = some ws := by
  unfold menuS at h
  rw [List.mem_mergeSort, List.mem_map] at h
  obtain ⟨s, hs, rfl⟩ := h
  rw [List.mem_filter] at hs
  unfold lookS
  cases e : ss.find? fun z => decide (keyS z = (r, s.2.1)) with
  | some z => exact ⟨_, rfl⟩
  | none =>
    have := List.find?_eq_none.1 e s hs.1
    have h2 : s.1 = r := by simpa using hs.2
    exact absurd (by simp [keyS, h2]) this
end Far
namespace Pw
open PySem PySem.Spec PyProof.Rows L2
end Pw
namespace Far
open PySem PySem.Spec PyProof.Rows L2 Pw
abbrev Onw := List (Nat × Nat)
abbrev FRow := Nat × Str × Onw
def pos (on : Onw) : Onw := on.filter fun z => decide (0 < z.2)
def add1 (ts : List Nat) (t : Nat) : List Nat := if t ∈ ts then ts else ts ++ [t]
def addA (ts : List Nat) (on : Onw) : List Nat := on.foldl (fun ts z => add1 ts z.1) ts
def tT (S : List (Str × Onw)) (ts : List Nat) : List Nat := S.foldl (fun ts z => addA ts (pos z.2)) ts
def tR (k : Nat) (S : List (Str × Onw)) : List FRow := S.map fun z => (k, z.1, pos z.2)
def bTm (St : Nat → List (Str × Onw)) : Nat → List Nat
  | 0 => [0]
  | k + 1 => tT (St ((bTm St k).getD k 0)) (bTm St k)
def bR (St : Nat → List (Str × Onw)) : Nat → List FRow
  | 0 => []
  | k + 1 => bR St k ++ tR k (St ((bTm St k).getD k 0))
def wsOf (ts : List Nat) (on : Onw) : List Nat := on.foldl (fun ws z => ws.set (ts.idxOf z.1) (ws.getD (ts.idxOf z.1) 0 + z.2)) (List.replicate ts.length 0)
def foS (St : Nat → List (Str × Onw)) (K : Nat) : List Stp := (bR St K).map fun r => (r.1, r.2.1, wsOf (bTm St K) r.2.2)
theorem add1_pre (ts : List Nat) (t : Nat) : ts <+: add1 ts t := by
  unfold add1
  split
  · exact List.prefix_refl _
  · exact List.prefix_append _ _
theorem addA_pre (on : Onw) : ∀ ts, ts <+: addA ts on := by
  induction on with
  | nil => exact fun ts => List.prefix_refl _
  | cons z on ih => exact fun ts => (add1_pre ts z.1).trans (ih _)
theorem tT_pre (S : List (Str × Onw)) : ∀ ts, ts <+: tT S ts := by
  induction S with
  | nil => exact fun ts => List.prefix_refl _
  | cons z S ih => exact fun ts => (addA_pre (pos z.2) ts).trans (ih _)
theorem bT_pre (St : Nat → List (Str × Onw)) {i j : Nat} (h : i ≤ j) : bTm St i <+: bTm St j := by
  induction h with
  | refl => exact List.prefix_refl _
  | step _ ih => exact ih.trans (tT_pre _ _)
theorem mem_add1 {ts : List Nat} {t : Nat} : t ∈ add1 ts t := by
  unfold add1
  split
  · assumption
  · simp
theorem mem_addA {on : Onw} : ∀ {ts : List Nat} {z : Nat × Nat}, z ∈ on → z.1 ∈ addA ts on := by
  induction on with
  | nil => intro ts z h; cases h
  | cons y on ih =>
    intro ts z h
    rcases List.mem_cons.1 h with rfl | h
    · exact (addA_pre on _).subset mem_add1
    · exact ih h
theorem mem_tT {S : List (Str × Onw)} : ∀ {ts : List Nat} {y : Str × Onw} {z : Nat × Nat}, y ∈ S → z ∈ pos y.2 → z.1 ∈ tT S ts := by
  induction S with
  | nil => intro ts y z h; cases h
  | cons x S ih =>
    intro ts y z h hz
    rcases List.mem_cons.1 h with rfl | h
    · exact (tT_pre S _).subset (mem_addA hz)
    · exact ih h hz
def numF : Nat → List Nat → List (Key × D)
  | _, [] => []
  | n, t :: ts => (.inl (t : Int), .int (n : Int)) :: numF (n + 1) ts
theorem numF_app (t : Nat) : ∀ (ts : List Nat) (n : Nat), numF n (ts ++ [t]) = numF n ts ++ [(.inl (t : Int), .int ((n + ts.length : Nat) : Int))]
  | [], n => by simp [numF]
  | a :: ts, n => by
    show (.inl (a : Int), .int (n : Int)) :: numF (n + 1) (ts ++ [t]) = _
    rw [numF_app t ts (n + 1)]
    show _ = (.inl (a : Int), .int (n : Int)) :: (numF (n + 1) ts ++ _)
    rw [List.length_cons, show n + 1 + ts.length = n + (ts.length + 1) by omega]
def prN (z : Nat × Nat) : D := .tup [.int (z.1 : Int), .int (z.2 : Int)]
def frowD (r : FRow) : D := .tup [.int (r.1 : Int), .str r.2.1, .lst (r.2.2.map prN)]
def numsD (ts : List Nat) : List D := ts.map fun t : Nat => D.int (t : Int)
structure FI (μ0 m : Mu) (q e w : Addr) (ts : List Nat) (rs : List FRow) : Prop where
  sub : Subm μ0 m
  tq : m q = some (.lst (numsD ts))
  te : m e = some (.dK (numF 0 ts))
  tw : m w = some (.lst (rs.map frowD))
structure FA (μ0 : Mu) (q e w : Addr) : Prop where
  q0 : μ0 q = none
  e0 : μ0 e = none
  w0 : μ0 w = none
  qe : q ≠ e
  qw : q ≠ w
  ew : e ≠ w
theorem FI.row {μ0 m : Mu} {q e w : Addr} {ts : List Nat} {rs : List FRow} (I : FI μ0 m q e w ts rs) (A : FA μ0 q e w) (r : FRow) : FI μ0 (put m w (.lst (rs.map frowD ++ [frowD r]))) q e w ts (rs ++ [r]) :=
  ⟨I.sub.putN A.w0, by rw [put_ne A.qw]; exact I.tq, by rw [put_ne A.ew]; exact I.te, by rw [put_same, List.map_append]; rfl⟩
theorem FI.thing {μ0 m : Mu} {q e w : Addr} {ts : List Nat} {rs : List FRow} (I : FI μ0 m q e w ts rs) (A : FA μ0 q e w) (t : Nat) : FI μ0 (put (put m e (.dK (numF 0 ts ++ [(.inl (t : Int), .int (ts.length : Int))]))) q (.lst (numsD ts ++ [.int (t : Int)]))) q e w (ts ++ [t]) rs := by
  refine ⟨(I.sub.putN A.e0).putN A.q0, ?_, ?_, ?_⟩
  · rw [put_same]
    unfold numsD
    rw [List.map_append]
    rfl
  · rw [put_ne (fun z => A.qe z.symm), put_same, numF_app, Nat.zero_add]
  · rw [put_ne (fun z => A.qw z.symm), put_ne (fun z => A.ew z.symm)]
    exact I.tw
theorem mem_bR {St : Nat → List (Str × Onw)} : ∀ {K : Nat} {r : FRow}, r ∈ bR St K → ∀ y ∈ r.2.2, y.1 ∈ bTm St K
  | 0, r, h => by cases h
  | K + 1, r, h => by
    intro y hy
    rcases List.mem_append.1 h with h | h
    · exact (bT_pre St (Nat.le_succ K)).subset (mem_bR h y hy)
    · obtain ⟨z, hz, rfl⟩ := List.mem_map.1 h
      exact mem_tT hz hy
theorem wsOf_len (ts : List Nat) (on : Onw) : (wsOf ts on).length = ts.length := by
  unfold wsOf
  have : ∀ (on : Onw) (ws : List Nat), (on.foldl (fun ws z => ws.set (ts.idxOf z.1) (ws.getD (ts.idxOf z.1) 0 + z.2)) ws).length = ws.length := by
    intro on
    induction on with
    | nil => intro ws; rfl
    | cons z on ih => intro ws; rw [List.foldl_cons, ih, List.length_set]
  rw [this, List.length_replicate]
def stS (ss : List Stp) (t : Nat) : List (Str × Onw) := (menuS ss t).map fun x => (x, (List.range (gonW ss t x).length).map fun i => (i, (gonW ss t x).getD i 0))
theorem add1_nd {ts : List Nat} {t : Nat} (h : ts.Nodup) : (add1 ts t).Nodup := by
  unfold add1
  split
  · exact h
  · rename_i n
    exact List.nodup_append.2 ⟨h, by simp, fun a ha b hb => by rw [List.mem_singleton.1 hb]; exact fun e => n (e ▸ ha)⟩
theorem addA_nd : ∀ (on : Onw) {ts : List Nat}, ts.Nodup → (addA ts on).Nodup
  | [], _, h => h
  | z :: on, _, h => addA_nd on (add1_nd h)
theorem tT_nd : ∀ (S : List (Str × Onw)) {ts : List Nat}, ts.Nodup → (tT S ts).Nodup
  | [], _, h => h
  | z :: S, _, h => tT_nd S (addA_nd _ h)
theorem bT_nd (St : Nat → List (Str × Onw)) : ∀ k, (bTm St k).Nodup
  | 0 => by simp [bTm]
  | k + 1 => tT_nd _ (bT_nd St k)
theorem add1_all {p : Nat → Prop} {ts : List Nat} {t : Nat} (h : ∀ x ∈ ts, p x) (ht : p t) : ∀ x ∈ add1 ts t, p x := by
  unfold add1
  split
  · exact h
  · intro x hx
    rcases List.mem_append.1 hx with hx | hx
    · exact h x hx
    · rw [List.mem_singleton.1 hx]; exact ht
theorem addA_all {p : Nat → Prop} : ∀ (on : Onw) {ts : List Nat}, (∀ x ∈ ts, p x) → (∀ z ∈ on, p z.1) → ∀ x ∈ addA ts on, p x
  | [], _, h, _ => h
  | z :: on, _, h, k => addA_all on (add1_all h (k z (by simp))) fun y hy => k y (by simp [hy])
theorem tT_all {p : Nat → Prop} : ∀ (S : List (Str × Onw)) {ts : List Nat}, (∀ x ∈ ts, p x) → (∀ z ∈ S, ∀ y ∈ z.2, p y.1) → ∀ x ∈ tT S ts, p x
  | [], _, h, _ => h
  | z :: S, _, h, k => tT_all S (addA_all _ h fun y hy => k z (by simp) y (List.mem_filter.1 hy).1) fun w hw => k w (by simp [hw])
theorem bT_all {p : Nat → Prop} {St : Nat → List (Str × Onw)} (h0 : p 0) (h : ∀ t, ∀ z ∈ St t, ∀ y ∈ z.2, p y.1) : ∀ k, ∀ x ∈ bTm St k, p x
  | 0 => by intro x hx; rw [List.mem_singleton.1 hx]; exact h0
  | k + 1 => tT_all _ (bT_all h0 h k) (h _)
theorem nd_len : ∀ {m : Nat} {l : List Nat}, l.Nodup → (∀ x ∈ l, x < m) → l.length ≤ m
  | 0, l, _, k => by
    cases l with
    | nil => exact Nat.le_refl _
    | cons a l => exact absurd (k a (by simp)) (by omega)
  | m + 1, l, h, k => by
    have h1 := nd_len (m := m) (l := l.erase m) (h.erase m) fun x hx => by
      have h2 := k x (List.mem_of_mem_erase hx)
      have h3 : x ≠ m := fun e => by
        subst e
        exact (List.Nodup.mem_erase_iff h).1 hx |>.1 rfl
      omega
    rw [List.length_erase] at h1
    split at h1 <;> omega
theorem ends {St : Nat → List (Str × Onw)} {m : Nat} (hm : ∀ k, ∀ x ∈ bTm St k, x < m) : ∃ K, K ≤ m ∧ (bTm St K).length = K ∧ ∀ k, k < K → k < (bTm St k).length := by
  have key : ∀ n, (∃ K, K ≤ n ∧ (bTm St K).length = K ∧ ∀ k, k < K → k < (bTm St k).length) ∨ ∀ k, k ≤ n → k < (bTm St k).length := by
    intro n
    induction n with
    | zero => exact .inr fun k hk => by rw [Nat.le_zero.1 hk]; simp [bTm]
    | succ n ih =>
      rcases ih with ⟨K, h1, h2, h3⟩ | h
      · exact .inl ⟨K, by omega, h2, h3⟩
      · by_cases hl : n + 1 < (bTm St (n + 1)).length
        · exact .inr fun k hk => by
            by_cases e : k = n + 1
            · rw [e]; exact hl
            · exact h k (by omega)
        · refine .inl ⟨n + 1, Nat.le_refl _, ?_, fun k hk => h k (by omega)⟩
          have h1 := h n (Nat.le_refl _)
          have h2 : (bTm St n).length ≤ (bTm St (n + 1)).length := (bT_pre St (Nat.le_succ n)).length_le
          omega
  rcases key m with h | h
  · exact h
  · have h1 := h m (Nat.le_refl _)
    have h2 := nd_len (bT_nd St m) (hm m)
    omega
theorem gonW_le {m : Nat} {ss : List Stp} (hg : Good m ss) (t : Nat) (x : Str) : (gonW ss t x).length ≤ m := by
  unfold gonW
  cases e : lookS ss t x with
  | none => exact Nat.zero_le _
  | some ws =>
    obtain ⟨s, hs, _, _, h⟩ := look_mem e
    show ws.length ≤ m
    rw [← h, (hg.ok s hs).ln]
    exact Nat.le_refl _
theorem st_lt {m : Nat} {ss : List Stp} (hg : Good m ss) (t : Nat) : ∀ z ∈ stS ss t, ∀ y ∈ z.2, y.1 < m := by
  intro z hz y hy
  obtain ⟨x, _, rfl⟩ := List.mem_map.1 hz
  obtain ⟨i, hi, rfl⟩ := List.mem_map.1 hy
  have := List.mem_range.1 hi
  exact Nat.lt_of_lt_of_le this (gonW_le hg t x)
theorem menu_nd {m : Nat} {ss : List Stp} (hg : Good m ss) (t : Nat) : (menuS ss t).Nodup := by
  unfold menuS
  rw [(List.mergeSort_perm _ _).nodup_iff]
  have h : ((ss.filter fun s => decide (s.1 = t)).map keyS).Nodup := hg.nd.sublist ((List.filter_sublist).map keyS)
  have e : (ss.filter fun s => decide (s.1 = t)).map keyS = ((ss.filter fun s => decide (s.1 = t)).map fun s => s.2.1).map fun x => (t, x) := by
    rw [List.map_map]
    refine List.map_congr_left fun s hs => ?_
    have := of_decide_eq_true (List.mem_filter.1 hs).2
    show (s.1, s.2.1) = (t, s.2.1)
    rw [this]
  rw [e] at h
  unfold List.Nodup at h ⊢
  rw [List.pairwise_map] at h
  exact h.imp fun hn e => hn (by rw [e])
def rk (r : FRow) : Nat × Str := (r.1, r.2.1)
theorem bR_lt {St : Nat → List (Str × Onw)} : ∀ {k : Nat} {r : FRow}, r ∈ bR St k → r.1 < k
  | 0, r, h => by cases h
  | k + 1, r, h => by
    rcases List.mem_append.1 h with h | h
    · have := bR_lt h
      omega
    · obtain ⟨z, _, rfl⟩ := List.mem_map.1 h
      exact Nat.lt_succ_self k
theorem bR_nd {St : Nat → List (Str × Onw)} (hs : ∀ t, ((St t).map Prod.fst).Nodup) : ∀ k, ((bR St k).map rk).Nodup
  | 0 => by simp [bR]
  | k + 1 => by
    show ((bR St k ++ tR k (St ((bTm St k).getD k 0))).map rk).Nodup
    rw [List.map_append, List.nodup_append]
    refine ⟨bR_nd hs k, ?_, fun a ha b hb e => ?_⟩
    · have h := hs ((bTm St k).getD k 0)
      unfold List.Nodup at h ⊢
      rw [List.pairwise_map] at h ⊢
      unfold tR
      rw [List.pairwise_map]
      exact h.imp fun hn e => hn (Prod.mk.inj e).2
    · obtain ⟨r, hr, rfl⟩ := List.mem_map.1 ha
      obtain ⟨r2, hr2, rfl⟩ := List.mem_map.1 hb
      obtain ⟨z, _, rfl⟩ := List.mem_map.1 hr2
      have h1 := bR_lt hr
      have h2 : r.1 = k := (Prod.mk.inj e).1
      omega
theorem st_names (ss : List Stp) (t : Nat) : (stS ss t).map Prod.fst = menuS ss t := by
  unfold stS
  rw [List.map_map]
  exact List.map_id' _
theorem pre_getD {a b : List Nat} (h : a <+: b) {i : Nat} (hi : i < a.length) : a.getD i 0 = b.getD i 0 := by
  obtain ⟨c, rfl⟩ := h
  rw [List.getD_eq_getElem?_getD, List.getD_eq_getElem?_getD, List.getElem?_append_left hi]
theorem stp_key {a b : Stp} (h : PySem.W.keyToks (stpP a) = PySem.W.keyToks (stpP b)) : keyS a = keyS b := by
  unfold stpP at h
  simp only [PySem.W.keyToks, PySem.W.keyToksAll, List.cons_append, List.nil_append, List.cons.injEq, Sum.inl.injEq, Sum.inr.injEq, true_and] at h
  refine Prod.ext (by have := h.1; show a.1 = b.1; omega) ?_
  exact PySem.W.str_of_cps h.2.1
theorem srt_perm {l l' : List Stp} (h : l.Perm l') (hn : (l.map keyS).Nodup) : srtS l = srtS l' := by
  have tot := PySem.W.sortLe_total (PyProof.Rows.listOrd PyProof.Rows.itemOrd) false fun b => PySem.W.keyToks (stpP b)
  unfold srtS PySem.W.dataLe
  refine List.Perm.eq_of_pairwise (le := fun a b : Stp => PySem.W.sortLe (PyProof.Rows.listOrd PyProof.Rows.itemOrd) false (fun b => PySem.W.keyToks (stpP b)) a b = true) (fun a b ha hb h1 h2 => ?_) (List.pairwise_mergeSort tot.trans (fun a b => by rw [Bool.or_eq_true]; exact tot.total a b) l) (List.pairwise_mergeSort tot.trans (fun a b => by rw [Bool.or_eq_true]; exact tot.total a b) l') ?_
  · have ha : a ∈ l := (List.mergeSort_perm _ _).mem_iff.1 ha
    have hb : b ∈ l := h.mem_iff.2 ((List.mergeSort_perm _ _).mem_iff.1 hb)
    have h1 : (!(PyProof.Rows.listOrd PyProof.Rows.itemOrd).blt (PySem.W.keyToks (stpP b)) (PySem.W.keyToks (stpP a))) = true := h1
    have h2 : (!(PyProof.Rows.listOrd PyProof.Rows.itemOrd).blt (PySem.W.keyToks (stpP a)) (PySem.W.keyToks (stpP b))) = true := h2
    rw [Bool.not_eq_true'] at h1 h2
    have e := stp_key ((PyProof.Rows.listOrd PyProof.Rows.itemOrd).total _ _ h2 h1)
    unfold List.Nodup at hn
    rw [List.pairwise_map] at hn
    obtain ⟨i, hi, rfl⟩ := List.getElem_of_mem ha
    obtain ⟨j, hj, rfl⟩ := List.getElem_of_mem hb
    rcases Nat.lt_trichotomy i j with hij | hij | hij
    · exact absurd e ((List.pairwise_iff_getElem.1 hn) i j hi hj hij)
    · subst hij; rfl
    · exact absurd e.symm ((List.pairwise_iff_getElem.1 hn) j i hj hi hij)
  · exact ((List.mergeSort_perm _ _).trans h).trans (List.mergeSort_perm _ _).symm
open FM (Bq)
theorem Drawn.good {m : Nat} {xs : List Str} {ss : List Stp} (h : Drawn m xs ss) (m1 : 1 ≤ m) (m12 : m ≤ 12) (hl : m * xs.length ≤ 63) (hx : ∀ x ∈ xs, nmB x = true) : Good m ss where
  m1 := m1
  m12 := m12
  ln := Nat.le_trans h.ln hl
  nd := h.nd
  ok := fun s hs => ⟨h.rm s hs, hx _ (h.ok s hs).sg, (h.ok s hs).ln, (h.ok s hs).ps, fun w hw => Nat.lt_of_le_of_lt ((h.ok s hs).w12 w hw) (Nat.lt_of_lt_of_le (show 12 < 2 ^ 4 by decide) (Nat.pow_le_pow_right (by decide) (by decide)))⟩
theorem abc_lt : (abc.cps.toList.all fun c => decide (c < 1114112)) = true := by decide +kernel
theorem nm_strOk {x : Str} (h : nmB x = true) : PyData.strOk x = true := by
  unfold nmB at h
  rw [Bool.and_eq_true, Bool.and_eq_true] at h
  have h := h.2.2
  unfold PyData.strOk
  rw [← Array.all_toList, List.all_eq_true]
  intro c hc
  have h1 := of_decide_eq_true (List.all_eq_true.1 h c hc)
  exact List.all_eq_true.1 abc_lt c h1
def enW (W : List Nat) : Onw := (List.range W.length).map fun i => (i, W.getD i 0)
theorem st_en (ss : List Stp) (t : Nat) : stS ss t = (menuS ss t).map fun x => (x, enW (gonW ss t x)) := rfl
def wAt (on : Onw) (t : Nat) : Nat := (on.map fun z => if z.1 = t then z.2 else 0).sum
theorem wsOf_go {ts : List Nat} (hn : ts.Nodup) : ∀ (on : Onw) (g : Nat → Nat), (∀ z ∈ on, z.1 ∈ ts) → on.foldl (fun ws z => ws.set (ts.idxOf z.1) (ws.getD (ts.idxOf z.1) 0 + z.2)) (ts.map g) = ts.map fun t => g t + wAt on t
  | [], g, _ => by simp [wAt]
  | z :: on, g, h => by
    have hz := h z (by simp)
    have hi : ts.idxOf z.1 < ts.length := List.idxOf_lt_length_iff.2 hz
    have hgi : ts[ts.idxOf z.1] = z.1 := List.getElem_idxOf hi
    have e : (ts.map g).set (ts.idxOf z.1) ((ts.map g).getD (ts.idxOf z.1) 0 + z.2) = ts.map fun t => g t + if z.1 = t then z.2 else 0 := by
      refine List.ext_getElem (by simp) fun i h1 h2 => ?_
      rw [List.getElem_set]
      have hil : i < ts.length := by simpa using h2
      by_cases e : ts.idxOf z.1 = i
      · subst e
        rw [if_pos rfl, List.getElem_map, hgi, if_pos rfl, List.getD_eq_getElem?_getD, List.getElem?_map, List.getElem?_eq_getElem hi, hgi]
        rfl
      · rw [if_neg e, List.getElem_map, List.getElem_map, if_neg]
        · rfl
        · intro e2
          have : ts[ts.idxOf z.1] = ts[i] := by rw [hgi, e2]
          exact e ((List.getElem_inj hn).1 this)
    rw [List.foldl_cons, e, wsOf_go hn on _ fun y hy => h y (by simp [hy])]
    refine List.map_congr_left fun t _ => ?_
    show _ = g t + ((z :: on).map fun z => if z.1 = t then z.2 else 0).sum
    rw [List.map_cons, List.sum_cons]
    unfold wAt
    omega
theorem wsOf_map {ts : List Nat} (hn : ts.Nodup) (on : Onw) (h : ∀ z ∈ on, z.1 ∈ ts) : wsOf ts on = ts.map (wAt on) := by
  have := wsOf_go hn on (fun _ => 0) h
  unfold wsOf
  rw [show List.replicate ts.length 0 = ts.map fun _ => 0 from (List.map_const' ..).symm, this]
  refine List.map_congr_left fun t _ => ?_
  omega
theorem wAt_pos (on : Onw) (t : Nat) : wAt (pos on) t = wAt on t := by
  induction on with
  | nil => rfl
  | cons z on ih =>
    unfold pos wAt at *
    rw [List.filter_cons]
    split
    · rw [List.map_cons, List.sum_cons, List.map_cons, List.sum_cons, ih]
    · rename_i h
      have h0 : z.2 = 0 := by
        have : ¬ 0 < z.2 := fun p => h (decide_eq_true p)
        omega
      rw [List.map_cons, List.sum_cons, ih, h0]
      simp
theorem wAt_rng (F : Nat → Nat) (t : Nat) : ∀ n, wAt ((List.range n).map fun i => (i, F i)) t = if t < n then F t else 0
  | 0 => by simp [wAt]
  | n + 1 => by
    have ih := wAt_rng F t n
    unfold wAt at *
    rw [List.range_succ, List.map_append, List.map_append, List.sum_append, ih]
    by_cases e : n = t
    · subst e
      simp
    · by_cases h : t < n
      · rw [if_pos h, if_pos (by omega)]
        simp [e]
      · rw [if_neg h, if_neg (by omega)]
        simp [e]
theorem wAt_en (W : List Nat) (t : Nat) : wAt (enW W) t = W.getD t 0 := by
  unfold enW
  rw [wAt_rng]
  split
  · rfl
  · rename_i h
    rw [List.getD_eq_getElem?_getD, List.getElem?_eq_none (by omega)]
    rfl
theorem mem_en {W : List Nat} {z : Nat × Nat} : z ∈ pos (enW W) ↔ z.2 = W.getD z.1 0 ∧ 0 < z.2 := by
  unfold pos enW
  rw [List.mem_filter, List.mem_map]
  constructor
  · rintro ⟨⟨i, _, rfl⟩, h⟩
    exact ⟨rfl, of_decide_eq_true h⟩
  · rintro ⟨h1, h2⟩
    refine ⟨⟨z.1, ?_, ?_⟩, decide_eq_true h2⟩
    · refine List.mem_range.2 (Nat.lt_of_not_le fun h => ?_)
      rw [List.getD_eq_getElem?_getD, List.getElem?_eq_none h] at h1
      have h1 : z.2 = 0 := h1
      omega
    · rw [← h1]
theorem mem_addA_inv {on : Onw} : ∀ {ts : List Nat} {x : Nat}, x ∈ addA ts on → x ∈ ts ∨ ∃ z ∈ on, z.1 = x := by
  induction on with
  | nil => exact fun h => .inl h
  | cons z on ih =>
    intro ts x h
    rcases ih (ts := add1 ts z.1) h with h | ⟨y, hy, e⟩
    · unfold add1 at h
      split at h
      · exact .inl h
      · rcases List.mem_append.1 h with h | h
        · exact .inl h
        · exact .inr ⟨z, by simp, (List.mem_singleton.1 h).symm⟩
    · exact .inr ⟨y, by simp [hy], e⟩
theorem find_key {ss : List Stp} (hn : (ss.map keyS).Nodup) {s : Stp} (hs : s ∈ ss) : lookS ss s.1 s.2.1 = some s.2.2 := by
  unfold lookS
  have : ss.find? (fun t => decide (keyS t = (s.1, s.2.1))) = some s := by
    induction ss with
    | nil => cases hs
    | cons t ss ih =>
      rw [List.map_cons, List.nodup_cons] at hn
      rw [List.find?_cons]
      rcases List.mem_cons.1 hs with rfl | hs
      · have e : decide (keyS s = (s.1, s.2.1)) = true := decide_eq_true rfl
        rw [e]
      · have hne : ¬ keyS t = (s.1, s.2.1) := fun e => hn.1 (by rw [e]; exact List.mem_map.2 ⟨s, hs, rfl⟩)
        rw [decide_eq_false hne]
        exact ih hn.2 hs
  rw [this]
  rfl
theorem gon_mem {ss : List Stp} (hn : (ss.map keyS).Nodup) {s : Stp} (hs : s ∈ ss) : gonW ss s.1 s.2.1 = s.2.2 := by
  unfold gonW
  rw [find_key hn hs]
  rfl
theorem menu_iff {ss : List Stp} {t : Nat} {x : Str} : x ∈ menuS ss t ↔ ∃ s ∈ ss, s.1 = t ∧ s.2.1 = x := by
  unfold menuS
  rw [List.mem_mergeSort, List.mem_map]
  constructor
  · rintro ⟨s, hs, e⟩
    rw [List.mem_filter] at hs
    exact ⟨s, hs.1, of_decide_eq_true hs.2, e⟩
  · rintro ⟨s, hs, e1, e2⟩
    exact ⟨s, List.mem_filter.2 ⟨hs, decide_eq_true e1⟩, e2⟩
theorem dataLe_str' : PySem.W.dataLe false PyData.str = fun a b : Str => decide (a.cps.toList ≤ b.cps.toList) := PySem.W.dataLe_str (fun b : Str => b)
theorem str_ext' {a b : Str} (h : a.cps.toList = b.cps.toList) : a = b := by
  obtain ⟨x⟩ := a
  obtain ⟨y⟩ := b
  have : x = y := Array.toList_inj.1 h
  rw [this]
theorem sortS_perm {l l' : List Str} (h : l.Perm l') : l.mergeSort (PySem.W.dataLe false PyData.str) = l'.mergeSort (PySem.W.dataLe false PyData.str) := by
  rw [dataLe_str']
  have tr : ∀ a b c : Str, decide (a.cps.toList ≤ b.cps.toList) = true → decide (b.cps.toList ≤ c.cps.toList) = true → decide (a.cps.toList ≤ c.cps.toList) = true := fun a b c h1 h2 => decide_eq_true (List.le_trans (of_decide_eq_true h1) (of_decide_eq_true h2))
  have tt : ∀ a b : Str, (decide (a.cps.toList ≤ b.cps.toList) || decide (b.cps.toList ≤ a.cps.toList)) = true := fun a b => by
    rw [Bool.or_eq_true, decide_eq_true_iff, decide_eq_true_iff]
    exact List.le_total _ _
  refine List.Perm.eq_of_pairwise (le := fun a b : Str => decide (a.cps.toList ≤ b.cps.toList) = true) (fun a b _ _ h1 h2 => str_ext' (List.le_antisymm (of_decide_eq_true h1) (of_decide_eq_true h2))) (List.pairwise_mergeSort tr tt l) (List.pairwise_mergeSort tr tt l') ?_
  exact ((List.mergeSort_perm _ _).trans h).trans (List.mergeSort_perm _ _).symm
theorem menu_same {m m' t t' : Nat} {ss ss' : List Stp} (hg : Good m ss) (hg' : Good m' ss') (h : ∀ x, (∃ s ∈ ss, s.1 = t ∧ s.2.1 = x) ↔ ∃ s ∈ ss', s.1 = t' ∧ s.2.1 = x) : menuS ss t = menuS ss' t' := by
  have p : (menuS ss t).Perm (menuS ss' t') := (List.perm_ext_iff_of_nodup (menu_nd hg t) (menu_nd hg' t')).2 fun x => by rw [menu_iff, menu_iff]; exact h x
  have e : ∀ (ss : List Stp) (t : Nat), (menuS ss t).mergeSort (PySem.W.dataLe false PyData.str) = menuS ss t := fun ss t => sortS_perm (List.mergeSort_perm _ _)
  rw [← e ss t, ← e ss' t', sortS_perm p]
structure Trim (m : Nat) (ss : List Stp) (K : Nat) : Prop where
  gd : Good m ss
  km : K ≤ m
  len : (bTm (stS ss) K).length = K
  go : ∀ k, k < K → k < (bTm (stS ss) k).length
  lt : ∀ t ∈ bTm (stS ss) K, t < m
def renS (od : List Nat) (s : Stp) : Stp := (od.idxOf s.1, s.2.1, od.map fun t => s.2.2.getD t 0)
def fnd (od : List Nat) (ss : List Stp) : List Stp := (ss.filter fun s => decide (s.1 ∈ od)).map (renS od)
section
variable {m K : Nat} {ss : List Stp} (h : Trim m ss K)
include h
theorem Trim.nd : (bTm (stS ss) K).Nodup := bT_nd _ K
theorem Trim.at {k : Nat} (hk : k < K) : (bTm (stS ss) k).getD k 0 = (bTm (stS ss) K).getD k 0 := pre_getD (bT_pre (stS ss) (Nat.le_of_lt hk)) (h.go k hk)
theorem Trim.idx {k : Nat} (hk : k < K) : (bTm (stS ss) K).idxOf ((bTm (stS ss) K).getD k 0) = k := by
  have hl : k < (bTm (stS ss) K).length := by rw [h.len]; exact hk
  rw [List.getD_eq_getElem?_getD, List.getElem?_eq_getElem hl]
  exact h.nd.idxOf_getElem k hl
theorem Trim.mem {k : Nat} (hk : k < K) : (bTm (stS ss) K).getD k 0 ∈ bTm (stS ss) K := by
  have hl : k < (bTm (stS ss) K).length := by rw [h.len]; exact hk
  rw [List.getD_eq_getElem?_getD, List.getElem?_eq_getElem hl]
  exact List.getElem_mem hl
theorem Trim.row {r : FRow} : r ∈ bR (stS ss) K ↔ ∃ k, k < K ∧ ∃ x ∈ menuS ss ((bTm (stS ss) K).getD k 0), r = (k, x, pos (enW (gonW ss ((bTm (stS ss) K).getD k 0) x))) := by
  have key : ∀ n, n ≤ K → (r ∈ bR (stS ss) n ↔ ∃ k, k < n ∧ ∃ x ∈ menuS ss ((bTm (stS ss) K).getD k 0), r = (k, x, pos (enW (gonW ss ((bTm (stS ss) K).getD k 0) x)))) := by
    intro n
    induction n with
    | zero => exact fun _ => ⟨fun h => (by cases h), fun ⟨k, hk, _⟩ => absurd hk (by omega)⟩
    | succ n ih =>
      intro hn
      have ih := ih (by omega)
      show r ∈ bR (stS ss) n ++ tR n (stS ss ((bTm (stS ss) n).getD n 0)) ↔ _
      rw [h.at (by omega), List.mem_append, ih]
      constructor
      · rintro (⟨k, hk, q⟩ | hr)
        · exact ⟨k, by omega, q⟩
        · obtain ⟨z, hz, rfl⟩ := List.mem_map.1 hr
          rw [st_en] at hz
          obtain ⟨x, hx, rfl⟩ := List.mem_map.1 hz
          exact ⟨n, by omega, x, hx, rfl⟩
      · rintro ⟨k, hk, x, hx, rfl⟩
        by_cases e : k = n
        · subst e
          refine .inr (List.mem_map.2 ⟨(x, enW (gonW ss ((bTm (stS ss) K).getD k 0) x)), ?_, rfl⟩)
          rw [st_en]
          exact List.mem_map.2 ⟨x, hx, rfl⟩
        · exact .inl ⟨k, by omega, x, hx, rfl⟩
  exact key K (Nat.le_refl _)
theorem Trim.ws {k : Nat} (hk : k < K) {x : Str} (hx : x ∈ menuS ss ((bTm (stS ss) K).getD k 0)) : wsOf (bTm (stS ss) K) (pos (enW (gonW ss ((bTm (stS ss) K).getD k 0) x))) = (bTm (stS ss) K).map fun t => (gonW ss ((bTm (stS ss) K).getD k 0) x).getD t 0 := by
  rw [wsOf_map h.nd _ (mem_bR (h.row.2 ⟨k, hk, x, hx, rfl⟩))]
  refine List.map_congr_left fun t _ => ?_
  rw [wAt_pos, wAt_en]
theorem Trim.keys : ((foS (stS ss) K).map keyS).Nodup := by
  have := bR_nd (St := stS ss) (fun t => by rw [st_names]; exact menu_nd h.gd t) K
  unfold foS
  rw [List.map_map]
  exact this
theorem Trim.fkeys : ((fnd (bTm (stS ss) K) ss).map keyS).Nodup := by
  have h1 : ((ss.filter fun s => decide (s.1 ∈ bTm (stS ss) K)).map keyS).Nodup := h.gd.nd.sublist (List.filter_sublist.map keyS)
  unfold fnd
  rw [List.map_map]
  unfold List.Nodup at h1 ⊢
  rw [List.pairwise_map] at h1 ⊢
  refine List.Pairwise.imp_of_mem (fun {a b} ha hb hn e => hn ?_) h1
  have ha := of_decide_eq_true (List.mem_filter.1 ha).2
  have hb := of_decide_eq_true (List.mem_filter.1 hb).2
  have e1 : (bTm (stS ss) K).idxOf a.1 = (bTm (stS ss) K).idxOf b.1 := congrArg Prod.fst e
  have e2 : a.2.1 = b.2.1 := congrArg Prod.snd e
  have la := List.idxOf_lt_length_iff.2 ha
  have lb := List.idxOf_lt_length_iff.2 hb
  have ga := List.getElem_idxOf la
  have gb := List.getElem_idxOf lb
  simp only [e1] at ga
  exact Prod.ext (ga.symm.trans gb) e2
theorem Trim.perm : (foS (stS ss) K).Perm (fnd (bTm (stS ss) K) ss) := by
  refine (List.perm_ext_iff_of_nodup ?_ ?_).2 fun s => ?_
  · exact (List.pairwise_map.1 h.keys).imp fun hn e => hn (by rw [e])
  · exact (List.pairwise_map.1 h.fkeys).imp fun hn e => hn (by rw [e])
  unfold foS fnd
  rw [List.mem_map, List.mem_map]
  constructor
  · rintro ⟨r, hr, rfl⟩
    obtain ⟨k, hk, x, hx, rfl⟩ := h.row.1 hr
    obtain ⟨s, hs, e1, e2⟩ := menu_iff.1 hx
    refine ⟨s, List.mem_filter.2 ⟨hs, decide_eq_true (by rw [e1]; exact h.mem hk)⟩, ?_⟩
    unfold renS
    rw [e1, e2, h.idx hk]
    show _ = (k, x, wsOf _ (pos _))
    rw [h.ws hk hx, ← e1, ← e2, gon_mem h.gd.nd hs]
  · rintro ⟨s, hs, rfl⟩
    obtain ⟨hs, hm⟩ := List.mem_filter.1 hs
    have hm := of_decide_eq_true hm
    have hl := List.idxOf_lt_length_iff.2 hm
    have hk : (bTm (stS ss) K).idxOf s.1 < K := by rw [h.len] at hl; exact hl
    have e : (bTm (stS ss) K).getD ((bTm (stS ss) K).idxOf s.1) 0 = s.1 := by
      rw [List.getD_eq_getElem?_getD, List.getElem?_eq_getElem hl]
      exact List.getElem_idxOf hl
    have hx : s.2.1 ∈ menuS ss ((bTm (stS ss) K).getD ((bTm (stS ss) K).idxOf s.1) 0) := by
      rw [e]
      exact menu_iff.2 ⟨s, hs, rfl, rfl⟩
    refine ⟨_, h.row.2 ⟨_, hk, _, hx, rfl⟩, ?_⟩
    show (_, _, wsOf _ (pos _)) = _
    rw [h.ws hk hx, e, gon_mem h.gd.nd hs]
    rfl
theorem Trim.zero {s : Stp} (hs : s ∈ ss) (hm : s.1 ∈ bTm (stS ss) K) {t : Nat} (ht : t ∉ bTm (stS ss) K) : s.2.2.getD t 0 = 0 := by
  refine Nat.eq_zero_of_not_pos fun hp => ht ?_
  have hl := List.idxOf_lt_length_iff.2 hm
  have hk : (bTm (stS ss) K).idxOf s.1 < K := by rw [h.len] at hl; exact hl
  have e : (bTm (stS ss) K).getD ((bTm (stS ss) K).idxOf s.1) 0 = s.1 := by
    rw [List.getD_eq_getElem?_getD, List.getElem?_eq_getElem hl]
    exact List.getElem_idxOf hl
  have hx : s.2.1 ∈ menuS ss ((bTm (stS ss) K).getD ((bTm (stS ss) K).idxOf s.1) 0) := by
    rw [e]
    exact menu_iff.2 ⟨s, hs, rfl, rfl⟩
  have := mem_bR (h.row.2 ⟨_, hk, _, hx, rfl⟩) (t, s.2.2.getD t 0)
  refine this ?_
  rw [e, gon_mem h.gd.nd hs]
  exact mem_en.2 ⟨rfl, hp⟩
end
theorem getD_mem {ws : List Nat} {t : Nat} (h : 0 < ws.getD t 0) : t < ws.length ∧ ws.getD t 0 ∈ ws := by
  by_cases ht : t < ws.length
  · refine ⟨ht, ?_⟩
    rw [List.getD_eq_getElem?_getD, List.getElem?_eq_getElem ht]
    exact List.getElem_mem ht
  · rw [List.getD_eq_getElem?_getD, List.getElem?_eq_none (by omega)] at h
    exact absurd h (Nat.lt_irrefl 0)
theorem getD_of_mem {ws : List Nat} {w : Nat} (h : w ∈ ws) : ∃ t, t < ws.length ∧ ws.getD t 0 = w := by
  obtain ⟨i, hi, rfl⟩ := List.getElem_of_mem h
  exact ⟨i, hi, by rw [List.getD_eq_getElem?_getD, List.getElem?_eq_getElem hi]; rfl⟩
theorem dvd_gcdL {d : Nat} {ws : List Nat} (h : ∀ w ∈ ws, d ∣ w) : d ∣ gcdL ws := by
  have key : ∀ (ws : List Nat) (g : Nat), d ∣ g → (∀ w ∈ ws, d ∣ w) → d ∣ ws.foldl (fun g w => Nat.gcd w g) g := by
    intro ws
    induction ws with
    | nil => exact fun g hg _ => hg
    | cons w ws ih => exact fun g hg h => ih _ (Nat.dvd_gcd (h w (by simp)) hg) fun v hv => h v (by simp [hv])
  exact key ws 0 (Nat.dvd_zero d) h
theorem low_one {ws : List Nat} (h : gcdL ws = 1) : low ws = ws := by
  unfold low
  rw [h]
  simp
structure Onto (od W V : List Nat) : Prop where
  nd : od.Nodup
  eq : V = od.map fun t => W.getD t 0
  z : ∀ t, t ∉ od → W.getD t 0 = 0
theorem Onto.mem {od W V : List Nat} (h : Onto od W V) {w : Nat} (hw : 0 < w) : w ∈ V ↔ w ∈ W := by
  rw [h.eq, List.mem_map]
  constructor
  · rintro ⟨t, _, rfl⟩
    exact (getD_mem hw).2
  · intro hm
    obtain ⟨t, _, rfl⟩ := getD_of_mem hm
    refine ⟨t, Classical.byContradiction fun n => ?_, rfl⟩
    have := h.z t n
    omega
theorem Onto.gcd {od W V : List Nat} (h : Onto od W V) : gcdL V = gcdL W := by
  refine Nat.dvd_antisymm (dvd_gcdL fun w hw => ?_) (dvd_gcdL fun w hw => ?_)
  · by_cases e : 0 < w
    · exact gcdL_dvd ((h.mem e).2 hw)
    · rw [Nat.eq_zero_of_not_pos e]; exact Nat.dvd_zero _
  · by_cases e : 0 < w
    · exact gcdL_dvd ((h.mem e).1 hw)
    · rw [Nat.eq_zero_of_not_pos e]; exact Nat.dvd_zero _
theorem Onto.pos {od W V : List Nat} (h : Onto od W V) (hp : 0 < W.sum) : 0 < V.sum := by
  obtain ⟨w, hw, h0⟩ := sum_pos hp
  exact Nat.lt_of_lt_of_le h0 (sum_of_mem ((h.mem h0).2 hw))
theorem Onto.bd {od W V : List Nat} (h : Onto od W V) {b : Nat} (hb : 0 < b) (hw : ∀ w ∈ W, w < b) : ∀ w ∈ V, w < b := by
  intro w hv
  by_cases e : 0 < w
  · exact hw w ((h.mem e).1 hv)
  · omega
section
variable {m K : Nat} {ss : List Stp} (h : Trim m ss K)
include h
theorem Trim.onto {s : Stp} (hs : s ∈ ss) (hm : s.1 ∈ bTm (stS ss) K) : Onto (bTm (stS ss) K) s.2.2 (renS (bTm (stS ss) K) s).2.2 := ⟨h.nd, rfl, fun _ ht => h.zero hs hm ht⟩
theorem Trim.k1 : 1 ≤ K := by
  rcases Nat.eq_zero_or_pos K with e | e
  · have := h.len
    rw [e] at this
    simp [bTm] at this
  · exact e
theorem Trim.fgood : Good K (fnd (bTm (stS ss) K) ss) where
  m1 := h.k1
  m12 := Nat.le_trans h.km h.gd.m12
  ln := by
    unfold fnd
    rw [List.length_map]
    exact Nat.le_trans (List.length_filter_le _ _) h.gd.ln
  nd := h.fkeys
  ok := fun s hs => by
    obtain ⟨t, ht, rfl⟩ := List.mem_map.1 hs
    obtain ⟨ht, hm⟩ := List.mem_filter.1 ht
    have hm := of_decide_eq_true hm
    have ok := h.gd.ok t ht
    have o := h.onto ht hm
    refine ⟨?_, ok.nm, ?_, o.pos ok.ps, o.bd (Nat.two_pow_pos _) ok.bd⟩
    · have := List.idxOf_lt_length_iff.2 hm
      rw [h.len] at this
      exact this
    · show (List.map _ _).length = K
      rw [List.length_map, h.len]
theorem Trim.good : Good K (foS (stS ss) K) where
  m1 := h.k1
  m12 := Nat.le_trans h.km h.gd.m12
  ln := by rw [h.perm.length_eq]; exact h.fgood.ln
  nd := h.keys
  ok := fun s hs => h.fgood.ok s (h.perm.mem_iff.1 hs)
theorem Trim.made (hl : ∀ s ∈ ss, gcdL s.2.2 = 1) : mkS (foS (stS ss) K) = srtS (fnd (bTm (stS ss) K) ss) := by
  show srtS ((foS (stS ss) K).map lowS) = _
  have e : (foS (stS ss) K).map lowS = foS (stS ss) K := by
    conv => rhs; rw [← List.map_id (foS (stS ss) K)]
    refine List.map_congr_left fun s hs => ?_
    obtain ⟨t, ht, rfl⟩ := List.mem_map.1 (h.perm.mem_iff.1 hs)
    obtain ⟨ht, hm⟩ := List.mem_filter.1 ht
    have o := h.onto ht (of_decide_eq_true hm)
    unfold lowS
    rw [low_one (by rw [o.gcd]; exact hl t ht)]
    rfl
  rw [e]
  exact srt_perm h.perm h.keys
theorem Trim.uniq {J : Nat} (hl : (bTm (stS ss) J).length = J) (go : ∀ k, k < J → k < (bTm (stS ss) k).length) : J = K := by
  rcases Nat.lt_trichotomy J K with q | q | q
  · have := h.go J q
    omega
  · exact q
  · have := go K q
    have := h.len
    omega
end
theorem srt_good {m : Nat} {ss : List Stp} (hg : Good m ss) : Good m (srtS ss) := by
  have p : (srtS ss).Perm ss := List.mergeSort_perm _ _
  exact ⟨hg.m1, hg.m12, by rw [p.length_eq]; exact hg.ln, by rw [(p.map keyS).nodup_iff]; exact hg.nd, fun s hs => hg.ok s (p.mem_iff.1 hs)⟩
theorem mem_srt {ss : List Stp} {s : Stp} : s ∈ srtS ss ↔ s ∈ ss := (List.mergeSort_perm _ _).mem_iff
theorem srt_srt {ss : List Stp} (hn : (ss.map keyS).Nodup) : srtS (srtS ss) = srtS ss := (srt_perm (List.mergeSort_perm ss (PySem.W.dataLe false stpP)).symm hn).symm
theorem pre_mem {a b : List Nat} (h : a <+: b) {i : Nat} (hi : i < a.length) : a.getD i 0 ∈ a ∧ a.getD i 0 = b.getD i 0 := by
  refine ⟨?_, pre_getD h hi⟩
  rw [List.getD_eq_getElem?_getD, List.getElem?_eq_getElem hi]
  exact List.getElem_mem hi
theorem nd_at {od : List Nat} (hn : od.Nodup) {i j : Nat} (hi : i < od.length) (hj : j < od.length) (e : od.getD i 0 = od.getD j 0) : i = j := by
  rw [List.getD_eq_getElem?_getD, List.getD_eq_getElem?_getD, List.getElem?_eq_getElem hi, List.getElem?_eq_getElem hj] at e
  exact (List.getElem_inj hn).1 e
theorem addA_app (a b : Onw) (ts : List Nat) : addA ts (a ++ b) = addA (addA ts a) b := by unfold addA; rw [List.foldl_append]
theorem pos_app (a b : Onw) : pos (a ++ b) = pos a ++ pos b := by unfold pos; rw [List.filter_append]
theorem addA_ren {od ts W : List Nat} (hn : od.Nodup) (hp : addA ts (pos (enW W)) <+: od) : addA (List.range ts.length) (pos (enW (od.map fun t => W.getD t 0))) = List.range (addA ts (pos (enW W))).length := by
  have hp0 : ts <+: od := (addA_pre _ ts).trans hp
  have hle : ts.length ≤ (addA ts (pos (enW W))).length := (addA_pre _ ts).length_le
  have hlo : (addA ts (pos (enW W))).length ≤ od.length := hp.length_le
  have e1 : enW (od.map fun t => W.getD t 0) = (List.range od.length).map fun i => (i, W.getD (od.getD i 0) 0) := by
    unfold enW
    rw [List.length_map]
    refine List.map_congr_left fun i hi => ?_
    have hi := List.mem_range.1 hi
    rw [List.getD_eq_getElem?_getD, List.getElem?_map, List.getElem?_eq_getElem hi, List.getD_eq_getElem?_getD (l := od), List.getElem?_eq_getElem hi]
    rfl
  have key : ∀ i, i ≤ od.length → addA (List.range ts.length) (pos ((List.range i).map fun i => (i, W.getD (od.getD i 0) 0))) = List.range (max ts.length (min i (addA ts (pos (enW W))).length)) := by
    intro i
    induction i with
    | zero =>
      intro _
      rw [Nat.zero_min, Nat.max_eq_left (Nat.zero_le _)]
      rfl
    | succ i ih =>
      intro hi
      have ih := ih (by omega)
      rw [List.range_succ, List.map_append, pos_app, addA_app, ih]
      show addA _ (pos [(i, W.getD (od.getD i 0) 0)]) = _
      by_cases hw : 0 < W.getD (od.getD i 0) 0
      · have e : pos [(i, W.getD (od.getD i 0) 0)] = [(i, W.getD (od.getD i 0) 0)] := by
          unfold pos
          rw [List.filter_cons, if_pos (decide_eq_true hw)]
          rfl
        rw [e]
        show add1 _ i = _
        have hin : od.getD i 0 ∈ addA ts (pos (enW W)) := mem_addA (z := (od.getD i 0, W.getD (od.getD i 0) 0)) (mem_en.2 ⟨rfl, hw⟩)
        have hi1 : i < (addA ts (pos (enW W))).length := by
          obtain ⟨j, hj, ej⟩ := List.getElem_of_mem hin
          have := pre_mem hp hj
          have e2 : od.getD j 0 = od.getD i 0 := by
            rw [← this.2, List.getD_eq_getElem?_getD, List.getElem?_eq_getElem hj]
            exact ej
          have := nd_at hn (by omega) (by omega) e2
          omega
        unfold add1
        by_cases hl : i < ts.length
        · rw [if_pos (List.mem_range.2 (by omega))]
          congr 1
          omega
        · rw [if_neg (fun h => by have := List.mem_range.1 h; omega)]
          rw [show max ts.length (min i (addA ts (pos (enW W))).length) = i by omega, show max ts.length (min (i + 1) (addA ts (pos (enW W))).length) = i + 1 by omega, List.range_succ]
      · have e : pos [(i, W.getD (od.getD i 0) 0)] = [] := by
          unfold pos
          rw [List.filter_cons, if_neg (by simpa using hw)]
          rfl
        rw [e]
        show List.range _ = _
        congr 1
        by_cases hl : i < ts.length
        · omega
        by_cases hl2 : i < (addA ts (pos (enW W))).length
        · have h1 := pre_mem hp hl2
          rw [← h1.2] at hw
          rcases mem_addA_inv h1.1 with q | ⟨z, hz, e2⟩
          · obtain ⟨j, hj, ej⟩ := List.getElem_of_mem q
            have h3 := pre_mem hp0 hj
            have e3 : od.getD j 0 = od.getD i 0 := by
              rw [← h3.2, ← h1.2, List.getD_eq_getElem?_getD, List.getElem?_eq_getElem hj]
              exact ej
            have := nd_at hn (by omega) (by omega) e3
            omega
          · have := mem_en.1 hz
            rw [e2] at this
            omega
        · omega
  rw [e1, key _ (Nat.le_refl _)]
  congr 1
  omega
theorem tT_ren {od : List Nat} (hn : od.Nodup) : ∀ (L : List (Str × List Nat)) {ts : List Nat}, tT (L.map fun z => (z.1, enW z.2)) ts <+: od → tT (L.map fun z => (z.1, enW (od.map fun t => z.2.getD t 0))) (List.range ts.length) = List.range (tT (L.map fun z => (z.1, enW z.2)) ts).length
  | [], _, _ => rfl
  | z :: L, ts, hp => by
    have hp : tT (L.map fun z => (z.1, enW z.2)) (addA ts (pos (enW z.2))) <+: od := hp
    show tT (L.map fun z => (z.1, enW (od.map fun t => z.2.getD t 0))) (addA (List.range ts.length) (pos (enW (od.map fun t => z.2.getD t 0)))) = _
    rw [addA_ren hn ((tT_pre _ _).trans hp), tT_ren hn L hp]
    rfl
section
variable {m K : Nat} {ss S' : List Stp} (h : Trim m ss K) (hS : S' = srtS (fnd (bTm (stS ss) K) ss))
include h hS
theorem Trim.told : Good K S' := hS ▸ srt_good h.fgood
theorem Trim.gon {k : Nat} (hk : k < K) {x : Str} (hx : x ∈ menuS ss ((bTm (stS ss) K).getD k 0)) : gonW S' k x = (bTm (stS ss) K).map fun t => (gonW ss ((bTm (stS ss) K).getD k 0) x).getD t 0 := by
  obtain ⟨s, hs, e1, e2⟩ := menu_iff.1 hx
  have hm : s.1 ∈ bTm (stS ss) K := by rw [e1]; exact h.mem hk
  have h1 : renS (bTm (stS ss) K) s ∈ S' := by
    rw [hS, mem_srt]
    exact List.mem_map.2 ⟨s, List.mem_filter.2 ⟨hs, decide_eq_true hm⟩, rfl⟩
  have h2 := gon_mem (h.told hS).nd h1
  have e3 : (renS (bTm (stS ss) K) s).1 = k := by
    show (bTm (stS ss) K).idxOf s.1 = k
    rw [e1]
    exact h.idx hk
  rw [e3] at h2
  rw [← e2]
  refine h2.trans ?_
  show (bTm (stS ss) K).map (fun t => s.2.2.getD t 0) = _
  rw [← e1, gon_mem h.gd.nd hs]
theorem Trim.menu {k : Nat} (hk : k < K) : menuS S' k = menuS ss ((bTm (stS ss) K).getD k 0) := by
  refine menu_same (h.told hS) h.gd fun x => ?_
  constructor
  · rintro ⟨s', hs', e1, e2⟩
    rw [hS, mem_srt] at hs'
    obtain ⟨s, hs, rfl⟩ := List.mem_map.1 hs'
    obtain ⟨hs, hm⟩ := List.mem_filter.1 hs
    have hl := List.idxOf_lt_length_iff.2 (of_decide_eq_true hm)
    refine ⟨s, hs, ?_, e2⟩
    have e1 : (bTm (stS ss) K).idxOf s.1 = k := e1
    rw [← e1, List.getD_eq_getElem?_getD, List.getElem?_eq_getElem hl]
    exact (List.getElem_idxOf hl).symm
  · rintro ⟨s, hs, e1, e2⟩
    refine ⟨renS (bTm (stS ss) K) s, ?_, ?_, e2⟩
    · rw [hS, mem_srt]
      exact List.mem_map.2 ⟨s, List.mem_filter.2 ⟨hs, decide_eq_true (by rw [e1]; exact h.mem hk)⟩, rfl⟩
    · show (bTm (stS ss) K).idxOf s.1 = k
      rw [e1]
      exact h.idx hk
theorem Trim.found : ∀ k, k ≤ K → bTm (stS S') k = List.range (bTm (stS ss) k).length
  | 0, _ => rfl
  | k + 1, hk => by
    have ih := Trim.found k (by omega)
    have hkl := h.go k (by omega)
    have e0 : (bTm (stS S') k).getD k 0 = k := by
      rw [ih, List.getD_eq_getElem?_getD, List.getElem?_range hkl]
      rfl
    show tT (stS S' ((bTm (stS S') k).getD k 0)) (bTm (stS S') k) = _
    rw [e0, ih]
    have e1 : stS ss ((bTm (stS ss) k).getD k 0) = ((menuS ss ((bTm (stS ss) K).getD k 0)).map fun x => (x, gonW ss ((bTm (stS ss) K).getD k 0) x)).map fun z => (z.1, enW z.2) := by
      rw [h.at (by omega), st_en, List.map_map]
      rfl
    have e2 : stS S' k = ((menuS ss ((bTm (stS ss) K).getD k 0)).map fun x => (x, gonW ss ((bTm (stS ss) K).getD k 0) x)).map fun z => (z.1, enW ((bTm (stS ss) K).map fun t => z.2.getD t 0)) := by
      rw [st_en, h.menu hS (by omega), List.map_map]
      refine List.map_congr_left fun x hx => ?_
      rw [h.gon hS (by omega) hx]
      rfl
    have hp : tT (stS ss ((bTm (stS ss) k).getD k 0)) (bTm (stS ss) k) <+: bTm (stS ss) K := bT_pre (stS ss) hk
    rw [e1] at hp
    rw [e2, tT_ren h.nd _ hp, ← e1]
    rfl
theorem Trim.again : Trim K S' K where
  gd := h.told hS
  km := Nat.le_refl _
  len := by rw [h.found hS K (Nat.le_refl _), List.length_range, h.len]
  go := fun k hk => by rw [h.found hS k (by omega), List.length_range]; exact h.go k hk
  lt := fun t ht => by
    rw [h.found hS K (Nat.le_refl _), h.len] at ht
    exact List.mem_range.1 ht
theorem Trim.same : srtS (fnd (bTm (stS S') K) S') = S' := by
  have e : fnd (bTm (stS S') K) S' = S' := by
    rw [h.found hS K (Nat.le_refl _), h.len]
    unfold fnd
    rw [List.filter_eq_self.2 fun s hs => decide_eq_true (List.mem_range.2 ((h.told hS).ok s hs).rm)]
    conv => rhs; rw [← List.map_id S']
    refine List.map_congr_left fun s hs => ?_
    have ok := (h.told hS).ok s hs
    unfold renS
    refine Prod.ext ?_ (Prod.ext rfl ?_)
    · show (List.range K).idxOf s.1 = s.1
      have : (List.range K)[s.1]'(by rw [List.length_range]; exact ok.rm) = s.1 := List.getElem_range ..
      conv => lhs; rw [← this]
      exact List.nodup_range.idxOf_getElem s.1 (by rw [List.length_range]; exact ok.rm)
    · show (List.range K).map (fun t => s.2.2.getD t 0) = s.2.2
      rw [← ok.ln]
      refine List.ext_getElem (by simp) fun i h1 h2 => ?_
      rw [List.getElem_map, List.getElem_range, List.getD_eq_getElem?_getD, List.getElem?_eq_getElem h2]
      rfl
  rw [e, hS, srt_srt h.fkeys]
end
end Far
namespace Pw
open PySem PySem.Spec PyProof.Rows L2
end Pw
namespace Far
open PySem PySem.Spec PyProof.Rows L2 Pw
open FM (Bq)
inductive Row where
  | one | can (s : Str) | on (s : Str) (i : Nat) | neg (i : Nat) | lss (i : Nat) (q : Rat) | both (i j : Nat) | eith (i j : Nat)
def Row.ok (at_ : Nat) : Row → Prop
  | .one => True
  | .can s => nmB s = true
  | .on s i => nmB s = true ∧ i < at_
  | .neg i => i < at_
  | .lss i q => i < at_ ∧ Bq 20 q ∧ 0 ≤ q ∧ q ≤ 1
  | .both i j => i < at_ ∧ j < at_
  | .eith i j => i < at_ ∧ j < at_
def RowsOk (rs : List Row) : Prop := ∀ (k : Nat) (r : Row), rs[k]? = some r → r.ok k
def dep (f : List Nat) : Row → Nat
  | .one => 0
  | .can _ => 1
  | .on _ i => f.getD i 0 + 1
  | .neg i => f.getD i 0
  | .lss i _ => f.getD i 0
  | .both i j => max (f.getD i 0) (f.getD j 0)
  | .eith i j => max (f.getD i 0) (f.getD j 0)
def deps (rs : List Row) : List Nat := rs.foldl (fun f r => f ++ [dep f r]) []
theorem deps_snoc (rs : List Row) (r : Row) : deps (rs ++ [r]) = deps rs ++ [dep (deps rs) r] := by
  unfold deps
  rw [List.foldl_append]
  rfl
theorem deps_len (rs : List Row) : (deps rs).length = rs.length := by
  unfold deps
  have : ∀ (rs : List Row) (f : List Nat), (rs.foldl (fun f r => f ++ [dep f r]) f).length = f.length + rs.length := by
    intro rs
    induction rs with
    | nil => intro f; simp
    | cons r rs ih => intro f; rw [List.foldl_cons, ih]; simp; omega
  rw [this]
  simp
def prK (kk : Nat → List Key) (z : Nat × Nat) : D := .tup [.key (kk z.1), .int (z.2 : Int)]
def frowK (kk : Nat → List Key) (r : FRow) : D := .tup [.int (r.1 : Int), .str r.2.1, .lst (r.2.2.map (prK kk))]
def thsK (kk : Nat → List Key) (ts : List Nat) : List D := ts.map fun t => D.key (kk t)
def numK (kk : Nat → List Key) : Nat → List Nat → List (List Key × D)
  | _, [] => []
  | n, t :: ts => (kk t, .int (n : Int)) :: numK kk (n + 1) ts
theorem numK_app (kk : Nat → List Key) (t : Nat) : ∀ (ts : List Nat) (n : Nat), numK kk n (ts ++ [t]) = numK kk n ts ++ [(kk t, .int ((n + ts.length : Nat) : Int))]
  | [], n => by simp [numK]
  | a :: ts, n => by
    show (kk a, .int (n : Int)) :: numK kk (n + 1) (ts ++ [t]) = _
    rw [numK_app kk t ts (n + 1)]
    show _ = (kk a, .int (n : Int)) :: (numK kk (n + 1) ts ++ _)
    rw [List.length_cons, show n + 1 + ts.length = n + (ts.length + 1) by omega]
structure FJ (kk : Nat → List Key) (μ0 m : Mu) (q e w : Addr) (ts : List Nat) (rs : List FRow) : Prop where
  sub : Subm μ0 m
  tq : m q = some (.lst (thsK kk ts))
  te : m e = some (.dT (numK kk 0 ts))
  tw : m w = some (.lst (rs.map (frowK kk)))
theorem FJ.row {kk : Nat → List Key} {μ0 m : Mu} {q e w : Addr} {ts : List Nat} {rs : List FRow} (I : FJ kk μ0 m q e w ts rs) (A : FA μ0 q e w) (r : FRow) : FJ kk μ0 (put m w (.lst (rs.map (frowK kk) ++ [frowK kk r]))) q e w ts (rs ++ [r]) :=
  ⟨I.sub.putN A.w0, by rw [put_ne A.qw]; exact I.tq, by rw [put_ne A.ew]; exact I.te, by rw [put_same, List.map_append]; rfl⟩
theorem FJ.thing {kk : Nat → List Key} {μ0 m : Mu} {q e w : Addr} {ts : List Nat} {rs : List FRow} (I : FJ kk μ0 m q e w ts rs) (A : FA μ0 q e w) (t : Nat) : FJ kk μ0 (put (put m e (.dT (numK kk 0 ts ++ [(kk t, .int (ts.length : Int))]))) q (.lst (thsK kk ts ++ [.key (kk t)]))) q e w (ts ++ [t]) rs := by
  refine ⟨(I.sub.putN A.e0).putN A.q0, ?_, ?_, ?_⟩
  · rw [put_same]
    unfold thsK
    rw [List.map_append]
    rfl
  · rw [put_ne (fun z => A.qe z.symm), put_same, numK_app, Nat.zero_add]
  · rw [put_ne (fun z => A.qw z.symm), put_ne (fun z => A.ew z.symm)]
    exact I.tw
structure FkOk (kk : Nat → List Key) (St : Nat → List (Str × Onw)) (A : Nat → Prop) : Prop where
  a0 : A 0
  on : ∀ t, A t → ∀ z ∈ St t, ∀ y ∈ z.2, A y.1
  inj : ∀ t u, A t → A u → kk t = kk u → t = u
  ln : ∀ t, A t → (St t).length ≤ 1000 ∧ ∀ z ∈ St t, z.2.length ≤ 1000
theorem FkOk.ts {kk : Nat → List Key} {St : Nat → List (Str × Onw)} {A : Nat → Prop} (F : FkOk kk St A) : ∀ k, ∀ t ∈ bTm St k, A t
  | 0, t, h => by
    rw [List.mem_singleton.1 h]
    exact F.a0
  | k + 1, t, h => by
    have g : ∀ (on : Onw) (ts : List Nat), (∀ t ∈ ts, A t) → (∀ y ∈ on, A y.1) → ∀ t ∈ addA ts on, A t := fun on => by
      induction on with
      | nil => exact fun ts h _ => h
      | cons y on ih =>
        intro ts h1 h2 t ht
        refine ih (add1 ts y.1) (fun t ht => ?_) (fun z hz => h2 z (List.mem_cons_of_mem _ hz)) t ht
        unfold add1 at ht
        split at ht
        · exact h1 t ht
        · rcases List.mem_append.1 ht with q | q
          · exact h1 t q
          · rw [List.mem_singleton.1 q]
            exact h2 y (List.mem_cons_self ..)
    have g2 : ∀ (S : List (Str × Onw)) (ts : List Nat), (∀ t ∈ ts, A t) → (∀ z ∈ S, ∀ y ∈ z.2, A y.1) → ∀ t ∈ tT S ts, A t := fun S => by
      induction S with
      | nil => exact fun ts h _ => h
      | cons z S ih =>
        intro ts h1 h2 t ht
        refine ih (addA ts (pos z.2)) (fun t ht => g _ _ h1 (fun y hy => h2 z (List.mem_cons_self ..) y (List.mem_filter.1 hy).1) t ht) (fun z hz => h2 z (List.mem_cons_of_mem _ hz)) t ht
    have ih := F.ts k
    refine g2 _ _ ih (fun z hz y hy => F.on _ ?_ z hz y hy) t h
    rw [List.getD_eq_getElem?_getD]
    cases e : (bTm St k)[k]? with
    | none => exact F.a0
    | some u => exact ih u (List.mem_of_getElem? e)
end Far
namespace Pw
open PySem PySem.Spec PyProof.Rows L2
open Evl (Ex ex_l ex_t fresh_back)
abbrev KRow : Type := List Key × Addr × V
section
variable {T : Cfg} {W : WX} {s : S} {ρ : List (Option D)} {m0 μ : Mu} {P : D → Mu → Prop} {XP : XW} {K : Out → Prop}
abbrev kyT (ks : List Key) : D := .tup (ks.map kD)
end
end Pw
namespace Far
open PySem PySem.Spec PyProof.Rows L2 Pw
def prF (kk : Nat → List Key) (z : Nat × Nat) : D := .tup [kyT (kk z.1), .int (z.2 : Int)]
def frowF (kk : Nat → List Key) (r : FRow) : D := .tup [.int (r.1 : Int), .str r.2.1, .lst (r.2.2.map (prF kk))]
def thsF (kk : Nat → List Key) (ts : List Nat) : List D := ts.map fun t => kyT (kk t)
structure FJF (kk : Nat → List Key) (μ0 m : Mu) (q e w : Addr) (ts : List Nat) (rs : List FRow) : Prop where
  sub : Subm μ0 m
  tq : m q = some (.lst (thsF kk ts))
  te : m e = some (.dF e (numK kk 0 ts))
  tw : m w = some (.lst (rs.map (frowF kk)))
theorem FJF.row {kk : Nat → List Key} {μ0 m : Mu} {q e w : Addr} {ts : List Nat} {rs : List FRow} (I : FJF kk μ0 m q e w ts rs) (A : FA μ0 q e w) (r : FRow) : FJF kk μ0 (put m w (.lst (rs.map (frowF kk) ++ [frowF kk r]))) q e w ts (rs ++ [r]) :=
  ⟨I.sub.putN A.w0, by rw [put_ne A.qw]; exact I.tq, by rw [put_ne A.ew]; exact I.te, by rw [put_same, List.map_append]; rfl⟩
theorem FJF.thing {kk : Nat → List Key} {μ0 m : Mu} {q e w : Addr} {ts : List Nat} {rs : List FRow} (I : FJF kk μ0 m q e w ts rs) (A : FA μ0 q e w) (t : Nat) : FJF kk μ0 (put (put m e (.dF e (numK kk 0 ts ++ [(kk t, .int (ts.length : Int))]))) q (.lst (thsF kk ts ++ [kyT (kk t)]))) q e w (ts ++ [t]) rs := by
  refine ⟨(I.sub.putN A.e0).putN A.q0, ?_, ?_, ?_⟩
  · rw [put_same]
    unfold thsF
    rw [List.map_append]
    rfl
  · rw [put_ne (fun z => A.qe z.symm), put_same, numK_app, Nat.zero_add]
  · rw [put_ne (fun z => A.qw z.symm), put_ne (fun z => A.ew z.symm)]
    exact I.tw
end Far
namespace Lz
open PySem PySem.Spec PyProof.Rows
def Zo (h : Heap) (z ti tu t : Addr) (f : Bool) : Prop := h.get? z = some { cls := .type "zip", dict := none, data := .fields #[rawInt t, .bool f, .bool false, .ref ti, .ref tu], slots := #[] }
section
variable {prog : Program} {w : World} {A : Around} {E : Value → Shared → Prop} {s : Shared}
theorem free_no {z ti tu t : Addr} {f : Bool} {ot : Obj} {Q : Bool → Shared → Prop} (hz : Zo s.heap z ti tu t f) (ht : s.heap.get? t = some ot) (hQ : ∀ h', Zo h' z ti tu t true → h'.objs.size = s.heap.objs.size → (∀ c o, c ≠ z → s.heap.get? c = some o → h'.get? c = some o) → Q false { s with heap := h' }) :
    wpAny (model prog w) A (Builtin.SmallTypes.ownedTupleIsFree (.ref z)) Q E s := by
  unfold Builtin.SmallTypes.ownedTupleIsFree
  refine wpAny_bind (wpAny_field hz rfl (x := rawInt t) rfl ?_)
  show wpAny _ _ (loadIfAlive t >>= _) Q E s
  refine wpAny_bind (PySem.W.kdx_alive ht ?_)
  show wpAny _ _ (field (.ref z) 1 >>= _) Q E s
  refine wpAny_bind (wpAny_field hz rfl (x := .bool f) rfl ?_)
  cases f with
  | true => exact wpAny_pure (hQ s.heap hz rfl fun _ _ _ e => e)
  | false =>
    show wpAny _ _ (setField (.ref z) 1 (.bool true) >>= _) Q E s
    exact wpAny_bind (wpAny_setField_rec hz (by simp) fun h1 z1 s1 => wpAny_pure (hQ h1 z1 s1.1 fun c o hc e => s1.extBut _ _ hc e))
theorem sub_st : isSubtype (.type "StopIteration") (.type "StopIteration") = pure true := by rw [isSubtype_type]; kernel_rfl
theorem next_out {z ti tu t p q l r : Addr} {f : Bool} {ot : Obj} {k : Nat} {xs ys : Array Value} {x y : Value} {Q : Option Value → Shared → Prop} (hz : Zo s.heap z ti tu t f) (ht : s.heap.get? t = some ot) (hp : IsPair s.heap ti (.ref p) (.ref q))
    (pz : p ≠ z) (qz : q ≠ z) (lz : l ≠ z) (rz : r ≠ z) (pq : p ≠ q) (lp : l ≠ p) (rp : r ≠ p) (tz : ti ≠ z)
    (i1 : s.heap.IsListIter p l k) (i2 : s.heap.IsListIter q r k) (m1 : s.heap.IsList l xs) (m2 : s.heap.IsList r ys) (ex : xs[k]? = some x) (ey : ys[k]? = some y)
    (hQ : ∀ h', Zo h' z ti tu t true → h'.IsListIter p l (k + 1) → h'.IsListIter q r (k + 1) → IsPair h' s.heap.objs.size x y → h'.objs.size = s.heap.objs.size + 1 → (∀ c o, c ≠ z → c ≠ p → c ≠ q → s.heap.get? c = some o → h'.get? c = some o) → Q (some (.ref s.heap.objs.size)) { s with heap := h' }) :
    wpAny (model prog w) A (pyNext (.ref z)) Q E s := by
  have ty : s.TypeIs (.ref z) "zip" := ⟨_, hz, rfl⟩
  unfold pyNext
  refine wpAny_bind (wpAny_attempt (wpAny_callSpecial?_slot (name := Str.ofString "__next__") ty F.slot_zip_next (wpAny_call_entry F.slot_zip_next ty F.entry_zip_next ?_ (F.args_zip_next_1 _))))
  show wpAny _ _ (field (.ref z) 2 >>= _) _ _ s
  refine wpAny_bind (wpAny_field hz rfl (x := .bool false) rfl ?_)
  show wpAny _ _ (field (.ref z) 3 >>= _) _ _ s
  refine wpAny_bind (wpAny_field hz rfl (x := .ref ti) rfl (wpAny_bind (wpAny_seqItems hp rfl ?_)))
  show wpAny _ _ (Builtin.SmallTypes.ownedTupleIsFree (.ref z) >>= _) _ _ s
  refine wpAny_bind (free_no hz ht fun h1 z1 e1 k1 => ?_)
  simp only [Bool.false_eq_true, if_false]
  refine wpAny_bind ?_
  rw [show (#[Value.ref p, Value.ref q] : Array Value) = [Value.ref p, Value.ref q].toArray from rfl, List.forIn_toArray]
  simp only [List.forIn_cons, List.forIn_nil]
  refine wpAny_bind (wpAny_bind (wpAny_holding ?_))
  show wpAny _ _ (Builtin.SmallTypes.nextOf (.ref p) >>= _) _ _ _
  refine wpAny_bind (wpAny_nextOf_list_item (i1.at fun o e => k1 _ o pz e) (m1.at fun o e => k1 _ o lz e) ex fun h2 j1 s2 => wpAny_pure ?_)
  refine wpAny_pure ?_
  refine wpAny_bind (wpAny_bind (wpAny_holding ?_))
  show wpAny _ _ (Builtin.SmallTypes.nextOf (.ref q) >>= _) _ _ _
  have k2 : ∀ c o, c ≠ z → c ≠ p → s.heap.get? c = some o → h2.get? c = some o := fun c o a b e => s2.extBut _ _ b (k1 c o a e)
  refine wpAny_bind (wpAny_nextOf_list_item (i2.at fun o e => k2 _ o qz pq.symm e) (m2.at fun o e => k2 _ o rz rp e) ey fun h3 j2 s3 => wpAny_pure ?_)
  refine wpAny_pure ?_
  refine wpAny_pure ?_
  have k3 : ∀ c o, c ≠ z → c ≠ p → c ≠ q → s.heap.get? c = some o → h3.get? c = some o := fun c o a b d e => s3.extBut _ _ d (k2 c o a b e)
  have hsz : h3.objs.size = s.heap.objs.size := by rw [s3.1, s2.1]; exact e1
  show wpAny _ _ (newTuple [x, y] >>= _) _ _ _
  refine wpAny_bind (wpAny_newTuple (wpAny_pure ⟨_, rfl, wpAny_pure ?_⟩))
  have z3 : Zo h3 z ti tu t true := s3.extBut _ _ qz.symm (s2.extBut _ _ pz.symm z1)
  show Q (some (.ref h3.objs.size)) _
  rw [hsz]
  refine hQ _ (Heap.get?_push_of_some _ z3) ((j1.extBut s3.extBut pq).at fun o e => Heap.get?_push_of_some _ e) (j2.at fun o e => Heap.get?_push_of_some _ e) ?_ ?_ fun c o a b d e => Heap.get?_push_of_some _ (k3 c o a b d e)
  · show IsPair _ s.heap.objs.size x y
    rw [← hsz]
    exact Heap.get?_push_size _ rfl
  · rw [Heap.size_push, hsz]
theorem end_out {z ti tu t p q l : Addr} {f : Bool} {ot : Obj} {k : Nat} {xs : Array Value} {Q : Option Value → Shared → Prop} (hh : A.handled = none) (hz : Zo s.heap z ti tu t f) (ht : s.heap.get? t = some ot) (hp : IsPair s.heap ti (.ref p) (.ref q))
    (pz : p ≠ z) (lz : l ≠ z) (i1 : s.heap.IsListIter p l k) (m1 : s.heap.IsList l xs) (ex : xs[k]? = none)
    (hQ : ∀ h', (∀ c o, c ≠ z → c ≠ p → s.heap.get? c = some o → h'.get? c = some o) → Q none { s with heap := h' }) : wpAny (model prog w) A (pyNext (.ref z)) Q E s := by
  have ty : s.TypeIs (.ref z) "zip" := ⟨_, hz, rfl⟩
  unfold pyNext
  refine wpAny_bind (wpAny_attempt (wpAny_callSpecial?_slot (name := Str.ofString "__next__") ty F.slot_zip_next (wpAny_call_entry F.slot_zip_next ty F.entry_zip_next ?_ (F.args_zip_next_1 _))))
  show wpAny _ _ (field (.ref z) 2 >>= _) _ _ s
  refine wpAny_bind (wpAny_field hz rfl (x := .bool false) rfl ?_)
  show wpAny _ _ (field (.ref z) 3 >>= _) _ _ s
  refine wpAny_bind (wpAny_field hz rfl (x := .ref ti) rfl (wpAny_bind (wpAny_seqItems hp rfl ?_)))
  show wpAny _ _ (Builtin.SmallTypes.ownedTupleIsFree (.ref z) >>= _) _ _ s
  refine wpAny_bind (free_no hz ht fun h1 z1 e1 k1 => ?_)
  simp only [Bool.false_eq_true, if_false]
  refine wpAny_bind ?_
  rw [show (#[Value.ref p, Value.ref q] : Array Value) = [Value.ref p, Value.ref q].toArray from rfl, List.forIn_toArray]
  simp only [List.forIn_cons, List.forIn_nil]
  refine wpAny_bind (wpAny_bind (wpAny_holding ?_))
  show wpAny _ _ (Builtin.SmallTypes.nextOf (.ref p) >>= _) _ _ _
  refine wpAny_bind (wpAny_nextOf_list_end hh (i1.at fun o e => k1 _ o pz e) (m1.at fun o e => k1 _ o lz e) ex fun h2 e s2 he => ?_)
  obtain ⟨oe, ho, hc⟩ := he
  exact wpAny_bind (wpAny_isInstance (T := "StopIteration") (b := true) ⟨oe, ho, hc⟩ sub_st (wpAny_pure (hQ h2 fun c o a b e => s2 _ _ b (k1 c o a e))))
def Zs (h : Heap) (z ti tu p q S : Addr) (k : Nat) : Prop := (k = 0 ∧ IsZip h z ti tu .none ∧ ∃ a b, IsPair h tu a b) ∨ ∃ t f ot, Zo h z ti tu t f ∧ h.get? t = some ot ∧ S < t
structure Ap (z ti tu p q l r S : Addr) : Prop where
  d : ZipApart z ti tu p q l r
  Sz : z < S
  St : tu < S
  Si : ti < S
  Sp : p < S
  Sq : q < S
  Sl : l < S
  Sr : r < S
def Pr (xs ys : Array Value) (S : Addr) (h : Heap) (as : List Addr) : Prop := as.Nodup ∧ ∀ (j : Nat) (a : Addr), as[j]? = some a → S < a ∧ ∃ x y, xs[j]? = some x ∧ ys[j]? = some y ∧ IsPair h a x y
theorem no_len : typeLookup (.type "zip") "__len__" = pure none := by rw [typeLookup_type, builtinLookup_eq_fast]; kernel_rfl
theorem no_hint : typeLookup (.type "zip") "__length_hint__" = pure none := by rw [typeLookup_type, builtinLookup_eq_fast]; kernel_rfl
end
section
variable {prog : Program} {w : World} {A : Around} {s : Shared} {R : Result → Shared → Prop} {z ti tu p q l r S : Addr} {xs ys : Array Value}
theorem loop (hh : A.handled = none) (ap : Ap z ti tu p q l r S) (hxy : xs.size ≤ ys.size) (hn : xs.size ≤ sizeLine) (res : Value) {h0 : Heap}
    (hR : ∀ h' tk acc c as, (∀ b o, b ≠ S → b ≠ z → b ≠ tu → b ≠ p → b ≠ q → h0.get? b = some o → h'.get? b = some o) → h'.get? S = some { cls := .type "list", dict := none, data := .seq acc c, slots := #[] } → as.length = xs.size → Pr xs ys S h' as → acc.toList = as.map Value.ref → R (.ok (.ret res)) { s with heap := h', toks := tk }) :
    ∀ (m k : Nat) (h : Heap) (tk c : Nat) (acc : Array Value) (as : List Addr), xs.size - k = m → k ≤ xs.size → Zs h z ti tu p q S k → IsPair h ti (.ref p) (.ref q) → h.IsListIter p l k → h.IsListIter q r k → h.IsList l xs → h.IsList r ys → (∀ b o, b ≠ S → b ≠ z → b ≠ tu → b ≠ p → b ≠ q → h0.get? b = some o → h.get? b = some o) →
      h.get? S = some { cls := .type "list", dict := none, data := .seq acc c, slots := #[] } → acc.toList = as.map Value.ref → as.length = k → Pr xs ys S h as → codeAny (model prog w) A (.builtin "list.extend.loop" ⟨[.ref S, .ref z, res], []⟩) R { s with heap := h, toks := tk } := by
  obtain ⟨D, Sz, St, Si, Sp, Sq, Sl, Sr⟩ := ap
  intro m
  induction m with
  | zero =>
    intro k h tk c acc as hm hk zs hp i1 i2 m1 m2 keep hS ha hl pr
    refine codeAny_builtin PySem.F.entry_extend_loop ?_
    rw [Around.under_plainId PySem.F.plain_extend_loop _]
    show wpAny _ A.in1 (pyNext (.ref z) >>= _) _ _ _
    have ex : xs[k]? = none := Array.getElem?_eq_none (by omega)
    have fin : ∀ h', (∀ c o, c ≠ z → c ≠ tu → c ≠ p → c ≠ q → h.get? c = some o → h'.get? c = some o) → R (.ok (.ret res)) { s with heap := h', toks := tk } := fun h' kp => by
      refine hR h' tk acc c as (fun b o b1 b2 b3 b4 b5 e => kp b o b2 b3 b4 b5 (keep b o b1 b2 b3 b4 b5 e)) (kp S _ (Nat.ne_of_gt Sz) (Nat.ne_of_gt St) (Nat.ne_of_gt Sp) (Nat.ne_of_gt Sq) hS) (by omega) ⟨pr.1, fun j a hj => ?_⟩ ha
      obtain ⟨g, x, y, e1, e2, e3⟩ := pr.2 j a hj
      exact ⟨g, x, y, e1, e2, kp a _ (Nat.ne_of_gt (Nat.lt_trans Sz g)) (Nat.ne_of_gt (Nat.lt_trans St g)) (Nat.ne_of_gt (Nat.lt_trans Sp g)) (Nat.ne_of_gt (Nat.lt_trans Sq g)) e3⟩
    rcases zs with ⟨rfl, hz, a, b, ht⟩ | ⟨t, f, ot, hz, ht, hSt⟩
    · exact wpAny_bind (wpAny_pyNext_zip_end (s := { s with heap := h, toks := tk }) (A := A.in1) hh D hz hp ht i1 i2 m1 m2 (.inl ex) fun h' kp => wpAny_pure (fin h' kp))
    · exact wpAny_bind (end_out (s := { s with heap := h, toks := tk }) (A := A.in1) hh hz ht hp D.i1z D.l1z i1 m1 ex fun h' kp => wpAny_pure (fin h' fun c o a _ b _ e => kp c o a b e))
  | succ m ih =>
    intro k h tk c acc as hm hk zs hp i1 i2 m1 m2 keep hS ha hl pr
    have hlt : k < xs.size := by omega
    have ex : xs[k]? = some xs[k] := Array.getElem?_eq_getElem hlt
    have ey : ys[k]? = some ys[k] := Array.getElem?_eq_getElem (by omega)
    have hsz : acc.size = k := by rw [← Array.length_toList, ha, List.length_map, hl]
    have SL : S < h.objs.size := Heap.lt_size hS
    refine codeAny_builtin PySem.F.entry_extend_loop ?_
    rw [Around.under_plainId PySem.F.plain_extend_loop _]
    show wpAny _ A.in1 (pyNext (.ref z) >>= _) _ _ _
    have go : ∀ h', (∃ t f ot, Zo h' z ti tu t f ∧ h'.get? t = some ot ∧ S < t) → h'.IsListIter p l (k + 1) → h'.IsListIter q r (k + 1) → IsPair h' h.objs.size xs[k] ys[k] → (∀ c o, c ≠ z → c ≠ tu → c ≠ p → c ≠ q → h.get? c = some o → h'.get? c = some o) →
        wpAny (model prog w) A.in1 (updateSeq S (·.push (Value.ref h.objs.size)) >>= fun _ => again (.builtin "list.extend.loop" ⟨[.ref S, .ref z, res], []⟩)) (fun fin s' => match fin with | .done f => R (.ok f) s' | .again c' => c'.quiet = true ∧ codeAny (model prog w) A c' R s') (fun e s' => R (.error e) s') { s with heap := h', toks := tk } := by
      intro h' zo j1 j2 hpr kp
      have S' := kp S _ (Nat.ne_of_gt Sz) (Nat.ne_of_gt St) (Nat.ne_of_gt Sp) (Nat.ne_of_gt Sq) hS
      have up : ∀ b o, b ≠ S → h'.get? b = some o → (h'.update S (Obj.mapSeq (·.push (Value.ref h.objs.size)))).get? b = some o := fun b o hb e => (Heap.get?_update_other _ _ (Ne.symm hb)).trans e
      obtain ⟨t, f, ot, g1, g2, g3⟩ := zo
      have ndn : (as ++ [h.objs.size]).Nodup := by
        rw [List.nodup_append]
        refine ⟨pr.1, by simp, fun a hma b hb e => ?_⟩
        rw [List.mem_singleton] at hb
        obtain ⟨j, hj⟩ := List.getElem?_of_mem hma
        obtain ⟨_, _, _, _, _, e3⟩ := pr.2 j a hj
        rw [e, hb] at e3
        exact Nat.lt_irrefl _ (Heap.lt_size e3)
      refine wpAny_bind (wpAny_updateSeq S' rfl (wpAny_pure ⟨plainId_quiet PySem.F.plain_extend_loop _, ih (k + 1) _ tk _ (acc.push (Value.ref h.objs.size)) (as ++ [h.objs.size]) (by omega) hlt (.inr ⟨t, f, ot, up z _ (Nat.ne_of_lt Sz) g1, up t _ (Nat.ne_of_gt g3) g2, g3⟩) (up ti _ (Nat.ne_of_lt Si) (kp ti _ D.TIz D.TITO D.TIi1 D.TIi2 hp))
        (j1.at fun o e => up p o (Nat.ne_of_lt Sp) e) (j2.at fun o e => up q o (Nat.ne_of_lt Sq) e) (m1.at fun o e => up l o (Nat.ne_of_lt Sl) (kp l o D.l1z D.l1TO D.l1i1 D.l1i2 e)) (m2.at fun o e => up r o (Nat.ne_of_lt Sr) (kp r o D.l2z D.l2TO D.l2i1 D.l2i2 e)) (fun b o b1 b2 b3 b4 b5 e => up b o b1 (kp b o b2 b3 b4 b5 (keep b o b1 b2 b3 b4 b5 e)))
        (Heap.get?_update_self _ S' rfl) (by rw [Array.toList_push, ha, List.map_append]; rfl) (by rw [List.length_append, hl]; rfl) ⟨ndn, fun j b hj => ?_⟩⟩) (by rw [hsz]; omega) (by show (acc.push (Value.ref h.objs.size)).size ≤ sizeLine + 1; rw [Array.size_push, hsz]; omega))
      rcases Nat.lt_trichotomy j as.length with g | g | g
      · rw [List.getElem?_append_left g] at hj
        obtain ⟨u, x, y, e1, e2, e3⟩ := pr.2 j b hj
        exact ⟨u, x, y, e1, e2, up b _ (Nat.ne_of_gt u) (kp b _ (Nat.ne_of_gt (Nat.lt_trans Sz u)) (Nat.ne_of_gt (Nat.lt_trans St u)) (Nat.ne_of_gt (Nat.lt_trans Sp u)) (Nat.ne_of_gt (Nat.lt_trans Sq u)) e3)⟩
      · subst g
        have hb : h.objs.size = b := by simpa using hj
        subst hb
        exact ⟨SL, _, _, by rw [hl]; exact ex, by rw [hl]; exact ey, up _ _ (Nat.ne_of_gt SL) hpr⟩
      · rw [List.getElem?_eq_none (by rw [List.length_append, List.length_singleton]; omega)] at hj
        cases hj
    rcases zs with ⟨rfl, hz, a, b, ht⟩ | ⟨t, f, ot, hz, ht, hSt⟩
    · refine wpAny_bind (wpAny_pyNext_zip_item (s := { s with heap := h, toks := tk }) (A := A.in1) D hz hp ht i1 i2 m1 m2 ex ey fun h' g1 g2 g3 g4 g5 g6 g7 => ?_)
      exact go h' ⟨_, false, _, g1, g5, SL⟩ g3 g4 g5 g7
    · refine wpAny_bind (next_out (s := { s with heap := h, toks := tk }) (A := A.in1) hz ht hp D.i1z D.i2z D.l1z D.l2z D.i12 D.l1i1 D.l2i1 D.TIz i1 i2 m1 m2 ex ey fun h' g1 g3 g4 g5 g6 g7 => ?_)
      exact go h' ⟨t, true, ot, g1, g7 t ot (Nat.ne_of_gt (Nat.lt_trans Sz hSt)) (Nat.ne_of_gt (Nat.lt_trans Sp hSt)) (Nat.ne_of_gt (Nat.lt_trans Sq hSt)) ht, hSt⟩ g3 g4 g5 fun c o a _ b d e => g7 c o a b d e
theorem extend (hh : A.handled = none) (ap : Ap z ti tu p q l r S) (hxy : xs.size ≤ ys.size) (hn : xs.size ≤ sizeLine) (res : Value) (c0 : Nat) (hz : IsZip s.heap z ti tu .none) (ht : ∃ a b, IsPair s.heap tu a b) (hp : IsPair s.heap ti (.ref p) (.ref q)) (i1 : s.heap.IsListIter p l 0) (i2 : s.heap.IsListIter q r 0) (m1 : s.heap.IsList l xs) (m2 : s.heap.IsList r ys)
    (hS : s.heap.get? S = some { cls := .type "list", data := .seq #[] c0 })
    (hR : ∀ h' tk acc c as, (∀ b o, b ≠ S → b ≠ z → b ≠ tu → b ≠ p → b ≠ q → s.heap.get? b = some o → h'.get? b = some o) → h'.get? S = some { cls := .type "list", dict := none, data := .seq acc c, slots := #[] } → as.length = xs.size → Pr xs ys S h' as → acc.toList = as.map Value.ref → R (.ok (.ret res)) { s with heap := h', toks := tk }) :
    wpAny (model prog w) A.in1 (Builtin.List.listExtendWith (.ref S) (.ref z) res) (fun fin s' => match fin with | .done f => R (.ok f) s' | .again c' => c'.quiet = true ∧ codeAny (model prog w) A c' R s') (fun e s' => R (.error e) s') s := by
  have ty : s.TypeIs (.ref z) "zip" := ⟨_, hz, rfl⟩
  have hne : S ≠ z := Nat.ne_of_gt ap.Sz
  unfold Builtin.List.listExtendWith
  refine wpAny_bind (wpAny_typeOf ty ?_)
  have g1 : Builtin.List.listSameRef (.ref S) (.ref z) = false := by simp [Builtin.List.listSameRef, hne]
  have g2 : (Value.type "zip" == Value.type "list") = false := by decide
  have g3 : (Value.type "zip" == Value.type "tuple") = false := by decide
  simp only [g1, g2, g3, Bool.or_false, Bool.false_eq_true, if_false]
  refine wpAny_bind (wpAny_pyIter_zip hz (wpAny_bind (wpAny_holding ?_)))
  unfold Builtin.List.listLengthHint
  refine wpAny_bind (wpAny_specialOf ty no_len ?_)
  show wpAny _ A.in1 (specialOf (Value.ref z) (Str.ofString "__length_hint__") >>= _) _ _ _
  refine wpAny_bind (wpAny_specialOf ty no_hint (wpAny_pure ?_))
  show wpAny _ A.in1 (rule "list.extend.makes-room" >>= fun _ => Builtin.List.listTouch (.ref S) >>= fun _ => again (.builtin "list.extend.loop" ⟨[.ref S, .ref z, res], []⟩)) _ _ _
  refine wpAny_bind (wpAny_rule (wpAny_bind ?_))
  show wpAny _ A.in1 (updateSeq S (·.push .none) >>= fun _ => updateSeq S (·.pop)) _ _ _
  refine wpAny_bind (wpAny_updateSeq hS rfl ?_)
  have S2 := Heap.get?_update_self (Obj.mapSeq (·.push Value.none)) hS rfl
  refine wpAny_updateSeq (hz := by seq_fits) S2 rfl ?_
  have S3 := Heap.get?_update_self (Obj.mapSeq (·.pop)) S2 rfl
  have up : ∀ b o, b ≠ S → s.heap.get? b = some o → ((s.heap.update S (Obj.mapSeq (·.push Value.none))).update S (Obj.mapSeq (·.pop))).get? b = some o := fun b o hb e => (Heap.get?_update_other _ _ (Ne.symm hb)).trans ((Heap.get?_update_other _ _ (Ne.symm hb)).trans e)
  obtain ⟨a, b, ht⟩ := ht
  have ap' := ap
  obtain ⟨D, Sz, St, Si, Sp, Sq, Sl, Sr⟩ := ap
  exact wpAny_pure ⟨plainId_quiet F.plain_extend_loop _, loop hh ap' hxy hn res (h0 := s.heap) hR xs.size 0 _ _ _ #[] [] (Nat.sub_zero _) (Nat.zero_le _) (.inl ⟨rfl, up z _ (Nat.ne_of_lt Sz) hz, a, b, up tu _ (Nat.ne_of_lt St) ht⟩) (up ti _ (Nat.ne_of_lt Si) hp) (i1.at fun o e => up p o (Nat.ne_of_lt Sp) e) (i2.at fun o e => up q o (Nat.ne_of_lt Sq) e) (m1.at fun o e => up l o (Nat.ne_of_lt Sl) e) (m2.at fun o e => up r o (Nat.ne_of_lt Sr) e)
    (fun b o b1 _ _ _ _ e => up b o b1 e) S3 rfl rfl ⟨List.nodup_nil, fun j a hj => by simp at hj⟩⟩
end
section
variable {prog : Program} {w : World} {A : Around} {E : Value → Shared → Prop} {s : Shared} {z ti tu p q l r : Addr} {xs ys : Array Value}
theorem call_list {Q : Value → Shared → Prop} (hh : A.handled = none) (D : ZipApart z ti tu p q l r) (hxy : xs.size ≤ ys.size) (hn : xs.size ≤ sizeLine) (hz : IsZip s.heap z ti tu .none) (ht : ∃ a b, IsPair s.heap tu a b) (hp : IsPair s.heap ti (.ref p) (.ref q)) (i1 : s.heap.IsListIter p l 0) (i2 : s.heap.IsListIter q r 0) (m1 : s.heap.IsList l xs) (m2 : s.heap.IsList r ys)
    (hQ : ∀ h' tk acc c as, (∀ b o, b ≠ z → b ≠ tu → b ≠ p → b ≠ q → s.heap.get? b = some o → h'.get? b = some o) → h'.get? s.heap.objs.size = some { cls := .type "list", dict := none, data := .seq acc c, slots := #[] } → as.length = xs.size → Pr xs ys s.heap.objs.size h' as → acc.toList = as.map Value.ref → Q (.ref s.heap.objs.size) { s with heap := h', toks := tk }) :
    wpAny (model prog w) A (call (.type "list") [.ref z]) Q E s := by
  have lt : ∀ {a o}, s.heap.get? a = some o → a < s.heap.objs.size := fun e => Heap.lt_size e
  obtain ⟨u, v, ht⟩ := ht
  have ap : Ap z ti tu p q l r s.heap.objs.size := ⟨D, lt hz, lt ht, lt hp, by obtain ⟨_, e, _⟩ := i1; exact lt e, by obtain ⟨_, e, _⟩ := i2; exact lt e, by obtain ⟨_, e, _⟩ := m1; exact lt e, by obtain ⟨_, e, _⟩ := m2; exact lt e⟩
  refine callType_codes (Q₁ := fun obj s1 => obj = .ref s.heap.objs.size ∧ s1 = { s with heap := s.heap.push { cls := .type "list", data := .seq #[] } }) F.called_list (F.typeCall_list_1 _) F.entry_list_init (code_list_new _ ⟨rfl, rfl⟩) fun obj s1 h1 => ?_
  obtain ⟨rfl, rfl⟩ := h1
  have hS : (s.heap.push { cls := .type "list", data := .seq #[] }).get? s.heap.objs.size = some { cls := .type "list", data := .seq #[] } := Heap.get?_push_size _ rfl
  have up : ∀ b o, s.heap.get? b = some o → (s.heap.push { cls := .type "list", data := .seq #[] }).get? b = some o := fun b o e => Heap.get?_push_of_some _ e
  refine ⟨⟨_, hS, rfl⟩, F.args_list_init_2 _ _, ?_⟩
  show wpAny _ A.in1.in1 (do let old ← Builtin.List.listItems (.ref s.heap.objs.size); Builtin.List.listUpdate (.ref s.heap.objs.size) (fun _ => #[]); letGo old.toList.reverse; Builtin.List.listExtendWith (.ref s.heap.objs.size) (.ref z) .none) _ _ _
  refine wpAny_bind ?_
  unfold Builtin.List.listItems
  refine wpAny_bind (wpAny_seqItems hS rfl (wpAny_pure ?_))
  show wpAny _ A.in1.in1 (updateSeq s.heap.objs.size (fun _ => #[]) >>= fun _ => letGo (#[] : Array Value).toList.reverse >>= fun _ => Builtin.List.listExtendWith (.ref s.heap.objs.size) (.ref z) .none) _ _ _
  refine wpAny_bind (wpAny_updateSeq hS rfl ?_)
  have S2 := Heap.get?_update_self (Obj.mapSeq (fun _ => (#[] : Array Value))) hS rfl
  have up2 : ∀ b o, b ≠ s.heap.objs.size → s.heap.get? b = some o → ((s.heap.push { cls := .type "list", data := .seq #[] }).update s.heap.objs.size (Obj.mapSeq (fun _ => (#[] : Array Value)))).get? b = some o := fun b o hb e => (Heap.get?_update_other _ _ (Ne.symm hb)).trans (up b o e)
  refine wpAny_bind (wpAny_letGo ?_)
  have ap' := ap
  obtain ⟨_, Sz, St, Si, Sp, Sq, Sl, Sr⟩ := ap
  refine extend (A := A.in1) hh ap' hxy hn .none _ (up2 z _ (Nat.ne_of_lt Sz) hz) ⟨u, v, up2 tu _ (Nat.ne_of_lt St) ht⟩ (up2 ti _ (Nat.ne_of_lt Si) hp) (i1.at fun o e => up2 p o (Nat.ne_of_lt Sp) e) (i2.at fun o e => up2 q o (Nat.ne_of_lt Sq) e) (m1.at fun o e => up2 l o (Nat.ne_of_lt Sl) e) (m2.at fun o e => up2 r o (Nat.ne_of_lt Sr) e) S2 fun h' tk acc c as k g hl pr ha => ?_
  exact ⟨rfl, hQ h' tk acc c as (fun b o b2 b3 b4 b5 e => k b o (Nat.ne_of_lt (lt e)) b2 b3 b4 b5 (up2 b o (Nat.ne_of_lt (lt e)) e)) g hl pr ha⟩
end
end Lz
namespace Pw
open PySem PySem.Spec PyProof.Rows L2
open Evl (Ex ex_l ex_t fresh_back)
section
variable {T : Cfg} {W : WX} {ρ : List (Option D)} {m0 μ : Mu} {P : D → Mu → Prop} {XP : XW} {te te' : TE} {ta : TA} {K : Out → Prop} {E : XK}
theorem ev_meth {c : Ct} {k : Nat} {mn : Str} (h : EV T te W ⟨ρ, m0⟩ (fun d μ1 => ∃ a gs, d = .ptr a ∧ μ1 a = some (.ins k gs) ∧ gs.lookup mn = none ∧ EA T ta W ⟨ρ, μ1⟩ (fun ds μ => c (.ptr a :: ds) μ P (fun _ _ => False)) XP) XP) : EV T (tMeth (T.cls k) mn (spOf T c) [] E te ta) W ⟨ρ, m0⟩ P XP := fun σ Hb H Q S q x =>
  h σ Hb H _ S (fun d μ1 v Hb1 H1 g1 r1 p1 => by
    obtain ⟨a, gs, rfl, hm, hl, p1⟩ := p1
    cases r1
    obtain ⟨_, o, ho, ro⟩ := g1.mu a _ hm
    cases o with
    | ins C dx fs =>
      obtain ⟨rfl, ro⟩ := ro
      refine ⟨a, dx, fs, rfl, ho, RepP.lookNone ro.1 hl, ?_⟩
      refine p1 σ Hb1 H1 _ (S.go g1) (fun ds μ vs Hb2 H2 g2 r2 p2 => ?_) (fun y μ' cls dd Hb' H' g r p => x y μ' cls dd Hb' H' (g1.trans g) r p)
      refine ⟨.ptr a :: ds, μ, Hb2, _, _, g2.sub, g2.mu, .cons (.ptr a) (by simpa using r2), p2, fun d μ' v Hb' H' g' r' k => q _ _ _ _ _ ((g1.trans g2).trans g') r' k, fun y μ' cls dd Hb' H' g' r' k => k.elim⟩
    | _ => exact ro.elim) x
theorem ev_makA {c : Ct} {k : Nat} (h : EA T ta W ⟨ρ, m0⟩ (fun ds μ => ∀ p, μ p = none → c (.ptr p :: ds) (put μ p (.ins k [])) (fun d μ' => d = .non ∧ P (.ptr p) μ') (fun _ _ => False)) XP) : EV T (tMake (T.cls k) (spOf T c) [] E ta) W ⟨ρ, m0⟩ P XP := fun σ Hb H Q S q x =>
  h σ Hb H _ S (fun ds μ vs Hb1 H1 g r p => by
    intro a dx ha hdx hne
    have g1 : Go T μ Hb1 H1 μ (upd Hb1 dx (.own a)) (upd H1 dx (.own a)) := Go.lay g.sub g.mu hdx
    have ha' : (upd H1 dx (.own a)) a = none := by rw [upd_ne (fun e => hne e.symm)]; exact ha
    have g2 := Go.own g1.sub g1.mu (o := .ins (T.cls k) dx []) (z := .ins k []) ha' ⟨rfl, rfl, fun i g f e => by simp at e⟩
    have hm1 : μ a = none := mu_fresh g.mu ha
    refine ⟨.ptr a :: ds, put μ a (.ins k []), _, _, _, g2.sub, g2.mu, .cons (.ptr a) (by simpa using r.mono (g1.trans g2).ex), p a hm1, fun d μ' v Hb' H' g' r' z => ?_, fun y μ' cls dd Hb' H' g' r' z => z.elim⟩
    obtain ⟨rfl, z⟩ := z
    cases r'
    exact ⟨rfl, q _ _ _ _ _ (((g.trans g1).trans g2).trans g') (.ptr a) z⟩) x
end
structure Laid2 (H G : Hp) (S : Addr) (as : List Addr) (xs ys : List V) : Prop where
  len : as.length = xs.length
  newS : H S = none
  lst : G S = some (.lst (as.map V.ref))
  pair : ∀ (j : Nat) (a : Addr), as[j]? = some a → H a = none ∧ a ≠ S ∧ ∃ x y, xs[j]? = some x ∧ ys[j]? = some y ∧ G a = some (.tup [x, y])
  rest : ∀ b, b ≠ S → b ∉ as → G b = H b
theorem vals_get : ∀ {xs : List V} {us : List Value}, Vals xs us → ∀ (j : Nat) (u : Value), us[j]? = some u → ∃ x, xs[j]? = some x ∧ RelV x u
  | _, _, .nil, j, u, h => by simp at h
  | x :: xs, v :: us, .cons r t, j, u, h => by
    cases j with
    | zero => simp at h; subst h; exact ⟨x, rfl, r⟩
    | succ j => simp at h; exact vals_get t j u h
theorem vals_len : ∀ {xs : List V} {us : List Value}, Vals xs us → xs.length = us.length
  | _, _, .nil => rfl
  | _ :: _, _ :: _, .cons _ t => by rw [List.length_cons, List.length_cons, vals_len t]
theorem vals_refs : ∀ as : List Addr, Vals (as.map V.ref) (as.map Value.ref)
  | [] => .nil
  | a :: as => .cons rfl (vals_refs as)
open Classical in
theorem laid_many {X : Cx} {pins : List (Addr × Obj)} {σ : L2.St} {H : Hp} {s : Shared} (I : Inv X pins σ H s) {h' : Heap} {tk n : Nat} {S : Addr} {as : List Addr} {xs ys : List V} {us vs : Array Value} {acc : Array Value} (kp : ∀ b o, s.heap.get? b = some o → h'.get? b = some o)
    (hS : s.heap.objs.size ≤ S) (gS : h'.get? S = some { cls := .type "list", dict := none, data := .seq acc n, slots := #[] }) (hacc : acc.toList = as.map Value.ref) (hl : as.length = us.size) (rx : Vals xs us.toList) (ry : Vals ys vs.toList) (hz : xs.length ≤ sizeLine)
    (pr : Lz.Pr us vs S h' as) : ∃ G, Laid2 H G S as xs ys ∧ Inv X pins σ G { s with heap := h', toks := tk } := by
  have hln : as.length = xs.length := by rw [hl, vals_len rx]; simp
  have lo : ∀ {b o}, H b = some o → b < s.heap.objs.size := fun {b o} e => by
    rcases Nat.lt_or_ge b s.heap.objs.size with q | q
    · exact q
    · rw [I.hok.fresh q] at e; cases e
  have hi : ∀ a ∈ as, s.heap.objs.size ≤ a := fun a ha => by
    obtain ⟨j, hj⟩ := List.getElem?_of_mem ha
    exact Nat.le_trans hS (Nat.le_of_lt (pr.2 j a hj).1)
  let fx : Addr → HO := fun b => match as.idxOf? b with
    | some j => .tup [(xs[j]?).getD .non, (ys[j]?).getD .non]
    | none => .tup []
  let G : Hp := fun b => if b = S then some (.lst (as.map V.ref)) else if b ∈ as then some (fx b) else H b
  have GS : G S = some (.lst (as.map V.ref)) := if_pos rfl
  have Gr : ∀ b, b ≠ S → b ∉ as → G b = H b := fun b h1 h2 => by show (if _ then _ else if _ then _ else _) = _; rw [if_neg h1, if_neg h2]
  have Go' : ∀ b, b < s.heap.objs.size → G b = H b := fun b hb => Gr b (fun e => by rw [e] at hb; exact Nat.lt_irrefl _ (Nat.lt_of_lt_of_le hb hS)) fun e => Nat.lt_irrefl _ (Nat.lt_of_lt_of_le hb (hi b e))
  have pj : ∀ (j : Nat) (a : Addr), as[j]? = some a → ∃ i x y u v, as[i]? = some a ∧ us[i]? = some u ∧ vs[i]? = some v ∧ xs[i]? = some x ∧ ys[i]? = some y ∧ RelV x u ∧ RelV y v ∧ IsPair h' a u v ∧ G a = some (.tup [x, y]) ∧ a ≠ S := fun j a hj => by
    have hm : a ∈ as := List.mem_of_getElem? hj
    have hne : a ≠ S := Nat.ne_of_gt (pr.2 j a hj).1
    obtain ⟨i, hi'⟩ : ∃ i, as.idxOf? a = some i := by
      cases e : as.idxOf? a with
      | some i => exact ⟨i, rfl⟩
      | none => rw [List.idxOf?_eq_none_iff] at e; exact absurd hm e
    have hai : as[i]? = some a := by
      have := List.idxOf?_eq_some_iff.1 hi'
      obtain ⟨hlt, e, _⟩ := this
      rw [List.getElem?_eq_getElem hlt]
      exact congrArg some (by simpa using e)
    obtain ⟨_, u, v, e1, e2, e3⟩ := pr.2 i a hai
    obtain ⟨x, ex, rx'⟩ := vals_get rx i u (by rw [Array.getElem?_toList]; exact e1)
    obtain ⟨y, ey, ry'⟩ := vals_get ry i v (by rw [Array.getElem?_toList]; exact e2)
    refine ⟨i, x, y, u, v, hai, e1, e2, ex, ey, rx', ry', e3, ?_, hne⟩
    show (if _ then _ else if _ then _ else _) = _
    rw [if_neg hne, if_pos hm]
    show some (match as.idxOf? a with | some j => _ | none => _) = _
    rw [hi']
    show some (HO.tup [(xs[i]?).getD .non, (ys[i]?).getD .non]) = _
    rw [ex, ey]
    rfl
  have same : ∀ (i j : Nat) (a : Addr), as[i]? = some a → as[j]? = some a → i = j := fun i j a h1 h2 => by
    obtain ⟨l1, e1⟩ := List.getElem?_eq_some_iff.1 h1
    obtain ⟨l2, e2⟩ := List.getElem?_eq_some_iff.1 h2
    exact (List.getElem_inj pr.1).1 (e1.trans e2.symm)
  refine ⟨G, ⟨hln, I.hok.fresh hS, GS, fun j a hj => ?_, Gr⟩, ?_⟩
  · obtain ⟨i, x, y, u, v, e0, _, _, e1, e2, _, _, _, e3, e4⟩ := pj j a hj
    have := same i j a e0 hj
    subst this
    exact ⟨I.hok.fresh (hi a (List.mem_of_getElem? hj)), e4, x, y, e1, e2, e3⟩
  · refine I.un ⟨fun b o q _ _ _ => kp b o q, fun b o q _ _ _ => ⟨o.slots, kp b o q⟩, fun b o q n _ => ?_, fun b o q _ => ⟨o, kp b o q⟩, fun b zs e => ?_, fun b o u e => ?_, fun b ps e => ⟨#[], ?_⟩⟩ fun b o e => ?_
    · rw [Go' b (Heap.lt_size q)]; exact n
    · rw [Go' b (lo e)]; exact e
    · rw [Go' b (lo e)]; exact e
    · rw [Go' b (lo e), e]; simp
    · by_cases h1 : b = S
      · rw [h1, GS] at e
        cases e
        rw [h1]
        refine ⟨by rw [List.length_map, hln]; exact hz, acc.toList, n, ?_, by rw [Array.toArray_toList]; exact gS⟩
        rw [hacc]
        exact vals_refs as
      · by_cases h2 : b ∈ as
        · obtain ⟨j, hj⟩ := List.getElem?_of_mem h2
          obtain ⟨i, x, y, u, v, e0, _, _, e1, e2, r1, r2, e3, e4, _⟩ := pj j b hj
          rw [e4] at e
          cases e
          exact ⟨by show 2 ≤ sizeLine; rw [sizeLine_eq]; decide, [u, v], .cons r1 (.cons r2 .nil), ⟨_, e3, rfl, _, rfl⟩⟩
        · rw [Gr b h1 h2] at e
          have up : ∀ c, H c ≠ none → G c = H c := fun c hc => by
            cases q : H c with
            | none => exact absurd q hc
            | some o => rw [Go' c (lo q)]; exact q
          exact (I.hok b o e).stay (fun c v _ q => kp c v q) (fun c q => by rw [up c (by rw [q]; simp)]; exact q) fun c zs q => by rw [up c (by rw [q]; simp)]; exact q
section
variable {T : Cfg} {W : WX} {ρ : List (Option D)} {m0 μ : Mu} {P : D → Mu → Prop} {XP : XW} {te te' : TE} {ta : TA} {K : Out → Prop} {E : XK}
theorem go_laid2 {Hb H G : Hp} {S : Addr} {as : List Addr} {xs ys : List V} {ds es : List D} (ex : Ex Hb H) (sm : SimMu T μ Hb H) (L : Laid2 H G S as xs ys) (rx : RepL T Hb ds xs) (ry : RepL T Hb es ys) (hle : xs.length ≤ ys.length) :
    ∃ Hb', Go T μ Hb H μ Hb' G ∧ Rep T Hb' (.lst ((ds.zip es).map fun z => .tup [z.1, z.2])) (.ref S) := by
  classical
  let Hb' : Hp := fun b => if b = S ∨ b ∈ as then G b else Hb b
  have old : ∀ b o, H b = some o → b ≠ S ∧ b ∉ as := fun b o e => by
    refine ⟨fun q => ?_, fun q => ?_⟩
    · rw [q, L.newS] at e; cases e
    · obtain ⟨j, hj⟩ := List.getElem?_of_mem q
      rw [(L.pair j b hj).1] at e; cases e
  have keepG : ∀ b o, H b = some o → G b = some o := fun b o e => by
    obtain ⟨h1, h2⟩ := old b o e
    rw [L.rest b h1 h2]; exact e
  have hbo : ∀ b o, Hb b = some o → Hb' b = some o := fun b o e => by
    obtain ⟨h1, h2⟩ := old b o (ex b o e)
    show (if _ then _ else _) = _
    rw [if_neg (fun q => q.elim h1 h2)]
    exact e
  have hin : ∀ b, (b = S ∨ b ∈ as) → Hb' b = G b := fun b h => if_pos h
  have hout : ∀ b, ¬ (b = S ∨ b ∈ as) → Hb' b = Hb b := fun b h => if_neg h
  have g : Go T μ Hb H μ Hb' G := by
    refine ⟨hbo, fun a o h1 h2 h3 _ => ⟨keepG a o h1, fun _ => ?_⟩, fun a m h => .inl (by rw [h]; simp), fun a o h => ⟨o, keepG a o h⟩, fun a o h => ?_, sm.up (k := sm.kt.ex hbo) (fun a u _ h => keepG a u h) (fun b u hu => ?_) fun a m h => ?_⟩
    rotate_left 2
    · by_cases q : b = S ∨ b ∈ as
      · rw [hin b q]
        refine ⟨fun h => absurd ?_ hu, fun h => ?_⟩
        · rcases q with q | q
          · rw [q, L.lst] at h
            cases h
            exact ⟨fun _ z => (nomatch z), fun _ z => (nomatch z)⟩
          · obtain ⟨j, hj⟩ := List.getElem?_of_mem q
            obtain ⟨_, _, x, y, _, _, e3⟩ := L.pair j b hj
            rw [e3] at h
            cases h
            exact ⟨fun _ z => (nomatch z), fun _ z => (nomatch z)⟩
        · obtain ⟨h1, h2⟩ := old b u (ex b u h)
          exact (q.elim h1 h2).elim
      · rw [hout b q]
    rotate_left 1
    · obtain ⟨q1, q2⟩ := old a o h1
      rw [hout a (fun q => q.elim q1 q2)]
      exact h2
    · by_cases q : a = S ∨ a ∈ as
      · rw [hin a q] at h; exact h
      · rw [hout a q] at h; exact keepG a o (ex a o h)
    · obtain ⟨n, o, ho, r⟩ := sm a m h
      obtain ⟨q1, q2⟩ := old a o ho
      exact ⟨by rw [hout a (fun q => q.elim q1 q2)]; exact n, o, keepG a o ho, r.mono hbo⟩
  refine ⟨Hb', g, .lst (xs := as.map V.ref) (by rw [hin S (.inl rfl)]; exact L.lst) ?_ fun i d v hd hv => ?_⟩
  · have l1 := rx.1
    have l2 := ry.1
    have l3 := L.len
    rw [List.length_map, List.length_map, List.length_zip]
    omega
  · rw [List.getElem?_map] at hd hv
    obtain ⟨z, hz, rfl⟩ := Option.map_eq_some_iff.1 hd
    obtain ⟨a, ha, rfl⟩ := Option.map_eq_some_iff.1 hv
    obtain ⟨_, _, x, y, e1, e2, e3⟩ := L.pair i a ha
    have hz1 := List.getElem?_zip_eq_some.1 hz
    have m : a ∈ as := List.mem_of_getElem? ha
    have rl : RepL T Hb' [z.1, z.2] [x, y] := .cons ((rx.2 i _ x hz1.1 e1).mono hbo) (.cons ((ry.2 i _ y hz1.2 e2).mono hbo) .nil)
    exact .tup (Evl.st_of (by rw [hin a (.inr m)]; exact e3)) rl.1 rl.2
end
def k2 (n : Nat × Nat) : List Key := [.inl (n.1 : Int), .inl (n.2 : Int)]
theorem k2_inj {a b : Nat × Nat} (h : k2 a = k2 b) : a = b := by
  unfold k2 at h
  simp only [List.cons.injEq, Sum.inl.injEq, and_true] at h
  exact Prod.ext (by omega) (by omega)
def p2 (n : Nat × Nat) : PyData := .tuple [.int (n.1 : Int), .int (n.2 : Int)]
def h2 (x y : Nat) : Int := reduceHash (Builtin.Tuple.tupleHashOf [hashInt (x : Int), hashInt (y : Int)])
section
variable {T : Cfg} {W : WX} {ρ : List (Option D)} {m0 μ : Mu} {P : D → Mu → Prop} {XP : XW} {te te' : TE} {ta : TA} {K : Out → Prop} {E : XK} {u : TS}
def lkK (d : Addr) (kvs : List (Key × D)) (o : HO) (K : Out → Prop) : Out → Prop
  | .nx s => s.m d = some (.lkK kvs o) ∧ K (.nx ⟨s.r, put s.m d (.dK kvs)⟩)
  | _ => False
end
section
variable {κ α : Type} [DecidableEq κ] [DecidableEq α]
def tab (ks : List α) (e : α → κ) (f : α → D) : List (κ × D) := ks.map fun k => (e k, f k)
end
def kI (n : Nat) : Key := .inl (n : Int)
theorem k2_inj' (a b : Nat × Nat) (h : k2 a = k2 b) : a = b := k2_inj h
open Evl (Ex fresh_back)
end Pw
namespace Cg
open Pw (lookD putD lookD_put lookD_isSome)
abbrev N := Nat × Nat
structure G where
  c : Nat → Nat → Int
  X : List Nat
  Y : List Nat
  f : Nat → Nat → Int
def ways (g : G) (u : N) : List (N × Int) :=
  if u.1 = 0 then g.Y.map fun y => ((1, y), g.c u.2 y)
  else (g.X.filter fun x => decide (0 < g.f x u.2)).map fun x => ((0, x), 0 - g.c x u.2)
def V (g : G) (v : N) : Prop := (v.1 = 0 ∧ v.2 ∈ g.X) ∨ (v.1 = 1 ∧ v.2 ∈ g.Y)
def Vl (g : G) : List N := g.X.map (fun x => (0, x)) ++ g.Y.map (fun y => (1, y))
theorem mem_Vl {g : G} {v : N} : v ∈ Vl g ↔ V g v := by
  obtain ⟨i, j⟩ := v
  unfold Vl V
  rw [List.mem_append, List.mem_map, List.mem_map]
  constructor
  · rintro (⟨x, hx, e⟩ | ⟨x, hx, e⟩)
    · cases e; exact .inl ⟨rfl, hx⟩
    · cases e; exact .inr ⟨rfl, hx⟩
  · rintro (⟨e, hx⟩ | ⟨e, hx⟩)
    · have e : i = 0 := e
      subst e
      exact .inl ⟨j, hx, rfl⟩
    · have e : i = 1 := e
      subst e
      exact .inr ⟨j, hx, rfl⟩
theorem way_fwd {g : G} {x y : Nat} (h : y ∈ g.Y) : (((1, y), g.c x y) : N × Int) ∈ ways g (0, x) := by
  unfold ways
  rw [if_pos rfl]
  exact List.mem_map.2 ⟨y, h, rfl⟩
theorem way_back {g : G} {x y : Nat} (h : x ∈ g.X) (hf : 0 < g.f x y) : (((0, x), 0 - g.c x y) : N × Int) ∈ ways g (1, y) := by
  unfold ways
  rw [if_neg (show ¬ (1 : Nat) = 0 by decide)]
  exact List.mem_map.2 ⟨x, List.mem_filter.2 ⟨h, decide_eq_true hf⟩, rfl⟩
structure L where
  fo : List (N × Int)
  ah : List (N × N)
  wa : List N
def lab (s : L) (v : N) : Int := (lookD s.fo v).getD 0
abbrev In (s : L) (v : N) : Prop := (lookD s.fo v).isSome = true
def turn (u : N) (s : L) (e : N × Int) : Prop := ¬ In s e.1 ∨ lab s u + e.2 < lab s e.1
instance (u : N) (s : L) (e : N × Int) : Decidable (turn u s e) := by unfold turn; infer_instance
inductive Ch (ah : List (N × N)) : N → List N → Prop
  | root {v : N} (h : lookD ah v = none) : Ch ah v [v]
  | step {v u : N} {l : List N} (h : lookD ah v = some u) (r : Ch ah u l) : Ch ah v (v :: l)
theorem Ch.uniq {ah : List (N × N)} {v : N} {l l' : List N} (h : Ch ah v l) : Ch ah v l' → l = l' := by
  induction h generalizing l' with
  | root h =>
    intro k
    cases k with
    | root _ => rfl
    | step q _ => rw [h] at q; cases q
  | step h r ih =>
    intro k
    cases k with
    | root q => rw [h] at q; cases q
    | step q r' =>
      rw [h] at q
      cases q
      rw [ih r']
theorem Ch.sub {ah : List (N × N)} {v w : N} {l : List N} (h : Ch ah v l) (hw : w ∈ l) : ∃ l', Ch ah w l' ∧ l'.length ≤ l.length := by
  induction h with
  | root h =>
    rw [List.mem_singleton] at hw
    subst hw
    exact ⟨_, .root h, Nat.le_refl _⟩
  | step h r ih =>
    rcases List.mem_cons.1 hw with e | hw
    · subst e
      exact ⟨_, .step h r, Nat.le_refl _⟩
    · obtain ⟨l', h1, h2⟩ := ih hw
      exact ⟨l', h1, by rw [List.length_cons]; omega⟩
theorem Ch.ne {ah : List (N × N)} {v : N} {l : List N} (h : Ch ah v l) : ∃ t, l = v :: t := by
  cases h with
  | root h => exact ⟨[], rfl⟩
  | step h r => exact ⟨_, rfl⟩
def Pot (g : G) (p : N → Int) : Prop := ∀ u v k, V g u → (v, k) ∈ ways g u → p v ≤ p u + k
structure LI (g : G) (p : N → Int) (P : Int) (B : List N) (cu : N) (es : List (N × Int)) (s : L) : Prop where
  dom : ∀ v, In s v → V g v
  beg : ∀ b ∈ B, In s b ∧ lab s b ≤ 0
  src : ∀ v, In s v → (lookD s.ah v).isSome = true ∨ (v ∈ B ∧ lab s v = 0)
  pre : ∀ v u, lookD s.ah v = some u → In s u ∧ In s v ∧ ∃ k, (v, k) ∈ ways g u ∧ lab s u + k ≤ lab s v
  rel : ∀ u e, In s u → u ∉ s.wa → e ∈ ways g u → (u = cu → e ∉ es) → In s e.1 ∧ lab s e.1 ≤ lab s u + e.2
  wad : ∀ u ∈ s.wa, In s u
  low : ∀ v, In s v → p v - P ≤ lab s v
  chn : ∀ v, In s v → ∃ l, Ch s.ah v l
section
variable {g : G} {p : N → Int} {P : Int} {B : List N} {cu : N} {es : List (N × Int)} {s : L} {e : N × Int}
def unf (g : G) (s : L) : Nat := (Vl g).countP fun v => !(lookD s.fo v).isSome
def sm (g : G) (p : N → Int) (P : Int) (s : L) : Nat := ((Vl g).map fun v => if (lookD s.fo v).isSome = true then (lab s v - (p v - P)).toNat else 0).sum
def Less (g : G) (p : N → Int) (P : Int) (s s' : L) : Prop := unf g s' < unf g s ∨ (unf g s' = unf g s ∧ sm g p P s' < sm g p P s)
theorem Less.trans {s s' s'' : L} (h : Less g p P s s') (k : Less g p P s' s'') : Less g p P s s'' := by
  unfold Less at *
  omega
theorem LI.any {cu' : N} (h : LI g p P B cu [] s) : LI g p P B cu' [] s := ⟨h.dom, h.beg, h.src, h.pre, fun u e hu hw he _ => h.rel u e hu hw he fun _ => by simp, h.wad, h.low, h.chn⟩
end
open Pw (lookD putD lookD_put lookD_isSome lookD_cons lookD_none lookD_some_mem)
structure Fin (g : G) (B : List N) (s : L) : Prop where
  dom : ∀ v, In s v → V g v
  beg : ∀ b ∈ B, In s b ∧ lab s b ≤ 0
  src : ∀ v, In s v → (lookD s.ah v).isSome = true ∨ (v ∈ B ∧ lab s v = 0)
  pre : ∀ v u, lookD s.ah v = some u → In s u ∧ In s v ∧ ∃ k, (v, k) ∈ ways g u ∧ lab s v = lab s u + k
  rel : ∀ u e, In s u → e ∈ ways g u → In s e.1 ∧ lab s e.1 ≤ lab s u + e.2
  chn : ∀ v, In s v → ∃ l, Ch s.ah v l
theorem nodup_len {α : Type} [DecidableEq α] : ∀ {l ks : List α}, l.Nodup → (∀ k ∈ l, k ∈ ks) → l.length ≤ ks.length := by
  intro l
  induction l with
  | nil => intro ks _ _; exact Nat.zero_le _
  | cons a l ih =>
    intro ks hn hs
    have ha : a ∈ ks := hs a (by simp)
    rw [List.nodup_cons] at hn
    have h1 : l.length ≤ (ks.erase a).length := ih hn.2 fun k hk => (List.mem_erase_of_ne (fun e => hn.1 (by rw [← e]; exact hk))).2 (hs k (by simp [hk]))
    rw [List.length_erase_of_mem ha] at h1
    have := List.length_pos_of_mem ha
    rw [List.length_cons]
    omega
def rowS (Y : List Nat) (f : Nat → Nat → Int) (x : Nat) : Int := (Y.map fun y => f x y).sum
def colS (X : List Nat) (f : Nat → Nat → Int) (y : Nat) : Int := (X.map fun x => f x y).sum
structure CI (g : G) (h w H W : Nat → Int) : Prop where
  xn : g.X.Nodup
  yn : g.Y.Nodup
  f0 : ∀ x y, x ∈ g.X → y ∈ g.Y → 0 ≤ g.f x y
  h0 : ∀ x ∈ g.X, 0 ≤ h x
  w0 : ∀ y ∈ g.Y, 0 ≤ w y
  row : ∀ x ∈ g.X, h x + rowS g.Y g.f x = H x
  pos : ∀ x ∈ g.X, 0 < H x
  col : ∀ y ∈ g.Y, w y + colS g.X g.f y = W y
  tot : (g.X.map h).sum = (g.Y.map w).sum
  pot : ∃ p, Pot g p
theorem sum_nn {f : Nat → Int} : ∀ {l : List Nat}, (∀ x ∈ l, 0 ≤ f x) → 0 ≤ (l.map f).sum := by
  intro l
  induction l with
  | nil => intro _; simp
  | cons a l ih =>
    intro h
    rw [List.map_cons, List.sum_cons]
    have := h a (by simp)
    have := ih fun x hx => h x (by simp [hx])
    omega
theorem sum_gt {f : Nat → Int} : ∀ {l : List Nat} {x : Nat}, (∀ x ∈ l, 0 ≤ f x) → x ∈ l → f x ≤ (l.map f).sum := by
  intro l
  induction l with
  | nil => intro x _ h; cases h
  | cons a l ih =>
    intro x h hx
    rw [List.map_cons, List.sum_cons]
    have h1 := h a (by simp)
    have h2 := sum_nn fun x hx => h x (List.mem_cons_of_mem a hx)
    rcases List.mem_cons.1 hx with q | q
    · rw [q]; omega
    · have := ih (fun x hx => h x (List.mem_cons_of_mem a hx)) q
      omega
section
variable {g : G} {h w H W : Nat → Int} {s : L}
theorem price_ok (hf : Fin g (Vl g) s) {x y : Nat} (hx : x ∈ g.X) (hy : y ∈ g.Y) : (0 - lab s (0, x)) - (0 - lab s (1, y)) ≤ g.c x y ∧ (0 < g.f x y → (0 - lab s (0, x)) - (0 - lab s (1, y)) = g.c x y) := by
  have i1 := (hf.beg (0, x) (mem_Vl.2 (.inl ⟨rfl, hx⟩))).1
  have i2 := (hf.beg (1, y) (mem_Vl.2 (.inr ⟨rfl, hy⟩))).1
  have h1 := (hf.rel (0, x) _ i1 (way_fwd hy)).2
  have h1 : lab s (1, y) ≤ lab s (0, x) + g.c x y := h1
  refine ⟨by omega, fun hp => ?_⟩
  have h2 := (hf.rel (1, y) _ i2 (way_back hx hp)).2
  have h2 : lab s (0, x) ≤ lab s (1, y) + (0 - g.c x y) := h2
  omega
end
end Cg
namespace Far
open PySem PySem.Spec PyProof.Rows L2 Pw
open FM (Bq)
abbrev shL (qs : List Rat) : D := .lst (qs.map shD)
inductive Od where
  | pr (q : Rat) | zero | none | txt | tru
def Rows (n m : Nat) (k : Nat) (rows : List (List Rat)) : Prop := rows.length = n ∧ ∀ r ∈ rows, r.length = m ∧ ∀ q ∈ r, Bq k q
theorem sum_setH {ws : List Nat} {j v : Nat} (h : j < ws.length) : (ws.set j v).sum + ws[j] = ws.sum + v := by
  induction ws generalizing j with
  | nil => cases h
  | cons w ws ih =>
    cases j with
    | zero => simp; omega
    | succ j =>
      have := ih (j := j) (by simpa using h)
      simp only [List.set_cons_succ, List.sum_cons, List.getElem_cons_succ]
      omega
theorem bt4 {i : Int} (h : i.natAbs < 10000) : Bt 9000 i := Bt.mono (n := 14) (Nat.lt_of_lt_of_le h (by decide)) (by decide)
open PySem PySem.Spec PyProof.Rows L2 Pw Cg
def cmD (cm : List (List Int)) : D := .lst (cm.map fun r => .lst (r.map D.int))
def carF (cm : List (List Int)) (h w c : Addr) : List (Str × D) := [("costs", cmD cm), ("have", .ptr h), ("want", .ptr w), ("carried", .ptr c)]
def tabI (X : List Nat) (f : Nat → Int) : List (Key × D) := tab X kI fun x => .int (f x)
def prs (g : G) : List (Nat × Nat) := g.X.flatMap fun x => g.Y.map fun y => (x, y)
def tab2 (g : G) : List (List Key × D) := tab (prs g) k2 fun p => .int (g.f p.1 p.2)
structure CS (cm : List (List Int)) (g : G) : Prop where
  xn : g.X.Nodup
  yn : g.Y.Nodup
  x12 : ∀ x ∈ g.X, x < 12
  y12 : ∀ y ∈ g.Y, y < 12
  at_ : ∀ x y, x ∈ g.X → y ∈ g.Y → ∃ row, cm[x]? = some row ∧ row[y]? = some (g.c x y)
theorem CS.lx {cm : List (List Int)} {g : G} (h : CS cm g) : g.X.length ≤ 12 := by
  have := nodup_len (ks := List.range 12) h.xn fun x hx => List.mem_range.2 (h.x12 x hx)
  simpa using this
theorem CS.ly {cm : List (List Int)} {g : G} (h : CS cm g) : g.Y.length ≤ 12 := by
  have := nodup_len (ks := List.range 12) h.yn fun x hx => List.mem_range.2 (h.y12 x hx)
  simpa using this
theorem prs_len (g : G) : (prs g).length = g.X.length * g.Y.length := by
  unfold prs
  rw [List.length_flatMap]
  induction g.X with
  | nil => simp
  | cons x X ih => rw [List.map_cons, List.sum_cons, ih, List.length_map, List.length_cons, Nat.succ_mul]; omega
theorem CS.lp {cm : List (List Int)} {g : G} (h : CS cm g) : (prs g).length ≤ 144 := by
  rw [prs_len]
  exact Nat.mul_le_mul h.lx h.ly
structure CM (μ : Mu) (s h w c : Addr) (cm : List (List Int)) (g : G) (hv wv : Nat → Int) : Prop where
  self : μ s = some (.ins 2 (carF cm h w c))
  hav : μ h = some (.dK (tabI g.X hv))
  wan : μ w = some (.dK (tabI g.Y wv))
  car : μ c = some (.dT (tab2 g))
  hw : h ≠ w
theorem CM.sh {μ : Mu} {s h w c : Addr} {cm : List (List Int)} {g : G} {hv wv : Nat → Int} (m : CM μ s h w c cm g hv wv) : s ≠ h := fun e => by
  have := m.self; rw [e, m.hav] at this; cases this
theorem CM.sw {μ : Mu} {s h w c : Addr} {cm : List (List Int)} {g : G} {hv wv : Nat → Int} (m : CM μ s h w c cm g hv wv) : s ≠ w := fun e => by
  have := m.self; rw [e, m.wan] at this; cases this
theorem CM.ch {μ : Mu} {s h w c : Addr} {cm : List (List Int)} {g : G} {hv wv : Nat → Int} (m : CM μ s h w c cm g hv wv) : c ≠ h := fun e => by
  have := m.car; rw [e, m.hav] at this; cases this
theorem CM.cs {μ : Mu} {s h w c : Addr} {cm : List (List Int)} {g : G} {hv wv : Nat → Int} (m : CM μ s h w c cm g hv wv) : c ≠ s := fun e => by
  have := m.car; rw [e, m.self] at this; cases this
section
variable {α β κ : Type} [DecidableEq α] [DecidableEq κ]
def encL (e : α → κ) (f : β → D) (l : List (α × β)) : List (κ × D) := l.map fun z => (e z.1, f z.2)
theorem enc_look {e : α → κ} (he : ∀ a b, e a = e b → a = b) (f : β → D) (k : α) : ∀ l : List (α × β), lookD (encL e f l) (e k) = (lookD l k).map f := by
  intro l
  induction l with
  | nil => rfl
  | cons z l ih =>
    show lookD ((e z.1, f z.2) :: encL e f l) (e k) = _
    rw [lookD_cons, lookD_cons, ih]
    by_cases h : z.1 = k
    · rw [if_pos h, if_pos (by rw [h])]; rfl
    · rw [if_neg h, if_neg (fun q => h (he _ _ q))]
end
abbrev foD (l : List (N × Int)) : List (List Key × D) := encL k2 D.int l
abbrev ahD (l : List (N × N)) : List (List Key × D) := encL k2 (fun n => D.key (k2 n)) l
abbrev nsD (l : List N) : List D := l.map fun n => D.key (k2 n)
theorem CM.put {μ : Mu} {s h w c a : Addr} {cm : List (List Int)} {g : G} {hv wv : Nat → Int} {z : MO} (m : CM μ s h w c cm g hv wv) (h1 : s ≠ a) (h2 : h ≠ a) (h3 : w ≠ a) (h4 : c ≠ a) : CM (put μ a z) s h w c cm g hv wv :=
  ⟨by rw [put_ne h1]; exact m.self, by rw [put_ne h2]; exact m.hav, by rw [put_ne h3]; exact m.wan, by rw [put_ne h4]; exact m.car, m.hw⟩
theorem CM.fresh {μ : Mu} {s h w c a : Addr} {cm : List (List Int)} {g : G} {hv wv : Nat → Int} (m : CM μ s h w c cm g hv wv) (ha : μ a = none) : s ≠ a ∧ h ≠ a ∧ w ≠ a ∧ c ≠ a :=
  ⟨fun e => (by have := m.self; rw [e, ha] at this; cases this), fun e => (by have := m.hav; rw [e, ha] at this; cases this), fun e => (by have := m.wan; rw [e, ha] at this; cases this), fun e => (by have := m.car; rw [e, ha] at this; cases this)⟩
structure LM (μ : Mu) (c fo ah wa : Addr) (st : L) : Prop where
  gf : μ fo = some (.dT (foD st.fo))
  ga : μ ah = some (.dT (ahD st.ah))
  gw : μ wa = some (.lst (nsD st.wa))
  n1 : fo ≠ ah
  n2 : fo ≠ c
  n3 : ah ≠ c
  d1 : (st.fo.map Prod.fst).Nodup
  d2 : (st.ah.map Prod.fst).Nodup
  d3 : st.wa.Nodup
section
variable {μ : Mu} {s h w c fo ah wa : Addr} {cm : List (List Int)} {g : G} {hv wv : Nat → Int} {st : L}
theorem LM.apart (l : LM μ c fo ah wa st) (m : CM μ s h w c cm g hv wv) : (s ≠ fo ∧ h ≠ fo ∧ w ≠ fo ∧ c ≠ fo) ∧ (s ≠ ah ∧ h ≠ ah ∧ w ≠ ah ∧ c ≠ ah) ∧ (s ≠ wa ∧ h ≠ wa ∧ w ≠ wa ∧ c ≠ wa) ∧ wa ≠ fo ∧ wa ≠ ah := by
  refine ⟨⟨fun e => ?_, fun e => ?_, fun e => ?_, fun e => l.n2 e.symm⟩, ⟨fun e => ?_, fun e => ?_, fun e => ?_, fun e => l.n3 e.symm⟩, ⟨fun e => ?_, fun e => ?_, fun e => ?_, fun e => ?_⟩, fun e => ?_, fun e => ?_⟩
  · have := m.self; rw [e, l.gf] at this; cases this
  · have := m.hav; rw [e, l.gf] at this; cases this
  · have := m.wan; rw [e, l.gf] at this; cases this
  · have := m.self; rw [e, l.ga] at this; cases this
  · have := m.hav; rw [e, l.ga] at this; cases this
  · have := m.wan; rw [e, l.ga] at this; cases this
  · have := m.self; rw [e, l.gw] at this; cases this
  · have := m.hav; rw [e, l.gw] at this; cases this
  · have := m.wan; rw [e, l.gw] at this; cases this
  · have := m.car; rw [e, l.gw] at this; cases this
  · have := l.gw; rw [e, l.gf] at this; cases this
  · have := l.gw; rw [e, l.ga] at this; cases this
theorem In.look {v : N} (h : In st v) : lookD (foD st.fo) (k2 v) = some (.int (lab st v)) := by
  rw [enc_look k2_inj']
  obtain ⟨x, hx⟩ := Option.isSome_iff_exists.1 h
  unfold lab
  rw [hx]
  rfl
end
end Far
namespace Pw
open PySem PySem.Spec PyProof.Rows L2
open Evl (Ex ex_l ex_t fresh_back)
end Pw
namespace Far
open PySem PySem.Spec PyProof.Rows L2 Pw Cg
open FM (Bq)
theorem CM.del {μ : Mu} {s h w c a : Addr} {cm : List (List Int)} {g : G} {hv wv : Nat → Int} (m : CM μ s h w c cm g hv wv) (h1 : s ≠ a) (h2 : h ≠ a) (h3 : w ≠ a) (h4 : c ≠ a) : CM (Pw.del μ a) s h w c cm g hv wv :=
  ⟨by unfold Pw.del; rw [if_neg h1]; exact m.self, by unfold Pw.del; rw [if_neg h2]; exact m.hav, by unfold Pw.del; rw [if_neg h3]; exact m.wan, by unfold Pw.del; rw [if_neg h4]; exact m.car, m.hw⟩
end Far
namespace Pw
open PySem PySem.Spec PyProof.Rows L2
open Evl (Ex ex_l ex_t fresh_back)
end Pw
namespace Far
open PySem PySem.Spec PyProof.Rows L2 Pw Cg
open FM (Bq)
structure Pr (c : Nat → Nat → Int) (n m : Nat) (X Y : List Nat) (hf tf pf qf : Nat → Int) : Prop where
  px : ∀ x ∈ X, pf x = hf x
  qy : ∀ y ∈ Y, qf y = tf y
  qn : ∀ y, y < m → y ∉ Y → (∀ x ∈ X, hf x - c x y ≤ qf y) ∧ ∃ x ∈ X, qf y = hf x - c x y
  pn : ∀ x, x < n → x ∉ X → (∀ y, y < m → pf x ≤ c x y + qf y) ∧ ∃ y, y < m ∧ pf x = c x y + qf y
def more (Y : List Nat) (k : Nat) : List Nat := Y ++ (List.range k).filter fun y => decide (y ∉ Y)
open PySem PySem.Spec PyProof.Rows L2 Pw
structure FS where
  hr : List Nat
  wr : List Nat
  rows : List (List Nat)
  sp : List (Nat × Nat)
def FS.amt (s : FS) (x y : Nat) : Nat := min (s.hr.getD x 0) (s.wr.getD y 0)
def FS.step (s : FS) (k x y : Nat) : FS := ⟨s.hr.set x (s.hr.getD x 0 - s.amt x y), s.wr.set y (s.wr.getD y 0 - s.amt x y), s.rows.set x ((s.rows.getD x []).set y (s.amt x y)), s.sp.eraseIdx k⟩
inductive FS.To (s : FS) : FS → Prop
  | refl : FS.To s s
  | step {t : FS} {k x y : Nat} (h : FS.To s t) (hk : t.sp[k]? = some (x, y)) : FS.To s (t.step k x y)
def grid (n m : Nat) : List (Nat × Nat) := (List.range n).flatMap fun x => (List.range m).map fun y => (x, y)
def FS.start (hs ws : List Nat) : FS := ⟨hs, ws, List.replicate hs.length (List.replicate ws.length 0), grid hs.length ws.length⟩
structure FS.Wk (n m N : Nat) (s : FS) : Prop where
  lh : s.hr.length = n
  lw : s.wr.length = m
  bh : ∀ h ∈ s.hr, h ≤ N
  bw : ∀ h ∈ s.wr, h ≤ N
  lr : s.rows.length = n
  br : ∀ r ∈ s.rows, r.length = m ∧ ∀ h ∈ r, h ≤ N
  bs : ∀ z ∈ s.sp, z.1 < n ∧ z.2 < m
theorem mem_setD {α : Type} {l : List α} {i : Nat} {v x : α} (h : x ∈ l.set i v) : x = v ∨ x ∈ l := by
  rcases List.mem_or_eq_of_mem_set h with h | h
  · exact .inr h
  · exact .inl h
theorem getD_memH {l : List Nat} {i : Nat} (h : i < l.length) : l.getD i 0 ∈ l := by
  rw [List.getD_eq_getElem?_getD, List.getElem?_eq_getElem h]
  exact List.getElem_mem h
theorem FS.Wk.step {n m N : Nat} {s : FS} (h : s.Wk n m N) {k x y : Nat} (hk : s.sp[k]? = some (x, y)) : (s.step k x y).Wk n m N := by
  have hxy := h.bs _ (List.mem_of_getElem? hk)
  have hx : x < n := hxy.1
  have hy : y < m := hxy.2
  have h1 : s.hr.getD x 0 ≤ N := h.bh _ (getD_memH (by rw [h.lh]; exact hx))
  have h2 : s.wr.getD y 0 ≤ N := h.bw _ (getD_memH (by rw [h.lw]; exact hy))
  have ha : s.amt x y ≤ N := by unfold FS.amt; omega
  refine ⟨by simp [FS.step, h.lh], by simp [FS.step, h.lw], fun z hz => ?_, fun z hz => ?_, by simp [FS.step, h.lr], fun r hr => ?_, fun z hz => ?_⟩
  · rcases mem_setD hz with e | e
    · omega
    · exact h.bh z e
  · rcases mem_setD hz with e | e
    · omega
    · exact h.bw z e
  · rcases mem_setD hr with e | e
    · have hr0 : s.rows.getD x [] ∈ s.rows := by
        rw [List.getD_eq_getElem?_getD, List.getElem?_eq_getElem (by rw [h.lr]; exact hx)]
        exact List.getElem_mem _
      have := h.br _ hr0
      subst e
      refine ⟨by rw [List.length_set]; exact this.1, fun z hz => ?_⟩
      rcases mem_setD hz with e | e
      · omega
      · exact this.2 z e
    · exact h.br r e
  · exact h.bs z (List.mem_of_mem_eraseIdx hz)
theorem FS.To.wk {n m N : Nat} {s t : FS} (h : s.Wk n m N) (k : s.To t) : t.Wk n m N := by
  induction k with
  | refl => exact h
  | step _ hk ih => exact ih.step hk
theorem FS.To.len {s t : FS} (k : s.To t) : t.sp.length ≤ s.sp.length := by
  induction k with
  | refl => exact Nat.le_refl _
  | @step t k x y _ hk ih =>
    have : (t.sp.eraseIdx k).length ≤ t.sp.length := List.length_eraseIdx_le _ _
    exact Nat.le_trans this ih
theorem getD_set {l : List Nat} {i j v : Nat} (h : i < l.length) : (l.set i v).getD j 0 = if j = i then v else l.getD j 0 := by
  rw [List.getD_eq_getElem?_getD, List.getElem?_set]
  by_cases e : i = j
  · subst e
    simp [h]
  · rw [if_neg e, if_neg (fun z => e z.symm), ← List.getD_eq_getElem?_getD]
theorem getD_setR {l : List (List Nat)} {i j : Nat} {v : List Nat} (h : i < l.length) : (l.set i v).getD j [] = if j = i then v else l.getD j [] := by
  rw [List.getD_eq_getElem?_getD, List.getElem?_set]
  by_cases e : i = j
  · subst e
    simp [h]
  · rw [if_neg e, if_neg (fun z => e z.symm), ← List.getD_eq_getElem?_getD]
theorem sum_setD {l : List Nat} {i v : Nat} (h : i < l.length) : (l.set i v).sum + l.getD i 0 = l.sum + v := by
  have := sum_setH (v := v) h
  rw [List.getD_eq_getElem?_getD, List.getElem?_eq_getElem h]
  exact this
def colN (rows : List (List Nat)) (j : Nat) : Nat := (rows.map fun r => r.getD j 0).sum
theorem col_set {rows : List (List Nat)} {i j : Nat} {v : List Nat} (h : i < rows.length) : colN (rows.set i v) j + (rows.getD i []).getD j 0 = colN rows j + v.getD j 0 := by
  unfold colN
  rw [List.map_set]
  have := sum_setD (l := rows.map fun r => r.getD j 0) (v := v.getD j 0) (by rw [List.length_map]; exact h)
  have e : (rows.map fun r => r.getD j 0).getD i 0 = (rows.getD i []).getD j 0 := by
    rw [List.getD_eq_getElem?_getD (l := rows.map _), List.getElem?_map, List.getD_eq_getElem?_getD (l := rows), List.getElem?_eq_getElem h]
    rfl
  rw [e] at this
  exact this
structure FS.Iv (hs ws : List Nat) (s : FS) : Prop where
  nd : s.sp.Nodup
  ri : ∀ i, i < hs.length → (s.rows.getD i []).sum + s.hr.getD i 0 = hs.getD i 0
  ci : ∀ j, j < ws.length → colN s.rows j + s.wr.getD j 0 = ws.getD j 0
  ze : ∀ x y, (x, y) ∈ s.sp → (s.rows.getD x []).getD y 0 = 0
  vi : ∀ x y, x < hs.length → y < ws.length → (x, y) ∉ s.sp → s.hr.getD x 0 = 0 ∨ s.wr.getD y 0 = 0
  eq : s.hr.sum = s.wr.sum
theorem FS.Iv.step {hs ws : List Nat} {N : Nat} {s : FS} (h : s.Iv hs ws) (wk : s.Wk hs.length ws.length N) {k x y : Nat} (hk : s.sp[k]? = some (x, y)) : (s.step k x y).Iv hs ws := by
  have hxy := wk.bs _ (List.mem_of_getElem? hk)
  have hx : x < hs.length := hxy.1
  have hy : y < ws.length := hxy.2
  have lx : x < s.hr.length := by rw [wk.lh]; exact hx
  have ly : y < s.wr.length := by rw [wk.lw]; exact hy
  have lr : x < s.rows.length := by rw [wk.lr]; exact hx
  have lry : y < (s.rows.getD x []).length := by
    have : s.rows.getD x [] ∈ s.rows := by
      rw [List.getD_eq_getElem?_getD, List.getElem?_eq_getElem lr]
      exact List.getElem_mem _
    rw [(wk.br _ this).1]
    exact hy
  have hz := h.ze x y (List.mem_of_getElem? hk)
  have a1 : s.amt x y ≤ s.hr.getD x 0 := Nat.min_le_left _ _
  have a2 : s.amt x y ≤ s.wr.getD y 0 := Nat.min_le_right _ _
  have a3 : s.amt x y = s.hr.getD x 0 ∨ s.amt x y = s.wr.getD y 0 := by unfold FS.amt; omega
  have mem : ∀ z, z ∈ s.sp.eraseIdx k → z ∈ s.sp ∧ z ≠ (x, y) := fun z hz => by
    rw [List.mem_eraseIdx_iff_getElem?] at hz
    obtain ⟨i, hi, e⟩ := hz
    refine ⟨List.mem_of_getElem? e, fun ez => hi ?_⟩
    subst ez
    exact (List.getElem?_inj (List.getElem?_eq_some_iff.mp e).1 h.nd).mp (e.trans hk.symm)
  have nmem : ∀ z, z ∉ s.sp.eraseIdx k → z ≠ (x, y) → z ∉ s.sp := fun z hz hne hm => by
    obtain ⟨i, hi⟩ := List.getElem?_of_mem hm
    refine hz (List.mem_eraseIdx_iff_getElem?.mpr ⟨i, fun e => ?_, hi⟩)
    subst e
    rw [hk] at hi
    exact hne (Option.some.inj hi).symm
  refine ⟨h.nd.sublist (List.eraseIdx_sublist _ _), fun i hi => ?_, fun j hj => ?_, fun x' y' hm => ?_, fun x' y' hx' hy' hm => ?_, ?_⟩
  · show ((s.rows.set x _).getD i []).sum + (s.hr.set x _).getD i 0 = _
    rw [getD_setR lr, getD_set lx]
    have := h.ri i hi
    by_cases e : i = x
    · subst e
      rw [if_pos rfl, if_pos rfl]
      have hs' := sum_setD (v := s.amt i y) lry
      omega
    · rw [if_neg e, if_neg e]
      exact this
  · show colN (s.rows.set x _) j + (s.wr.set y _).getD j 0 = _
    have := h.ci j hj
    have hc := col_set (j := j) (v := (s.rows.getD x []).set y (s.amt x y)) lr
    rw [getD_set lry] at hc
    rw [getD_set ly]
    by_cases e : j = y
    · subst e
      rw [if_pos rfl] at hc ⊢
      omega
    · rw [if_neg e] at hc ⊢
      omega
  · obtain ⟨hm', hne⟩ := mem _ hm
    show ((s.rows.set x _).getD x' []).getD y' 0 = 0
    rw [getD_setR lr]
    by_cases e : x' = x
    · subst e
      rw [if_pos rfl, getD_set lry, if_neg (fun z => hne (by rw [z]))]
      exact h.ze x' y' hm'
    · rw [if_neg e]
      exact h.ze x' y' hm'
  · show (s.hr.set x _).getD x' 0 = 0 ∨ (s.wr.set y _).getD y' 0 = 0
    rw [getD_set lx, getD_set ly]
    by_cases e : (x', y') = (x, y)
    · cases e
      rw [if_pos rfl, if_pos rfl]
      omega
    · have := h.vi x' y' hx' hy' (nmem _ hm e)
      rcases this with q | q
      · left
        split
        · rename_i e; subst e; omega
        · exact q
      · right
        split
        · rename_i e; subst e; omega
        · exact q
  · show (s.hr.set x _).sum = (s.wr.set y _).sum
    have e1 := sum_setD (v := s.hr.getD x 0 - s.amt x y) lx
    have e2 := sum_setD (v := s.wr.getD y 0 - s.amt x y) ly
    have := h.eq
    omega
def Od.val : Od → Rat
  | .pr q => q
  | _ => 0
def wh (q : Rat) (k : Nat) : Int := q.num * ((k / q.den : Nat) : Int)
structure HandB (costs : List (List Rat)) (fs ss : List Rat) (b hb mb N M : Nat) : Prop where
  b80 : b ≤ 1500
  h60 : hb ≤ 600
  h1 : 1 ≤ hb
  m15 : mb ≤ 1500
  f1 : 1 ≤ fs.length
  f2 : fs.length ≤ 12
  s1 : 1 ≤ ss.length
  s2 : ss.length ≤ 12
  fq : ∀ q ∈ fs, 0 ≤ q ∧ Bq hb q ∧ q.den ∣ N
  sq : ∀ q ∈ ss, 0 ≤ q ∧ Bq hb q ∧ q.den ∣ N
  fsum : fs.sum = 1
  ssum : ss.sum = 1
  cl : costs.length = fs.length
  cr : ∀ r ∈ costs, r.length = ss.length ∧ ∀ q ∈ r, 0 ≤ q ∧ Bq b q ∧ q.den ∣ M
  n0 : 0 < N
  n1 : N < 2 ^ hb
  m0 : 0 < M
  m1 : M < 2 ^ mb
def amt (fs : List Rat) (k : Nat) (x : Nat) : Int := wh (fs.getD x 0) k
def plc (fs : List Rat) (k : Nat) : List Nat := (List.range fs.length).filter fun x => decide (0 < amt fs k x)
def cst (costs : List (List Rat)) (j : Nat) (x y : Nat) : Int := wh ((costs.getD x []).getD y 0) j
theorem plc_mem {fs : List Rat} {k x : Nat} : x ∈ plc fs k ↔ x < fs.length ∧ 0 < amt fs k x := by
  unfold plc
  rw [List.mem_filter, List.mem_range, decide_eq_true_iff]
theorem wh_nn {q : Rat} {k : Nat} (h : 0 ≤ q) : 0 ≤ wh q k := Int.mul_nonneg (Rat.num_nonneg.2 h) (Int.natCast_nonneg _)
theorem wh_rat {q : Rat} {k : Nat} (h : q.den ∣ k) : ((wh q k : Int) : Rat) = q * (k : Rat) := by
  obtain ⟨m, rfl⟩ := h
  unfold wh
  rw [Nat.mul_div_cancel_left _ q.den_pos]
  have hd : (q.den : Rat) ≠ 0 := by
    intro h
    have : q.den = 0 := by exact_mod_cast h
    exact q.den_nz this
  have e : (q.num : Rat) = q * (q.den : Rat) := by
    have h1 : (q.num : Rat) / (q.den : Rat) = q := by
      have := Rat.divInt_eq_div q.num (q.den : Int)
      rw [Rat.num_divInt_den, Rat.intCast_natCast] at this
      exact this.symm
    have h2 : (q.num : Rat) / (q.den : Rat) * (q.den : Rat) = (q.num : Rat) := Rat.div_mul_cancel hd
    rw [h1] at h2
    exact h2.symm
  rw [Rat.intCast_mul, Rat.intCast_natCast, e, Rat.natCast_mul, Rat.mul_assoc]
theorem amt_nn {fs : List Rat} (h : ∀ q ∈ fs, 0 ≤ q) (k x : Nat) : 0 ≤ amt fs k x := by
  unfold amt
  refine wh_nn ?_
  rw [List.getD_eq_getElem?_getD]
  by_cases hx : x < fs.length
  · rw [List.getElem?_eq_getElem hx]
    exact h _ (List.getElem_mem hx)
  · rw [List.getElem?_eq_none (by omega)]
    exact Rat.le_refl
structure Done (costs : List (List Rat)) (fs ss : List Rat) (N M k j : Nat) (f : Nat → Nat → Int) (hv wv : Nat → Int) (st : L) (pf qf : Nat → Int) : Prop where
  k0 : 0 < k
  kN : k ∣ N
  kf : ∀ q ∈ fs, q.den ∣ k
  ks : ∀ q ∈ ss, q.den ∣ k
  j0 : 0 < j
  jM : j ∣ M
  jc : ∀ r ∈ costs, ∀ q ∈ r, q.den ∣ j
  ci : CI ⟨cst costs j, plc fs k, plc ss k, f⟩ hv wv (amt fs k) (amt ss k)
  hz : ∀ x ∈ plc fs k, hv x = 0
  fin : Fin ⟨cst costs j, plc fs k, plc ss k, f⟩ (Vl ⟨cst costs j, plc fs k, plc ss k, f⟩) st
  pr : Pr (cst costs j) fs.length ss.length (plc fs k) (plc ss k) (fun x => 0 - lab st (0, x)) (fun y => 0 - lab st (1, y)) pf qf
def sm (n : Nat) (f : Nat → Rat) : Rat := ((List.range n).map f).sum
theorem sum_app (l m : List Rat) : (l ++ m).sum = l.sum + m.sum := by
  induction l with
  | nil => rw [List.nil_append, List.sum_nil, Rat.zero_add]
  | cons a l ih => rw [List.cons_append, List.sum_cons, List.sum_cons, ih, Rat.add_assoc]
theorem sm_zero (f : Nat → Rat) : sm 0 f = 0 := rfl
theorem sm_succ (n : Nat) (f : Nat → Rat) : sm (n + 1) f = sm n f + f n := by
  unfold sm
  rw [List.range_succ, List.map_append, sum_app]
  show _ + (f n + 0) = _
  rw [Rat.add_zero]
theorem sm_congr {n : Nat} {f g : Nat → Rat} (h : ∀ x, x < n → f x = g x) : sm n f = sm n g := by
  induction n with
  | zero => rfl
  | succ n ih => rw [sm_succ, sm_succ, ih fun x hx => h x (by omega), h n (by omega)]
theorem sm_add (n : Nat) (f g : Nat → Rat) : sm n (fun x => f x + g x) = sm n f + sm n g := by
  induction n with
  | zero => rw [sm_zero, sm_zero, sm_zero, Rat.add_zero]
  | succ n ih => rw [sm_succ, sm_succ, sm_succ, ih]; grind
theorem sm_sub (n : Nat) (f g : Nat → Rat) : sm n (fun x => f x - g x) = sm n f - sm n g := by
  induction n with
  | zero => rw [sm_zero, sm_zero, sm_zero]; grind
  | succ n ih => rw [sm_succ, sm_succ, sm_succ, ih]; grind
theorem sm_mul (n : Nat) (a : Rat) (f : Nat → Rat) : sm n (fun x => a * f x) = a * sm n f := by
  induction n with
  | zero => rw [sm_zero, sm_zero, Rat.mul_zero]
  | succ n ih => rw [sm_succ, sm_succ, ih, Rat.mul_add]
theorem sm_0 (n : Nat) : sm n (fun _ => 0) = 0 := by
  induction n with
  | zero => rfl
  | succ n ih => rw [sm_succ, ih, Rat.add_zero]
theorem sm_swap (n m : Nat) (f : Nat → Nat → Rat) : sm n (fun x => sm m fun y => f x y) = sm m fun y => sm n fun x => f x y := by
  induction n with
  | zero => rw [sm_zero]; exact (sm_0 m).symm
  | succ n ih =>
    rw [sm_succ, ih, ← sm_add]
    exact sm_congr fun y _ => (sm_succ n fun x => f x y).symm
theorem sm_le {n : Nat} {f g : Nat → Rat} (h : ∀ x, x < n → f x ≤ g x) : sm n f ≤ sm n g := by
  induction n with
  | zero => exact Rat.le_refl
  | succ n ih =>
    rw [sm_succ, sm_succ]
    have h1 := ih fun x hx => h x (by omega)
    have h2 := h n (by omega)
    grind
structure Opt (n m : Nat) (c : Nat → Nat → Rat) (f s : Nat → Rat) (π : Nat → Nat → Rat) (p q : Nat → Rat) : Prop where
  nn : ∀ x y, x < n → y < m → 0 ≤ π x y
  row : ∀ x, x < n → sm m (π x) = f x
  col : ∀ y, y < m → sm n (fun x => π x y) = s y
  le : ∀ x y, x < n → y < m → p x - q y ≤ c x y
  tight : ∀ x y, x < n → y < m → π x y ≠ 0 → p x - q y = c x y
theorem Opt.eq {n m : Nat} {c : Nat → Nat → Rat} {f s : Nat → Rat} {π : Nat → Nat → Rat} {p q : Nat → Rat} (h : Opt n m c f s π p q) : sm n (fun x => sm m fun y => c x y * π x y) = sm n (fun x => p x * f x) - sm m fun y => q y * s y := by
  have e1 : sm n (fun x => sm m fun y => c x y * π x y) = sm n fun x => sm m fun y => p x * π x y - q y * π x y := by
    refine sm_congr fun x hx => sm_congr fun y hy => ?_
    by_cases z : π x y = 0
    · rw [z]; grind
    · rw [← h.tight x y hx hy z]; grind
  have e2 : sm n (fun x => sm m fun y => p x * π x y - q y * π x y) = sm n (fun x => p x * f x - sm m fun y => q y * π x y) := by
    refine sm_congr fun x hx => ?_
    rw [sm_sub, sm_mul, h.row x hx]
  rw [e1, e2, sm_sub, sm_swap]
  congr 1
  refine sm_congr fun y hy => ?_
  rw [sm_mul, h.col y hy]
section
variable {costs : List (List Rat)} {fs ss : List Rat} {b hb mb N M k j : Nat} {f : Nat → Nat → Int} {hv wv : Nat → Int} {st : L} {pf qf : Nat → Int}
def Fi (fs ss : List Rat) (k : Nat) (f : Nat → Nat → Int) (x y : Nat) : Int := if x ∈ plc fs k ∧ y ∈ plc ss k then f x y else 0
theorem sum_flt2 (p : Nat → Bool) (g : Nat → Int) : ∀ l : List Nat, ((l.filter p).map g).sum = (l.map fun a => if p a = true then g a else 0).sum := by
  intro l
  induction l with
  | nil => rfl
  | cons a l ih =>
    rw [List.filter_cons, List.map_cons, List.sum_cons, ← ih]
    split
    · rw [List.map_cons, List.sum_cons]
    · omega
theorem sum_z {g : Nat → Int} : ∀ {l : List Nat}, (∀ x ∈ l, g x = 0) → (l.map g).sum = 0 := by
  intro l
  induction l with
  | nil => intro _; rfl
  | cons a l ih => intro h; rw [List.map_cons, List.sum_cons, ih fun x hx => h x (by simp [hx]), h a (by simp)]; rfl
theorem plc_if (fs : List Rat) (k : Nat) (g : Nat → Int) : ((plc fs k).map g).sum = ((List.range fs.length).map fun x => if x ∈ plc fs k then g x else 0).sum := by
  unfold plc
  rw [sum_flt2]
  congr 1
  refine List.map_congr_left fun x hx => ?_
  have : (x ∈ (List.range fs.length).filter fun x => decide (0 < amt fs k x)) ↔ decide (0 < amt fs k x) = true := by
    rw [List.mem_filter]
    exact ⟨fun h => h.2, fun h => ⟨hx, h⟩⟩
  simp only [this]
theorem Done.wz (d : Done costs fs ss N M k j f hv wv st pf qf) : ∀ y ∈ plc ss k, wv y = 0 := fun y hy => by
  have h1 := d.ci.tot
  have h2 : ((plc fs k).map hv).sum = 0 := sum_z d.hz
  have h1 : ((plc fs k).map hv).sum = ((plc ss k).map wv).sum := h1
  have h3 := sum_gt d.ci.w0 hy
  have h3 : wv y ≤ ((plc ss k).map wv).sum := h3
  have h4 := d.ci.w0 y hy
  omega
theorem amt_z (hd : ∀ q ∈ fs, 0 ≤ q) {x : Nat} (hx : x < fs.length) (h : x ∉ plc fs k) : amt fs k x = 0 := by
  have h1 := amt_nn hd k x
  have h2 : ¬ 0 < amt fs k x := fun q => h (plc_mem.2 ⟨hx, q⟩)
  omega
theorem Done.row (hd : HandB costs fs ss b hb mb N M) (d : Done costs fs ss N M k j f hv wv st pf qf) {x : Nat} (hx : x < fs.length) : ((List.range ss.length).map (Fi fs ss k f x)).sum = amt fs k x := by
  by_cases h : x ∈ plc fs k
  · have h1 := d.ci.row x h
    have h1 : hv x + ((plc ss k).map fun y => f x y).sum = amt fs k x := h1
    rw [d.hz x h, plc_if] at h1
    rw [← h1, Int.zero_add]
    congr 1
    refine List.map_congr_left fun y _ => ?_
    unfold Fi
    simp only [h, true_and]
  · rw [amt_z (fun q h => (hd.fq q h).1) hx h]
    refine sum_z fun y _ => ?_
    unfold Fi
    rw [if_neg fun q => h q.1]
theorem Done.col (hd : HandB costs fs ss b hb mb N M) (d : Done costs fs ss N M k j f hv wv st pf qf) {y : Nat} (hy : y < ss.length) : ((List.range fs.length).map fun x => Fi fs ss k f x y).sum = amt ss k y := by
  by_cases h : y ∈ plc ss k
  · have h1 := d.ci.col y h
    have h1 : wv y + ((plc fs k).map fun x => f x y).sum = amt ss k y := h1
    rw [d.wz y h, plc_if] at h1
    rw [← h1, Int.zero_add]
    congr 1
    refine List.map_congr_left fun x _ => ?_
    unfold Fi
    simp only [h, and_true]
  · rw [amt_z (fun q h => (hd.sq q h).1) hy h]
    refine sum_z fun x _ => ?_
    unfold Fi
    rw [if_neg fun q => h q.2]
theorem Done.fi0 (d : Done costs fs ss N M k j f hv wv st pf qf) (x y : Nat) : 0 ≤ Fi fs ss k f x y := by
  unfold Fi
  split
  · rename_i h; exact d.ci.f0 x y h.1 h.2
  · exact Int.le_refl _
theorem Done.le (d : Done costs fs ss N M k j f hv wv st pf qf) {x y : Nat} (hx : x < fs.length) (hy : y < ss.length) : pf x - qf y ≤ cst costs j x y := by
  by_cases h1 : x ∈ plc fs k
  · rw [d.pr.px x h1]
    by_cases h2 : y ∈ plc ss k
    · rw [d.pr.qy y h2]
      exact (price_ok d.fin h1 h2).1
    · have := (d.pr.qn y hy h2).1 x h1
      omega
  · have := (d.pr.pn x hx h1).1 y hy
    omega
theorem Done.tight (d : Done costs fs ss N M k j f hv wv st pf qf) {x y : Nat} (h : Fi fs ss k f x y ≠ 0) : pf x - qf y = cst costs j x y := by
  have h0 := d.fi0 x y
  unfold Fi at h h0
  split at h
  · rename_i q
    rw [if_pos q] at h0
    rw [d.pr.px x q.1, d.pr.qy y q.2]
    exact (price_ok d.fin q.1 q.2).2 (show 0 < f x y by omega)
  · exact absurd rfl h
end
theorem natR_ne {j : Nat} (h : 0 < j) : (j : Rat) ≠ 0 := by
  intro e
  have : j = 0 := by exact_mod_cast e
  omega
theorem di {a : Int} {j : Nat} : Rat.divInt a (j : Int) = (j : Rat)⁻¹ * (a : Rat) := by
  rw [Rat.divInt_eq_div, Rat.intCast_natCast, Rat.div_def, Rat.mul_comm]
theorem inv_mul {j : Nat} (h : 0 < j) (q : Rat) : (j : Rat)⁻¹ * (q * (j : Rat)) = q := by
  rw [Rat.mul_comm q, ← Rat.mul_assoc, Rat.inv_mul_cancel _ (natR_ne h), Rat.one_mul]
def Bd (D : Nat) (B : Nat) (q : Rat) : Prop := ∃ z : Int, q = Rat.divInt z (D : Int) ∧ z.natAbs ≤ B
theorem Bd.add {D B C : Nat} {p q : Rat} (h : Bd D B p) (k : Bd D C q) : Bd D (B + C) (p + q) := by
  obtain ⟨z, rfl, hz⟩ := h
  obtain ⟨w, rfl, hw⟩ := k
  refine ⟨z + w, ?_, by omega⟩
  rw [di, di, di, Rat.intCast_add, Rat.mul_add]
theorem Bd.zero (D : Nat) : Bd D 0 0 := ⟨0, by rw [di]; simp, by simp⟩
theorem Bd.mono {D B C : Nat} {q : Rat} (h : Bd D B q) (k : B ≤ C) : Bd D C q := by
  obtain ⟨z, e, hz⟩ := h
  exact ⟨z, e, Nat.le_trans hz k⟩
theorem Bd.sum {D B : Nat} : ∀ {qs : List Rat}, (∀ q ∈ qs, Bd D B q) → Bd D (qs.length * B) qs.sum := by
  intro qs
  induction qs with
  | nil => intro _; simpa using Bd.zero D
  | cons q qs ih =>
    intro h
    rw [List.sum_cons, List.length_cons, Nat.succ_mul, Nat.add_comm]
    exact (h q (by simp)).add (ih fun q hq => h q (by simp [hq]))
theorem Bd.mul {D E B C : Nat} {p q : Rat} (h : Bd D B p) (k : Bd E C q) : Bd (D * E) (B * C) (p * q) := by
  obtain ⟨z, rfl, hz⟩ := h
  obtain ⟨w, rfl, hw⟩ := k
  refine ⟨z * w, ?_, by rw [Int.natAbs_mul]; exact Nat.mul_le_mul hz hw⟩
  rw [Int.natCast_mul, Rat.divInt_mul_divInt]
theorem Bd.of {D b : Nat} {q : Rat} (h : Bq b q) (hd : q.den ∣ D) (h0 : 0 < D) : Bd D (2 ^ b * D) q := by
  refine ⟨wh q D, ?_, ?_⟩
  · rw [di, wh_rat hd, inv_mul h0]
  · unfold wh
    rw [Int.natAbs_mul, Int.natAbs_natCast]
    exact Nat.mul_le_mul (Nat.le_of_lt h.1) (Nat.div_le_self _ _)
theorem HandB.rows {costs : List (List Rat)} {fs ss : List Rat} {b hb mb N M : Nat} (hd : HandB costs fs ss b hb mb N M) : Rows fs.length ss.length b costs := ⟨hd.cl, fun r hr => ⟨(hd.cr r hr).1, fun q hq => ((hd.cr r hr).2 q hq).2.1⟩⟩
structure Plan (n m : Nat) (f s : Nat → Rat) (π : Nat → Nat → Rat) : Prop where
  nn : ∀ x y, x < n → y < m → 0 ≤ π x y
  row : ∀ x, x < n → sm m (π x) = f x
  col : ∀ y, y < m → sm n (fun x => π x y) = s y
def Pric (n m : Nat) (c : Nat → Nat → Rat) (p q : Nat → Rat) : Prop := ∀ x y, x < n → y < m → p x - q y ≤ c x y
def cost (n m : Nat) (c π : Nat → Nat → Rat) : Rat := sm n fun x => sm m fun y => c x y * π x y
def brou (n m : Nat) (f s p q : Nat → Rat) : Rat := sm n (fun x => p x * f x) - sm m fun y => q y * s y
theorem wd {n m : Nat} {c : Nat → Nat → Rat} {f s : Nat → Rat} {π : Nat → Nat → Rat} {p q : Nat → Rat} (hp : Plan n m f s π) (hq : Pric n m c p q) : brou n m f s p q ≤ cost n m c π := by
  have e : brou n m f s p q = sm n fun x => sm m fun y => (p x - q y) * π x y := by
    have e1 : (sm n fun x => sm m fun y => (p x - q y) * π x y) = sm n fun x => p x * f x - sm m fun y => q y * π x y := by
      refine sm_congr fun x hx => ?_
      rw [← hp.row x hx, ← sm_mul, ← sm_sub]
      exact sm_congr fun y _ => by grind
    rw [e1, sm_sub, sm_swap]
    unfold brou
    congr 1
    refine sm_congr fun y hy => ?_
    rw [sm_mul, hp.col y hy]
  rw [e]
  exact sm_le fun x hx => sm_le fun y hy => Rat.mul_le_mul_of_nonneg_right (hq x y hx hy) (hp.nn x y hx hy)
section
variable {n m : Nat} {c : Nat → Nat → Rat} {f s : Nat → Rat} {π : Nat → Nat → Rat} {p q : Nat → Rat}
theorem Opt.plan (h : Opt n m c f s π p q) : Plan n m f s π := ⟨h.nn, h.row, h.col⟩
theorem Opt.ceq (h : Opt n m c f s π p q) : cost n m c π = brou n m f s p q := h.eq
theorem Opt.least (h : Opt n m c f s π p q) {π' : Nat → Nat → Rat} (h' : Plan n m f s π') : cost n m c π ≤ cost n m c π' := by
  rw [h.ceq]
  exact wd h' h.le
theorem Opt.most (h : Opt n m c f s π p q) {p' q' : Nat → Rat} (h' : Pric n m c p' q') : brou n m f s p' q' ≤ cost n m c π := wd h.plan h'
theorem sm_nn {f : Nat → Rat} (h : ∀ x, x < n → 0 ≤ f x) : 0 ≤ sm n f := by
  rw [← sm_0 n]
  exact sm_le h
theorem Opt.nonneg (h : Opt n m c f s π p q) (hc : ∀ x y, x < n → y < m → 0 ≤ c x y) : 0 ≤ cost n m c π := sm_nn fun x hx => sm_nn fun y hy => Rat.mul_nonneg (hc x y hx hy) (h.nn x y hx hy)
theorem max_ex : ∀ (n : Nat) (g : Nat → Rat), 0 < n → ∃ r, (∀ x, x < n → g x ≤ r) ∧ ∃ x, x < n ∧ r = g x := by
  intro n g
  induction n with
  | zero => intro h; omega
  | succ n ih =>
    intro _
    by_cases h0 : n = 0
    · subst h0
      exact ⟨g 0, fun x hx => by have : x = 0 := by omega
                                 rw [this]; exact Rat.le_refl, 0, by omega, rfl⟩
    · obtain ⟨r, h1, x, hx, e⟩ := ih (by omega)
      by_cases hc : g n ≤ r
      · refine ⟨r, fun y hy => ?_, x, by omega, e⟩
        by_cases q : y = n
        · rw [q]; exact hc
        · exact h1 y (by omega)
      · refine ⟨g n, fun y hy => ?_, n, by omega, rfl⟩
        by_cases q : y = n
        · rw [q]; exact Rat.le_refl
        · have := h1 y (by omega)
          grind
theorem turned {c' : Nat → Nat → Rat} {π' : Nat → Nat → Rat} {p' q' : Nat → Rat} (h : Opt n m c f s π p q) (h' : Opt m n c' s f π' p' q') (hc : ∀ x y, x < n → y < m → c' y x = c x y) : cost m n c' π' = cost n m c π := by
  have e : ∀ ρ : Nat → Nat → Rat, cost m n c' (fun y x => ρ x y) = cost n m c ρ := fun ρ => by
    unfold cost
    rw [sm_swap]
    exact sm_congr fun x hx => sm_congr fun y hy => by rw [hc x y hx hy]
  have h1 := h'.least (π' := fun y x => π x y) ⟨fun y x hy hx => h.nn x y hx hy, h.col, h.row⟩
  have h1 : cost m n c' π' ≤ cost n m c π := by
    have z := e π
    rw [← z]
    exact h1
  have h2 := h.least (π' := fun x y => π' y x) ⟨fun x y hx hy => h'.nn y x hy hx, h'.col, h'.row⟩
  have e2 := e fun x y => π' y x
  have e2 : cost m n c' π' = cost n m c fun x y => π' y x := e2
  rw [← e2] at h2
  exact Rat.le_antisymm h1 h2
end
def zs (j : Nat) (W : List Nat) : List Nat := W ++ List.replicate j 0
def zS (j : Nat) (s : Stp) : Stp := (s.1, s.2.1, zs j s.2.2)
theorem zs_getD (j : Nat) (W : List Nat) (t : Nat) : (zs j W).getD t 0 = W.getD t 0 := by
  unfold zs
  rw [List.getD_eq_getElem?_getD, List.getD_eq_getElem?_getD]
  by_cases h : t < W.length
  · rw [List.getElem?_append_left h]
  · rw [List.getElem?_append_right (by omega), List.getElem?_eq_none (l := W) (by omega), List.getElem?_replicate]
    split <;> rfl
theorem pos_en_congr {W V : List Nat} (h : ∀ t, W.getD t 0 = V.getD t 0) (hl : W.length ≤ V.length) : pos (enW W) = pos (enW V) := by
  obtain ⟨d, hd⟩ : ∃ d, V.length = W.length + d := ⟨V.length - W.length, by omega⟩
  unfold enW
  rw [hd]
  have e : (List.range W.length).map (fun i => (i, W.getD i 0)) = (List.range W.length).map fun i => (i, V.getD i 0) := List.map_congr_left fun i _ => by rw [h i]
  rw [e]
  have key : ∀ d, pos ((List.range (W.length + d)).map fun i => (i, V.getD i 0)) = pos ((List.range W.length).map fun i => (i, V.getD i 0)) := by
    intro d
    induction d with
    | zero => rfl
    | succ d ih =>
      rw [show W.length + (d + 1) = (W.length + d) + 1 by omega, List.range_succ, List.map_append, pos_app, ih]
      have z : V.getD (W.length + d) 0 = 0 := by
        rw [← h, List.getD_eq_getElem?_getD, List.getElem?_eq_none (by omega)]
        rfl
      have : pos (List.map (fun i => (i, V.getD i 0)) [W.length + d]) = [] := by
        unfold pos
        rw [List.map_singleton, z]
        rfl
      rw [this, List.append_nil]
  rw [key d]
structure More (m j : Nat) (ss s2 : List Stp) : Prop where
  g1 : Good m ss
  g2 : Good (m + j) s2
  on : ∀ s ∈ ss, zS j s ∈ s2
  of : ∀ s ∈ s2, s.1 < m → ∃ t ∈ ss, s = zS j t
theorem tT_pos {S S' : List (Str × Onw)} (h : S.map (fun z => (z.1, pos z.2)) = S'.map fun z => (z.1, pos z.2)) (ts : List Nat) : tT S ts = tT S' ts := by
  have key : ∀ (S : List (Str × Onw)) (ts : List Nat), tT S ts = (S.map fun z => (z.1, pos z.2)).foldl (fun ts z => addA ts z.2) ts := fun S ts => by
    unfold tT
    rw [List.foldl_map]
  rw [key, key, h]
theorem More.st {m j : Nat} {ss s2 : List Stp} (h : More m j ss s2) {t : Nat} (ht : t < m) : (stS s2 t).map (fun z => (z.1, pos z.2)) = (stS ss t).map fun z => (z.1, pos z.2) := by
  have em : menuS s2 t = menuS ss t := by
    refine menu_same h.g2 h.g1 fun x => ?_
    constructor
    · rintro ⟨s, hs, e1, e2⟩
      obtain ⟨t, ht, rfl⟩ := h.of s hs (by omega)
      exact ⟨t, ht, e1, e2⟩
    · rintro ⟨s, hs, e1, e2⟩
      exact ⟨_, h.on s hs, e1, e2⟩
  rw [st_en, st_en, em, List.map_map, List.map_map]
  refine List.map_congr_left fun x hx => ?_
  obtain ⟨s, hs, rfl, rfl⟩ := menu_iff.1 hx
  have e1 := gon_mem h.g1.nd hs
  have e2 := gon_mem h.g2.nd (h.on s hs)
  have e2 : gonW s2 s.1 s.2.1 = zs j s.2.2 := e2
  show (s.2.1, pos (enW (gonW s2 s.1 s.2.1))) = (s.2.1, pos (enW (gonW ss s.1 s.2.1)))
  rw [e1, e2, pos_en_congr (W := s.2.2) (V := zs j s.2.2) (fun t => (zs_getD j _ t).symm) (by unfold zs; rw [List.length_append]; omega)]
theorem More.found {m j : Nat} {ss s2 : List Stp} (h : More m j ss s2) : ∀ k, bTm (stS s2) k = bTm (stS ss) k
  | 0 => rfl
  | k + 1 => by
    have ih := More.found h k
    have hl : (bTm (stS ss) k).getD k 0 < m := by
      have hb := bT_all (p := fun x => x < m) (St := stS ss) h.g1.m1 (st_lt h.g1) k
      rw [List.getD_eq_getElem?_getD]
      cases e : (bTm (stS ss) k)[k]? with
      | none => exact h.g1.m1
      | some t => exact hb t (List.mem_of_getElem? e)
    show tT (stS s2 ((bTm (stS s2) k).getD k 0)) (bTm (stS s2) k) = tT (stS ss ((bTm (stS ss) k).getD k 0)) (bTm (stS ss) k)
    rw [ih, tT_pos (h.st hl)]
theorem More.trim {m j K : Nat} {ss s2 : List Stp} (h : More m j ss s2) (T : Trim m ss K) : Trim (m + j) s2 K where
  gd := h.g2
  km := Nat.le_trans T.km (Nat.le_add_right _ _)
  len := by rw [h.found]; exact T.len
  go := fun k hk => by rw [h.found]; exact T.go k hk
  lt := fun t ht => by rw [h.found] at ht; have := T.lt t ht; omega
theorem More.same {m j K : Nat} {ss s2 : List Stp} (h : More m j ss s2) (T : Trim m ss K) : srtS (fnd (bTm (stS s2) K) s2) = srtS (fnd (bTm (stS ss) K) ss) := by
  have T2 := h.trim T
  refine srt_perm ((List.perm_ext_iff_of_nodup ?_ ?_).2 fun s => ?_) T2.fkeys
  · exact (List.pairwise_map.1 T2.fkeys).imp fun hn e => hn (by rw [e])
  · exact (List.pairwise_map.1 T.fkeys).imp fun hn e => hn (by rw [e])
  have er : ∀ s, renS (bTm (stS s2) K) (zS j s) = renS (bTm (stS ss) K) s := fun s => by
    rw [h.found]
    unfold renS
    refine Prod.ext rfl (Prod.ext rfl ?_)
    exact List.map_congr_left fun t _ => zs_getD j s.2.2 t
  unfold fnd
  rw [List.mem_map, List.mem_map]
  constructor
  · rintro ⟨t, ht, rfl⟩
    obtain ⟨ht, hm⟩ := List.mem_filter.1 ht
    have hm := of_decide_eq_true hm
    rw [h.found] at hm
    obtain ⟨u, hu, rfl⟩ := h.of t ht (T.lt _ hm)
    exact ⟨u, List.mem_filter.2 ⟨hu, decide_eq_true hm⟩, (er u).symm⟩
  · rintro ⟨u, hu, rfl⟩
    obtain ⟨hu, hm⟩ := List.mem_filter.1 hu
    have hm := of_decide_eq_true hm
    exact ⟨zS j u, List.mem_filter.2 ⟨h.on u hu, decide_eq_true (by rw [h.found]; exact hm)⟩, er u⟩
theorem nsum_perm {l l' : List Nat} (h : l.Perm l') : l.sum = l'.sum := by
  induction h with
  | nil => rfl
  | cons a _ ih => rw [List.sum_cons, List.sum_cons, ih]
  | swap a b l =>
    simp only [List.sum_cons]
    omega
  | trans _ _ h1 h2 => exact h1.trans h2
theorem nsum_drop (F : Nat → Nat) (p : Nat → Bool) : ∀ l : List Nat, (∀ t ∈ l, p t = false → F t = 0) → (l.map F).sum = ((l.filter p).map F).sum
  | [], _ => rfl
  | a :: l, h => by
    rw [List.map_cons, List.sum_cons, nsum_drop F p l fun t ht => h t (by simp [ht]), List.filter_cons]
    cases e : p a with
    | true => rw [if_pos rfl, List.map_cons, List.sum_cons]
    | false =>
      rw [if_neg (by simp), h a (by simp) e, Nat.zero_add]
theorem od_perm {od : List Nat} {m : Nat} (hn : od.Nodup) (hm : ∀ t ∈ od, t < m) : ((List.range m).filter fun t => decide (t ∈ od)).Perm od := by
  refine (List.perm_ext_iff_of_nodup (List.nodup_range.filter _) hn).2 fun t => ?_
  rw [List.mem_filter, List.mem_range, decide_eq_true_iff]
  exact ⟨fun h => h.2, fun h => ⟨hm t h, h⟩⟩
theorem nsum_onto {od : List Nat} {m : Nat} (hn : od.Nodup) (hm : ∀ t ∈ od, t < m) (F : Nat → Nat) (h0 : ∀ t, t ∉ od → F t = 0) : ((List.range m).map F).sum = (od.map F).sum := by
  rw [nsum_drop F (fun t => decide (t ∈ od)) _ fun t _ h => h0 t (of_decide_eq_false h)]
  exact nsum_perm ((od_perm hn hm).map F)
theorem list_range {α : Type} (d : α) (l : List α) : (List.range l.length).map (fun i => l.getD i d) = l := by
  refine List.ext_getElem (by simp) fun i h1 h2 => ?_
  rw [List.getElem_map, List.getElem_range, List.getD_eq_getElem?_getD, List.getElem?_eq_getElem h2]
  rfl
theorem getD_range {m r : Nat} (f : Nat → Rat) : ((List.range m).map f).getD r 0 = if r < m then f r else 0 := by
  rw [List.getD_eq_getElem?_getD, List.getElem?_map]
  by_cases h : r < m
  · rw [List.getElem?_range h, if_pos h]
    rfl
  · rw [List.getElem?_eq_none (by simpa using h), if_neg h]
    rfl
theorem look_gon {ss : List Stp} {t : Nat} {x : Str} (h : x ∈ menuS ss t) : lookS ss t x = some (gonW ss t x) := by
  obtain ⟨ws, e⟩ := menu_look h
  unfold gonW
  rw [e]
  rfl
theorem look_no {ss : List Stp} {t : Nat} {x : Str} (h : x ∉ menuS ss t) : lookS ss t x = none := by
  cases e : lookS ss t x with
  | none => rfl
  | some ws =>
    obtain ⟨s, hs, e1, e2, _⟩ := look_mem e
    exact absurd (menu_iff.2 ⟨s, hs, e1, e2⟩) h
theorem Trim.sums {m K b : Nat} {ss S' : List Stp} (h : Trim m ss K) (hS : S' = srtS (fnd (bTm (stS ss) K) ss)) (hb : ∀ s ∈ ss, s.2.2.sum < b) : ∀ s ∈ S', s.2.2.sum < b := by
  intro s hs
  rw [hS, mem_srt] at hs
  obtain ⟨t, ht, rfl⟩ := List.mem_map.1 hs
  obtain ⟨ht, hm⟩ := List.mem_filter.1 ht
  have hm := of_decide_eq_true hm
  have ok := h.gd.ok t ht
  have hz : ∀ u, u ∉ bTm (stS ss) K → t.2.2.getD u 0 = 0 := fun u hu => h.zero ht hm hu
  show ((bTm (stS ss) K).map fun u => t.2.2.getD u 0).sum < b
  rw [← nsum_onto h.nd h.lt _ hz, ← ok.ln, list_range]
  exact hb t ht
theorem Opt.uniq {n m : Nat} {c : Nat → Nat → Rat} {f s : Nat → Rat} {π π' : Nat → Nat → Rat} {p q p' q' : Nat → Rat} (h : Opt n m c f s π p q) (h' : Opt n m c f s π' p' q') : cost n m c π = cost n m c π' := by
  have h1 := h.least h'.plan
  have h2 := h'.least h.plan
  grind
def grt (l : List Rat) : Rat := l.foldl (fun a b => if a < b then b else a) 0
theorem grt_go : ∀ (l : List Rat) (a : Rat), a ≤ l.foldl (fun a b => if a < b then b else a) a ∧ (∀ b ∈ l, b ≤ l.foldl (fun a b => if a < b then b else a) a) ∧ (l.foldl (fun a b => if a < b then b else a) a = a ∨ l.foldl (fun a b => if a < b then b else a) a ∈ l)
  | [], a => ⟨Rat.le_refl, fun b hb => (by cases hb), .inl rfl⟩
  | b :: l, a => by
    obtain ⟨h1, h2, h3⟩ := grt_go l (if a < b then b else a)
    show _ ≤ l.foldl _ (if a < b then b else a) ∧ (∀ c ∈ b :: l, c ≤ l.foldl _ (if a < b then b else a)) ∧ (l.foldl _ (if a < b then b else a) = a ∨ l.foldl _ (if a < b then b else a) ∈ b :: l)
    have ha : a ≤ if a < b then b else a := by split <;> grind
    have hb : b ≤ if a < b then b else a := by split <;> grind
    refine ⟨Rat.le_trans ha h1, fun c hc => ?_, ?_⟩
    · rcases List.mem_cons.1 hc with rfl | hc
      · exact Rat.le_trans hb h1
      · exact h2 c hc
    · rcases h3 with h3 | h3
      · rw [h3]
        split
        · exact .inr (by simp)
        · exact .inl rfl
      · exact .inr (List.mem_cons_of_mem _ h3)
theorem grt_nn (l : List Rat) : 0 ≤ grt l := (grt_go l 0).1
theorem grt_le {l : List Rat} {b : Rat} (h : b ∈ l) : b ≤ grt l := (grt_go l 0).2.1 b h
theorem grt_or (l : List Rat) : grt l = 0 ∨ grt l ∈ l := (grt_go l 0).2.2
theorem grt_lt {l : List Rat} {b : Rat} (h0 : 0 ≤ b) (h : ∀ a ∈ l, a ≤ b) : grt l ≤ b := by
  rcases grt_or l with e | e
  · rw [e]; exact h0
  · exact h _ e
def hpF (ss : List Stp) (r : Nat) (x : Str) (i : Nat) : Rat := wtQ (gonW ss r x) i
def Cst (m1 m2 : Nat) (s1 s2 : List Stp) (c : Nat → Nat → Rat) (x y : Nat) (a : Str) (v : Rat) : Prop := ∃ π p q, Opt m1 m2 c (hpF s1 x a) (hpF s2 y a) π p q ∧ v = cost m1 m2 c π
def Stp1 (f : Rat) (m1 m2 : Nat) (s1 s2 : List Stp) (c : Nat → Nat → Rat) (x y : Nat) (v : Rat) : Prop :=
  (menuS s1 x ≠ menuS s2 y ∧ v = 1) ∨ (menuS s1 x = menuS s2 y ∧ ∃ g : Str → Rat, (∀ a ∈ menuS s1 x, Cst m1 m2 s1 s2 c x y a (g a)) ∧ v = grt ((menuS s1 x).map fun a => f * g a))
def Dep (f : Rat) (m1 m2 : Nat) (s1 s2 : List Stp) : Nat → (Nat → Nat → Rat) → Prop
  | 0, t => ∀ x y, x < m1 → y < m2 → t x y = 0
  | k + 1, t => ∃ t', Dep f m1 m2 s1 s2 k t' ∧ ∀ x y, x < m1 → y < m2 → Stp1 f m1 m2 s1 s2 t' x y (t x y)
section
variable {f : Rat} {m1 m2 : Nat} {s1 s2 : List Stp} {c c' : Nat → Nat → Rat} {x y : Nat} {a : Str} {v v' : Rat}
theorem Cst.uniq (h : Cst m1 m2 s1 s2 c x y a v) (h' : Cst m1 m2 s1 s2 c x y a v') : v = v' := by
  obtain ⟨π, p, q, o, rfl⟩ := h
  obtain ⟨π', p', q', o', rfl⟩ := h'
  exact o.uniq o'
theorem Cst.mono (h : Cst m1 m2 s1 s2 c x y a v) (h' : Cst m1 m2 s1 s2 c' x y a v') (hc : ∀ x y, x < m1 → y < m2 → c x y ≤ c' x y) : v ≤ v' := by
  obtain ⟨π, p, q, o, rfl⟩ := h
  obtain ⟨π', p', q', o', rfl⟩ := h'
  refine Rat.le_trans (o.least o'.plan) ?_
  exact sm_le fun x hx => sm_le fun y hy => Rat.mul_le_mul_of_nonneg_right (hc x y hx hy) (o'.nn x y hx hy)
theorem Stp1.mono (hf : 0 ≤ f) (h : Stp1 f m1 m2 s1 s2 c x y v) (h' : Stp1 f m1 m2 s1 s2 c' x y v') (hc : ∀ x y, x < m1 → y < m2 → c x y ≤ c' x y) : v ≤ v' := by
  rcases h with ⟨n, rfl⟩ | ⟨e, g, h1, rfl⟩
  · rcases h' with ⟨_, rfl⟩ | ⟨e, _⟩
    · exact Rat.le_refl
    · exact absurd e n
  · rcases h' with ⟨n, _⟩ | ⟨_, g', h2, rfl⟩
    · exact absurd e n
    · refine grt_lt (grt_nn _) fun b hb => ?_
      obtain ⟨z, hz, rfl⟩ := List.mem_map.1 hb
      exact Rat.le_trans (Rat.mul_le_mul_of_nonneg_left ((h1 z hz).mono (h2 z hz) hc) hf) (grt_le (List.mem_map.2 ⟨z, hz, rfl⟩))
theorem hp_sum {m : Nat} {ss : List Stp} (hg : Good m ss) {r : Nat} {a : Str} (h : a ∈ menuS ss r) : sm m (hpF ss r a) = 1 ∧ ∀ i, 0 ≤ hpF ss r a i := by
  obtain ⟨ws, hw⟩ := menu_look h
  obtain ⟨s, hs, e1, e2, e3⟩ := look_mem hw
  have ok := hg.ok s hs
  have eg : gonW ss r a = s.2.2 := by unfold gonW; rw [hw, e3]; rfl
  refine ⟨?_, fun i => wtQ_nonneg _ _⟩
  unfold hpF
  rw [eg, ← ok.ln]
  exact wtQ_sum ok.ps
theorem Cst.bd (g1 : Good m1 s1) (ha : a ∈ menuS s1 x) (h : Cst m1 m2 s1 s2 c x y a v) (hc : ∀ x y, x < m1 → y < m2 → 0 ≤ c x y ∧ c x y ≤ 1) : U01 v := by
  obtain ⟨π, p, q, o, rfl⟩ := h
  refine ⟨o.nonneg fun x y hx hy => (hc x y hx hy).1, ?_⟩
  have h1 : cost m1 m2 c π ≤ sm m1 fun x => sm m2 fun y => π x y := sm_le fun x hx => sm_le fun y hy => by
    have := Rat.mul_le_mul_of_nonneg_right (hc x y hx hy).2 (o.nn x y hx hy)
    rw [Rat.one_mul] at this
    exact this
  have h2 : (sm m1 fun x => sm m2 fun y => π x y) = 1 := by
    rw [← (hp_sum g1 ha).1]
    exact sm_congr fun x hx => o.row x hx
  rw [h2] at h1
  exact h1
theorem Stp1.bd (g1 : Good m1 s1) (hf : U01 f) (h : Stp1 f m1 m2 s1 s2 c x y v) (hc : ∀ x y, x < m1 → y < m2 → 0 ≤ c x y ∧ c x y ≤ 1) : U01 v := by
  rcases h with ⟨_, rfl⟩ | ⟨e, g, h1, rfl⟩
  · exact u1
  · refine ⟨grt_nn _, grt_lt (by grind) fun b hb => ?_⟩
    obtain ⟨z, hz, rfl⟩ := List.mem_map.1 hb
    exact (u_mul hf ((h1 z hz).bd g1 hz hc)).2
end
section
variable {f : Rat} {m1 m2 : Nat} {s1 s2 : List Stp}
theorem Dep.bd (g1 : Good m1 s1) (hf : U01 f) : ∀ {k : Nat} {t : Nat → Nat → Rat}, Dep f m1 m2 s1 s2 k t → ∀ x y, x < m1 → y < m2 → U01 (t x y)
  | 0, t, h, x, y, hx, hy => by rw [h x y hx hy]; exact u0
  | k + 1, t, ⟨t', h', hs⟩, x, y, hx, hy => (hs x y hx hy).bd g1 hf fun x y hx hy => Dep.bd g1 hf h' x y hx hy
theorem Dep.up (g1 : Good m1 s1) (hf : U01 f) : ∀ {k : Nat} {t : Nat → Nat → Rat}, Dep f m1 m2 s1 s2 (k + 1) t → ∃ t', Dep f m1 m2 s1 s2 k t' ∧ (∀ x y, x < m1 → y < m2 → Stp1 f m1 m2 s1 s2 t' x y (t x y)) ∧ ∀ x y, x < m1 → y < m2 → t' x y ≤ t x y
  | 0, t, ⟨t', h', hs⟩ => ⟨t', h', hs, fun x y hx hy => by
      rw [h' x y hx hy]
      exact ((hs x y hx hy).bd g1 hf fun x y hx hy => by rw [h' x y hx hy]; exact u0).1⟩
  | k + 1, t, ⟨t', h', hs⟩ => by
    obtain ⟨t'', h2, hs2, le⟩ := Dep.up g1 hf h'
    exact ⟨t', h', hs, fun x y hx hy => (hs2 x y hx hy).mono hf.1 (hs x y hx hy) le⟩
theorem Dep.down (g1 : Good m1 s1) (hf : U01 f) {j : Nat} : ∀ {k : Nat} {t : Nat → Nat → Rat}, j ≤ k → Dep f m1 m2 s1 s2 k t → ∃ t', Dep f m1 m2 s1 s2 j t' ∧ ∀ x y, x < m1 → y < m2 → t' x y ≤ t x y
  | 0, t, hj, h => by
    obtain rfl : j = 0 := by omega
    exact ⟨t, h, fun _ _ _ _ => Rat.le_refl⟩
  | k + 1, t, hj, h => by
    by_cases e : j = k + 1
    · subst e
      exact ⟨t, h, fun _ _ _ _ => Rat.le_refl⟩
    · obtain ⟨t', h', _, le⟩ := h.up g1 hf
      obtain ⟨t'', h2, le2⟩ := Dep.down g1 hf (by omega : j ≤ k) h'
      exact ⟨t'', h2, fun x y hx hy => Rat.le_trans (le2 x y hx hy) (le x y hx hy)⟩
end
structure ApOk (f : Rat) (m1 m2 : Nat) (s1 s2 : List Stp) (N g : Nat) : Prop where
  g1 : Good m1 s1
  g2 : Good m2 s2
  f0 : 0 < f
  f1 : f < 1
  n0 : 0 < N
  h1 : ∀ s ∈ s1, s.2.2.sum ∣ N
  h2 : ∀ s ∈ s2, s.2.2.sum ∣ N
  ng : f.den * N ≤ 2 ^ g
  g6 : g ≤ 590
theorem Dv.sm {N n : Nat} (h : 0 < N) {f : Nat → Rat} (hf : ∀ x, x < n → Dv N (f x)) : Dv N (Far.sm n f) := Dv.sum h fun q hq => by
  obtain ⟨x, hx, rfl⟩ := List.mem_map.1 hq
  exact hf x (List.mem_range.1 hx)
def Mk (f : Rat) (N k : Nat) : Nat := (f.den * N) ^ k
section
variable {f : Rat} {m1 m2 N g : Nat} {s1 s2 : List Stp} (A : ApOk f m1 m2 s1 s2 N g)
include A
theorem ApOk.u : U01 f := ⟨Rat.le_of_lt A.f0, Rat.le_of_lt A.f1⟩
theorem ApOk.mk1 (k : Nat) : Mk f N k ≤ 2 ^ (g * k) := by
  unfold Mk
  rw [Nat.pow_mul]
  exact Nat.pow_le_pow_left A.ng k
end
structure Heap (S : Nat) (fs : List Rat) : Prop where
  l1 : 1 ≤ fs.length
  l2 : fs.length ≤ 12
  q : ∀ q ∈ fs, 0 ≤ q ∧ Bq 16 q ∧ q.den ∣ S
  s : fs.sum = 1
  s0 : 0 < S
  s1 : S ≤ 200
section
variable {n m : Nat} {c : Nat → Nat → Rat} {f g : Nat → Rat} {π : Nat → Nat → Rat} {p q : Nat → Rat}
theorem Plan.f0 (h : Plan n m f g π) : ∀ x, x < n → 0 ≤ f x := fun x hx => by
  rw [← h.row x hx]
  exact sm_nn fun y hy => h.nn x y hx hy
theorem Plan.g0 (h : Plan n m f g π) : ∀ y, y < m → 0 ≤ g y := fun y hy => by
  rw [← h.col y hy]
  exact sm_nn fun x hx => h.nn x y hx hy
theorem Plan.same (h : Plan n m f g π) : sm n f = sm m g := by
  rw [← sm_congr h.row, ← sm_congr h.col]
  exact sm_swap n m π
theorem brou_d (w : Nat → Rat) : brou n n f g w w = sm n fun x => w x * (f x - g x) := by
  unfold brou
  rw [← sm_sub]
  exact sm_congr fun x _ => by grind
theorem kant (n0 : 0 < n) (c0 : ∀ x, x < n → c x x ≤ 0) (tri : ∀ x y z, x < n → y < n → z < n → c x z ≤ c x y + c y z) (h : Opt n n c f g π p q) : ∃ w : Nat → Rat, (∀ x y, x < n → y < n → w x - w y ≤ c x y) ∧ cost n n c π = sm n fun x => w x * (f x - g x) := by
  have hr : ∀ y, ∃ r, (∀ x, x < n → p x - c x y ≤ r) ∧ ∃ x, x < n ∧ r = p x - c x y := fun y => max_ex n (fun x => p x - c x y) n0
  have hw : ∀ x y, x < n → y < n → (hr x).choose - (hr y).choose ≤ c x y := fun x y hx hy => by
    obtain ⟨a, ha, e⟩ := (hr x).choose_spec.2
    have h1 := (hr y).choose_spec.1 a ha
    have h2 := tri a x y ha hx hy
    grind
  refine ⟨fun y => (hr y).choose, hw, Rat.le_antisymm ?_ ?_⟩
  · rw [h.ceq, ← brou_d]
    unfold brou
    have h1 : sm n (fun x => p x * f x) ≤ sm n fun x => (hr x).choose * f x := sm_le fun x hx => by
      refine Rat.mul_le_mul_of_nonneg_right ?_ (h.plan.f0 x hx)
      have h1 := (hr x).choose_spec.1 x hx
      have h2 := c0 x hx
      grind
    have h2 : sm n (fun y => (hr y).choose * g y) ≤ sm n fun y => q y * g y := sm_le fun y hy => by
      refine Rat.mul_le_mul_of_nonneg_right ?_ (h.plan.g0 y hy)
      obtain ⟨a, ha, e⟩ := (hr y).choose_spec.2
      have h1 := h.le a y ha hy
      grind
    grind
  · rw [← brou_d]
    exact h.most hw
theorem atmost (h : Opt n n c f g π p q) {w : Nat → Rat} (hw : ∀ x y, x < n → y < n → w x - w y ≤ c x y) : sm n (fun x => w x * (f x - g x)) ≤ cost n n c π := by
  rw [← brou_d]
  exact h.most hw
theorem ones (n0 : 0 < n) (h : Opt n n c f g π p q) (hc : ∀ x y, x < n → y < n → c x y = if x = y then 0 else 1) : cost n n c π = sm n fun x => if 0 < f x - g x then f x - g x else 0 := by
  have hd : sm n (fun j => f j - g j) = 0 := by
    rw [sm_sub, h.plan.same]
    grind
  refine Rat.le_antisymm ?_ ?_
  · obtain ⟨w, hw, e⟩ := kant n0 (fun x hx => by rw [hc x x hx hx, if_pos rfl]; exact Rat.le_refl) (fun x y z hx hy hz => by
      rw [hc x z hx hz, hc x y hx hy, hc y z hy hz]
      by_cases h1 : x = z
      · rw [if_pos h1]
        split <;> split <;> grind
      · rw [if_neg h1]
        by_cases h2 : x = y
        · rw [if_pos h2, if_neg (by omega)]
          grind
        · rw [if_neg h2]
          split <;> grind) h
    obtain ⟨r, h1, a, ha, e2⟩ := max_ex n (fun x => - w x) n0
    have e3 : sm n (fun x => w x * (f x - g x)) = sm n fun x => (w x - w a) * (f x - g x) := by
      have e4 : sm n (fun x => (w x - w a) * (f x - g x)) = sm n (fun x => w x * (f x - g x)) - w a * sm n fun x => f x - g x := by
        rw [← sm_mul, ← sm_sub]
        exact sm_congr fun x _ => by grind
      rw [e4, hd]
      grind
    rw [e, e3]
    refine sm_le fun x hx => ?_
    have k1 : 0 ≤ w x - w a := by
      have := h1 x hx
      grind
    have k2 : w x - w a ≤ 1 := by
      have := hw x a hx ha
      rw [hc x a hx ha] at this
      split at this <;> grind
    split
    · rename_i hp
      have := Rat.mul_le_mul_of_nonneg_right (c := f x - g x) k2 (by grind)
      grind
    · rename_i hp
      have := Rat.mul_le_mul_of_nonneg_left (c := w x - w a) (a := f x - g x) (b := 0) (by grind) k1
      grind
  · refine Rat.le_trans ?_ (atmost h (w := fun x => if 0 < f x - g x then 1 else 0) fun x y hx hy => ?_)
    · refine sm_le fun x hx => ?_
      split <;> grind
    · rw [hc x y hx hy]
      by_cases e : x = y
      · subst e
        rw [if_pos rfl]
        grind
      · rw [if_neg e]
        split <;> split <;> grind
end
section
variable {n : Nat} {g : Nat → Nat → Rat}
theorem comp {d : Nat → Rat} (g0 : ∀ r j, r < n → j < n → 0 ≤ g r j) (g1 : ∀ r, r < n → sm n (g r) < 1) (h : ∀ r, r < n → d r ≤ sm n fun j => g r j * d j) : ∀ j, j < n → d j ≤ 0 := fun j hj => by
  obtain ⟨M, hM, a, ha, e⟩ := max_ex n d (by omega)
  refine Rat.le_trans (hM j hj) (Rat.not_lt.1 fun hp => ?_)
  have h1 := h a ha
  have h2 : sm n (fun j => g a j * d j) ≤ sm n fun j => M * g a j := sm_le fun j hj => by
    rw [Rat.mul_comm M]
    exact Rat.mul_le_mul_of_nonneg_left (hM j hj) (g0 a j ha hj)
  rw [sm_mul] at h2
  have h3 : M * sm n (g a) < M * 1 := Rat.mul_lt_mul_of_pos_left (g1 a ha) hp
  grind
end
section
variable {m1 m2 : Nat} {f : Rat}
structure Tot (m1 m2 : Nat) (π : Nat → Nat → Rat) : Prop where
  nn : ∀ u w, u < m1 → w < m2 → 0 ≤ π u w
  one : (sm m1 fun u => sm m2 fun w => π u w) = 1
theorem cost_le {x : Nat → Nat → Rat} {π : Nat → Nat → Rat} {M : Rat} (h : Tot m1 m2 π) (hx : ∀ u w, u < m1 → w < m2 → x u w ≤ M) : cost m1 m2 x π ≤ M := by
  have h1 : cost m1 m2 x π ≤ sm m1 fun u => sm m2 fun w => M * π u w := sm_le fun u hu => sm_le fun w hw => Rat.mul_le_mul_of_nonneg_right (hx u w hu hw) (h.nn u w hu hw)
  have h2 : (sm m1 fun u => sm m2 fun w => M * π u w) = M := by
    have e : (sm m1 fun u => sm m2 fun w => M * π u w) = sm m1 fun u => M * sm m2 (π u) := sm_congr fun u _ => sm_mul _ _ _
    rw [e, sm_mul]
    show M * (sm m1 fun u => sm m2 fun w => π u w) = M
    rw [h.one, Rat.mul_one]
  rwa [h2] at h1
theorem cost_sub (x z π : Nat → Nat → Rat) : cost m1 m2 (fun u w => x u w - z u w) π = cost m1 m2 x π - cost m1 m2 z π := by
  unfold cost
  rw [← sm_sub]
  refine sm_congr fun u _ => ?_
  rw [← sm_sub]
  exact sm_congr fun w _ => by grind
theorem cost_mono {x z π : Nat → Nat → Rat} (h : Tot m1 m2 π) (hx : ∀ u w, u < m1 → w < m2 → x u w ≤ z u w) : cost m1 m2 x π ≤ cost m1 m2 z π :=
  sm_le fun u hu => sm_le fun w hw => Rat.mul_le_mul_of_nonneg_right (hx u w hu hw) (h.nn u w hu hw)
theorem cost_cons (h : Tot m1 m2 π) (M : Rat) : cost m1 m2 (fun _ _ => M) π = M := by
  have e : cost m1 m2 (fun _ _ => M) π = sm m1 fun u => M * sm m2 (π u) := sm_congr fun u _ => sm_mul _ _ _
  rw [e, sm_mul]
  show M * (sm m1 fun u => sm m2 fun w => π u w) = M
  rw [h.one, Rat.mul_one]
theorem max2 (d : Nat → Nat → Rat) (h1 : 0 < m1) (h2 : 0 < m2) : ∃ a b, a < m1 ∧ b < m2 ∧ ∀ u w, u < m1 → w < m2 → d u w ≤ d a b := by
  have row : ∀ u, ∃ b, b < m2 ∧ ∀ w, w < m2 → d u w ≤ d u b := fun u => by
    obtain ⟨M, hM, b, hb, e⟩ := max_ex m2 (d u) h2
    exact ⟨b, hb, fun w hw => by rw [← e]; exact hM w hw⟩
  obtain ⟨M, hM, a, ha, e⟩ := max_ex m1 (fun u => d u (Classical.choose (row u))) h1
  refine ⟨a, _, ha, (Classical.choose_spec (row a)).1, fun u w hu hw => Rat.le_trans ((Classical.choose_spec (row u)).2 w hw) ?_⟩
  rw [← e]
  exact hM u hu
theorem comp2d {d : Nat → Nat → Rat} (f0 : 0 ≤ f) (f1 : f < 1) (h : ∀ u w, u < m1 → w < m2 → d u w ≤ 0 ∨ ∃ π, Tot m1 m2 π ∧ d u w ≤ f * cost m1 m2 d π) : ∀ u w, u < m1 → w < m2 → d u w ≤ 0 := fun u w hu hw => by
  obtain ⟨a, b, ha, hb, hm⟩ := max2 d (m1 := m1) (m2 := m2) (by omega) (by omega)
  refine Rat.le_trans (hm u w hu hw) ?_
  rcases h a b ha hb with h0 | ⟨π, hπ, hle⟩
  · exact h0
  · refine Rat.not_lt.1 fun hp => ?_
    have h1 := cost_le hπ hm
    have h2 : f * cost m1 m2 d π ≤ f * d a b := Rat.mul_le_mul_of_nonneg_left h1 f0
    have h3 : d a b * f < d a b * 1 := Rat.mul_lt_mul_of_pos_left f1 hp
    grind
theorem comp2p {x z : Nat → Nat → Rat} (f0 : 0 ≤ f) (f1 : f < 1) (h : ∀ u w, u < m1 → w < m2 → x u w ≤ z u w ∨ ∃ π, Tot m1 m2 π ∧ x u w - z u w ≤ f * (cost m1 m2 x π - cost m1 m2 z π)) : ∀ u w, u < m1 → w < m2 → x u w ≤ z u w := fun u w hu hw => by
  have := comp2d (d := fun u w => x u w - z u w) f0 f1 (fun u w hu hw => by
    rcases h u w hu hw with h | ⟨π, h1, h2⟩
    · left
      grind
    · right
      exact ⟨π, h1, by rw [cost_sub]; exact h2⟩) u w hu hw
  grind
end
section
variable {f : Rat} {m1 m2 : Nat} {s1 s2 : List Stp}
abbrev Pls := Nat → Nat → Str → Nat → Nat → Rat
def PlsOk (m1 m2 : Nat) (s1 s2 : List Stp) (π : Pls) : Prop := ∀ u w a, u < m1 → w < m2 → menuS s1 u = menuS s2 w → a ∈ menuS s1 u → Plan m1 m2 (hpF s1 u a) (hpF s2 w a) (π u w a)
def VEq (f : Rat) (m1 m2 : Nat) (s1 s2 : List Stp) (π : Pls) (ch : Nat → Nat → Str) (x : Nat → Nat → Rat) : Prop := ∀ u w, u < m1 → w < m2 →
  (menuS s1 u ≠ menuS s2 w ∧ x u w = 1) ∨ (menuS s1 u = menuS s2 w ∧ menuS s1 u = [] ∧ x u w = 0) ∨ (menuS s1 u = menuS s2 w ∧ ch u w ∈ menuS s1 u ∧ x u w = f * cost m1 m2 x (π u w (ch u w)))
def WEq (f : Rat) (m1 m2 : Nat) (s1 s2 : List Stp) (π : Pls) (x : Nat → Nat → Rat) : Prop := ∀ u w, u < m1 → w < m2 →
  (menuS s1 u ≠ menuS s2 w ∧ x u w = 1) ∨ (menuS s1 u = menuS s2 w ∧ x u w = grt ((menuS s1 u).map fun a => f * cost m1 m2 x (π u w a)))
def Fix (f : Rat) (m1 m2 : Nat) (s1 s2 : List Stp) (x : Nat → Nat → Rat) : Prop := ∀ u w, u < m1 → w < m2 → Stp1 f m1 m2 s1 s2 x u w (x u w)
theorem plan_tot (g1 : Good m1 s1) {u w : Nat} {a : Str} {π : Nat → Nat → Rat} (ha : a ∈ menuS s1 u) (h : Plan m1 m2 (hpF s1 u a) (hpF s2 w a) π) : Tot m1 m2 π := by
  refine ⟨h.nn, ?_⟩
  rw [← (hp_sum g1 ha).1]
  exact sm_congr fun u hu => h.row u hu
variable {π π' : Pls} {ch ch' : Nat → Nat → Str} {x x' : Nat → Nat → Rat}
theorem VEq.u (g1 : Good m1 s1) (f0 : 0 ≤ f) (f1 : f < 1) (hπ : PlsOk m1 m2 s1 s2 π) (h : VEq f m1 m2 s1 s2 π ch x) : ∀ u w, u < m1 → w < m2 → U01 (x u w) := fun u w hu hw => by
  constructor
  · refine comp2p (x := fun _ _ => 0) (z := x) f0 f1 (fun u w hu hw => ?_) u w hu hw
    rcases h u w hu hw with ⟨_, e⟩ | ⟨_, _, e⟩ | ⟨hm, hc, e⟩
    · left; rw [e]; decide
    · left; rw [e]; exact Rat.le_refl
    · right
      have ht := plan_tot g1 hc (hπ u w _ hu hw hm hc)
      refine ⟨_, ht, ?_⟩
      rw [cost_cons ht, e]
      grind
  · refine comp2p (x := x) (z := fun _ _ => 1) f0 f1 (fun u w hu hw => ?_) u w hu hw
    rcases h u w hu hw with ⟨_, e⟩ | ⟨_, _, e⟩ | ⟨hm, hc, e⟩
    · left; rw [e]; exact Rat.le_refl
    · left; rw [e]; decide
    · right
      have ht := plan_tot g1 hc (hπ u w _ hu hw hm hc)
      refine ⟨_, ht, ?_⟩
      rw [cost_cons ht, e]
      grind
theorem VEq.better (g1 : Good m1 s1) (f0 : 0 ≤ f) (f1 : f < 1) (hπ : PlsOk m1 m2 s1 s2 π) (h : VEq f m1 m2 s1 s2 π ch x) (h' : VEq f m1 m2 s1 s2 π ch' x') (hb : ∀ u w, u < m1 → w < m2 → ch' u w ∈ menuS s1 u → menuS s1 u = menuS s2 w → x u w ≤ f * cost m1 m2 x (π u w (ch' u w))) :
    (∀ u w, u < m1 → w < m2 → x u w ≤ x' u w) ∧ ∀ u w, u < m1 → w < m2 → ch' u w ∈ menuS s1 u → menuS s1 u = menuS s2 w → x u w < f * cost m1 m2 x (π u w (ch' u w)) → x u w < x' u w := by
  have le : ∀ u w, u < m1 → w < m2 → x u w ≤ x' u w := by
    refine comp2p f0 f1 fun u w hu hw => ?_
    rcases h' u w hu hw with ⟨n, e⟩ | ⟨_, _, e⟩ | ⟨hm, hc, e⟩
    · left
      rw [e]
      exact (h.u g1 f0 f1 hπ u w hu hw).2
    · left
      rename_i hm he
      rcases h u w hu hw with ⟨n, _⟩ | ⟨_, _, e2⟩ | ⟨_, hc, _⟩
      · exact absurd hm n
      · rw [e, e2]; exact Rat.le_refl
      · rw [he] at hc; cases hc
    · right
      refine ⟨_, plan_tot g1 hc (hπ u w _ hu hw hm hc), ?_⟩
      have := hb u w hu hw hc hm
      rw [e]
      grind
  refine ⟨le, fun u w hu hw hc hm hlt => ?_⟩
  rcases h' u w hu hw with ⟨n, _⟩ | ⟨_, he, _⟩ | ⟨_, _, e⟩
  · exact absurd hm n
  · rw [he] at hc; cases hc
  · rw [e]
    have ht := plan_tot g1 hc (hπ u w _ hu hw hm hc)
    have := Rat.mul_le_mul_of_nonneg_left (cost_mono ht le) f0
    grind
theorem VEq.done (h : VEq f m1 m2 s1 s2 π ch x) (hn : ∀ u w a, u < m1 → w < m2 → menuS s1 u = menuS s2 w → a ∈ menuS s1 u → f * cost m1 m2 x (π u w a) ≤ x u w) (h0 : ∀ u w, u < m1 → w < m2 → 0 ≤ x u w) : WEq f m1 m2 s1 s2 π x := fun u w hu hw => by
  rcases h u w hu hw with ⟨n, e⟩ | ⟨hm, he, e⟩ | ⟨hm, hc, e⟩
  · exact .inl ⟨n, e⟩
  · refine .inr ⟨hm, ?_⟩
    rw [he, e]
    rfl
  · refine .inr ⟨hm, Rat.le_antisymm ?_ ?_⟩
    · have h0 : f * cost m1 m2 x (π u w (ch u w)) ≤ grt ((menuS s1 u).map fun a => f * cost m1 m2 x (π u w a)) := grt_le (List.mem_map.2 ⟨_, hc, rfl⟩)
      rw [← e] at h0
      exact h0
    · refine grt_lt (h0 u w hu hw) fun b hb => ?_
      obtain ⟨a, ha, rfl⟩ := List.mem_map.1 hb
      exact hn u w a hu hw hm ha
theorem WEq.u (g1 : Good m1 s1) (f0 : 0 ≤ f) (f1 : f < 1) (hπ : PlsOk m1 m2 s1 s2 π) (h : WEq f m1 m2 s1 s2 π x) : ∀ u w, u < m1 → w < m2 → U01 (x u w) := fun u w hu hw => by
  constructor
  · rcases h u w hu hw with ⟨_, e⟩ | ⟨_, e⟩
    · rw [e]; decide
    · rw [e]; exact grt_nn _
  · refine comp2p (x := x) (z := fun _ _ => 1) f0 f1 (fun u w hu hw => ?_) u w hu hw
    rcases h u w hu hw with ⟨_, e⟩ | ⟨hm, e⟩
    · left; rw [e]; exact Rat.le_refl
    · rcases grt_or ((menuS s1 u).map fun a => f * cost m1 m2 x (π u w a)) with e2 | e2
      · left
        rw [e, e2]
        decide
      · right
        obtain ⟨a, ha, e3⟩ := List.mem_map.1 e2
        have ht := plan_tot g1 ha (hπ u w _ hu hw hm ha)
        refine ⟨_, ht, ?_⟩
        rw [cost_cons ht, e, ← e3]
        grind
theorem WEq.cheaper (g1 : Good m1 s1) (f0 : 0 ≤ f) (f1 : f < 1) (hπ' : PlsOk m1 m2 s1 s2 π') (h : WEq f m1 m2 s1 s2 π x) (h' : WEq f m1 m2 s1 s2 π' x') (hc : ∀ u w a, u < m1 → w < m2 → menuS s1 u = menuS s2 w → a ∈ menuS s1 u → cost m1 m2 x (π' u w a) ≤ cost m1 m2 x (π u w a)) : ∀ u w, u < m1 → w < m2 → x' u w ≤ x u w := by
  have x0 : ∀ u w, u < m1 → w < m2 → 0 ≤ x u w := fun u w hu hw => by
    rcases h u w hu hw with ⟨_, e⟩ | ⟨_, e⟩
    · rw [e]; decide
    · rw [e]; exact grt_nn _
  refine comp2p f0 f1 fun u w hu hw => ?_
  rcases h' u w hu hw with ⟨n, e⟩ | ⟨hm, e⟩
  · left
    rcases h u w hu hw with ⟨_, e2⟩ | ⟨hm, _⟩
    · rw [e, e2]; exact Rat.le_refl
    · exact absurd hm n
  · rcases grt_or ((menuS s1 u).map fun a => f * cost m1 m2 x' (π' u w a)) with e2 | e2
    · left
      rw [e, e2]
      exact x0 u w hu hw
    · right
      obtain ⟨a, ha, e3⟩ := List.mem_map.1 e2
      refine ⟨_, plan_tot g1 ha (hπ' u w _ hu hw hm ha), ?_⟩
      have h1 : f * cost m1 m2 x (π u w a) ≤ x u w := by
        rcases h u w hu hw with ⟨n, _⟩ | ⟨_, e4⟩
        · exact absurd hm n
        · rw [e4]
          exact grt_le (List.mem_map.2 ⟨a, ha, rfl⟩)
      have h2 := Rat.mul_le_mul_of_nonneg_left (hc u w a hu hw hm ha) f0
      rw [e, ← e3]
      grind
end
section
variable {f f' : Rat} {m1 m2 : Nat} {s1 s2 : List Stp} {v v' t t' c c' : Nat → Nat → Rat}
theorem Fix.u (g1 : Good m1 s1) (f0 : 0 ≤ f) (f1 : f < 1) (h : Fix f m1 m2 s1 s2 v) : ∀ u w, u < m1 → w < m2 → U01 (v u w) := fun u w hu hw => by
  have f1' := Rat.le_of_lt f1
  refine ⟨?_, ?_⟩
  · rcases h u w hu hw with ⟨_, e⟩ | ⟨_, g, _, e⟩
    · rw [e]; decide
    · rw [e]; exact grt_nn _
  · refine comp2p (x := v) (z := fun _ _ => 1) f0 f1 (fun u w hu hw => ?_) u w hu hw
    rcases h u w hu hw with ⟨_, e⟩ | ⟨em, g, hg, e⟩
    · left; rw [e]; exact Rat.le_refl
    · rcases grt_or ((menuS s1 u).map fun a => f * g a) with e0 | e0
      · left; rw [e, e0]; decide
      · obtain ⟨a, ha, e1⟩ := List.mem_map.1 e0
        obtain ⟨π, p, q, o, eg⟩ := hg a ha
        have ht := plan_tot g1 ha o.plan
        right
        refine ⟨π, ht, ?_⟩
        rw [e, ← e1, eg, cost_cons ht]
        grind
theorem fix_le (g1 : Good m1 s1) (f0 : 0 ≤ f) (f1 : f < 1) (ff : f ≤ f') (h : Fix f m1 m2 s1 s2 v) (h' : Fix f' m1 m2 s1 s2 v') (v0 : ∀ u w, u < m1 → w < m2 → 0 ≤ v' u w) : ∀ u w, u < m1 → w < m2 → v u w ≤ v' u w := fun u w hu hw => by
  refine comp2p (x := v) (z := v') f0 f1 (fun u w hu hw => ?_) u w hu hw
  rcases h u w hu hw with ⟨n, e⟩ | ⟨em, g, hg, e⟩
  · rcases h' u w hu hw with ⟨_, e'⟩ | ⟨em', _⟩
    · left; rw [e, e']; exact Rat.le_refl
    · exact absurd em' n
  · rcases h' u w hu hw with ⟨n, _⟩ | ⟨_, g', hg', e'⟩
    · exact absurd em n
    · rcases grt_or ((menuS s1 u).map fun a => f * g a) with e0 | e0
      · left; rw [e, e0]; exact v0 u w hu hw
      · obtain ⟨a, ha, e1⟩ := List.mem_map.1 e0
        obtain ⟨π, p, q, o, eg⟩ := hg a ha
        obtain ⟨π', p', q', o', eg'⟩ := hg' a ha
        have ht := plan_tot g1 ha o'.plan
        right
        refine ⟨π', ht, ?_⟩
        have h1 : v u w ≤ f * cost m1 m2 v π' := by
          rw [e, ← e1, eg]
          exact Rat.mul_le_mul_of_nonneg_left (o.least o'.plan) f0
        have h2 : f' * cost m1 m2 v' π' ≤ v' u w := by
          rw [e', ← eg']
          exact grt_le (List.mem_map.2 ⟨a, ha, rfl⟩)
        have c0 : 0 ≤ cost m1 m2 v' π' := sm_nn fun x hx => sm_nn fun y hy => Rat.mul_nonneg (v0 x y hx hy) (o'.nn x y hx hy)
        have h3 := Rat.mul_le_mul_of_nonneg_right ff c0
        grind
theorem Fix.uniq (g1 : Good m1 s1) (f0 : 0 ≤ f) (f1 : f < 1) (h : Fix f m1 m2 s1 s2 v) (h' : Fix f m1 m2 s1 s2 v') : ∀ u w, u < m1 → w < m2 → v u w = v' u w := fun u w hu hw =>
  Rat.le_antisymm (fix_le g1 f0 f1 Rat.le_refl h h' (fun u w hu hw => (h'.u g1 f0 f1 u w hu hw).1) u w hu hw) (fix_le g1 f0 f1 Rat.le_refl h' h (fun u w hu hw => (h.u g1 f0 f1 u w hu hw).1) u w hu hw)
theorem Dep.uniq (f0 : 0 ≤ f) : ∀ {k : Nat} {t t' : Nat → Nat → Rat}, Dep f m1 m2 s1 s2 k t → Dep f m1 m2 s1 s2 k t' → ∀ u w, u < m1 → w < m2 → t u w = t' u w
  | 0, t, t', h, h', u, w, hu, hw => by rw [h u w hu hw, h' u w hu hw]
  | k + 1, t, t', ⟨q, hq, hs⟩, ⟨q', hq', hs'⟩, u, w, hu, hw => by
    have e := Dep.uniq f0 hq hq'
    exact Rat.le_antisymm ((hs u w hu hw).mono f0 (hs' u w hu hw) fun x y hx hy => by rw [e x y hx hy]; exact Rat.le_refl) ((hs' u w hu hw).mono f0 (hs u w hu hw) fun x y hx hy => by rw [e x y hx hy]; exact Rat.le_refl)
theorem Stp1.fade (f0 : 0 ≤ f) (ff : f ≤ f') {x y : Nat} {a b : Rat} (h : Stp1 f m1 m2 s1 s2 c x y a) (h' : Stp1 f' m1 m2 s1 s2 c' x y b) (c0 : ∀ u w, u < m1 → w < m2 → 0 ≤ c' u w) (hc : ∀ u w, u < m1 → w < m2 → c u w ≤ c' u w) : a ≤ b := by
  rcases h with ⟨n, rfl⟩ | ⟨em, g, hg, rfl⟩
  · rcases h' with ⟨_, rfl⟩ | ⟨em, _⟩
    · exact Rat.le_refl
    · exact absurd em n
  · rcases h' with ⟨n, _⟩ | ⟨_, g', hg', rfl⟩
    · exact absurd em n
    · refine grt_lt (grt_nn _) fun b hb => ?_
      obtain ⟨z, hz, rfl⟩ := List.mem_map.1 hb
      have h1 := (hg z hz).mono (hg' z hz) hc
      have h2 := Rat.mul_le_mul_of_nonneg_left h1 f0
      obtain ⟨π', p', q', o', eg'⟩ := hg' z hz
      have n0 : 0 ≤ g' z := by rw [eg']; exact o'.nonneg c0
      have h3 := Rat.mul_le_mul_of_nonneg_right ff n0
      have h5 := grt_le (List.mem_map.2 ⟨z, hz, rfl⟩ : f' * g' z ∈ (menuS s1 x).map fun a => f' * g' a)
      grind
theorem Dep.fade (g1 : Good m1 s1) (f0 : 0 ≤ f) (ff : f ≤ f') (f1 : f' ≤ 1) : ∀ {k : Nat} {t t' : Nat → Nat → Rat}, Dep f m1 m2 s1 s2 k t → Dep f' m1 m2 s1 s2 k t' → ∀ u w, u < m1 → w < m2 → t u w ≤ t' u w
  | 0, t, t', h, h', u, w, hu, hw => by rw [h u w hu hw, h' u w hu hw]; exact Rat.le_refl
  | k + 1, t, t', ⟨q, hq, hs⟩, ⟨q', hq', hs'⟩, u, w, hu, hw => (hs u w hu hw).fade f0 ff (hs' u w hu hw) (fun x y hx hy => (hq'.bd g1 ⟨Rat.le_trans f0 ff, f1⟩ x y hx hy).1) fun x y hx hy => Dep.fade g1 f0 ff f1 hq hq' x y hx hy
end
end Far
namespace Pw
open PySem PySem.Spec PyProof.Rows L2
def ro (k : Nat) (c : List D → (D → Prop) → (XD → Prop) → Prop) : Ct := fun ds μ P XP => ∃ a xs, ds[k]? = some (.ptr a) ∧ μ = put mu0 a (.lst xs) ∧ ∃ Pf Xf, c (ds.set k (.lst xs)) Pf Xf ∧ (∀ d, Pf d → P d (put mu0 a (.lst xs))) ∧ ∀ x, Xf x → XP x (put mu0 a (.lst xs))
end Pw
namespace Far
open PySem PySem.Spec PyProof.Rows L2 Pw
open FM (Bq)
def onQ (f : Rat) (ss : List Stp) (x : Str) (qs : List Rat) (r : Nat) : Rat := match lookS ss r x with
  | none => 0
  | some ws => f * ledQ ws qs
def canQ (ss : List Stp) (x : Str) (r : Nat) : Rat := if (lookS ss r x).isSome then 1 else 0
def mostQ (p q : Rat) : Rat := if p < q then q else p
def leastQ (p q : Rat) : Rat := if p < q then p else q
def rowW (f : Rat) (m : Nat) (ss : List Stp) (F : List (List Rat)) : Row → List Rat
  | .one => (List.range m).map fun _ => 1
  | .can x => (List.range m).map (canQ ss x)
  | .on x i => (List.range m).map (onQ f ss x (F.getD i []))
  | .neg i => (F.getD i []).map fun p => 1 - p
  | .lss i q => (F.getD i []).map fun p => mostQ 0 (p - q)
  | .both i j => List.zipWith leastQ (F.getD i []) (F.getD j [])
  | .eith i j => List.zipWith mostQ (F.getD i []) (F.getD j [])
def wL (f : Rat) (m : Nat) (ss : List Stp) (rs : List Row) : List (List Rat) := rs.foldl (fun F r => F ++ [rowW f m ss F r]) []
theorem wL_snoc (f : Rat) (m : Nat) (ss : List Stp) (rs : List Row) (r : Row) : wL f m ss (rs ++ [r]) = wL f m ss rs ++ [rowW f m ss (wL f m ss rs) r] := by
  unfold wL
  rw [List.foldl_append]
  rfl
theorem wL_lenF (f : Rat) (m : Nat) (ss : List Stp) : ∀ (rs : List Row) (F : List (List Rat)), (rs.foldl (fun F r => F ++ [rowW f m ss F r]) F).length = F.length + rs.length := by
  intro rs
  induction rs with
  | nil => intro F; rfl
  | cons r rs ih =>
    intro F
    rw [List.foldl_cons, ih, List.length_append, List.length_cons]
    simp
    omega
theorem wL_len (f : Rat) (m : Nat) (ss : List Stp) (rs : List Row) : (wL f m ss rs).length = rs.length := by
  unfold wL
  rw [wL_lenF]
  simp
def Row.plain : Row → Prop
  | .both _ _ => False
  | .eith _ _ => False
  | _ => True
end Far
namespace Pw
open PySem PySem.Spec PyProof.Rows L2
open Evl (ex_l ex_t)
end Pw
namespace Far
open PySem PySem.Spec PyProof.Rows L2 Pw
open FM (Bq)
def Row.cst : Row → Nat
  | .on _ _ => 32
  | .lss _ _ => 20
  | _ => 0
end Far
namespace Pw
open PySem PySem.Spec PyProof.Rows L2
end Pw
namespace Far
open PySem PySem.Spec PyProof.Rows L2 Pw
open FM (Bq)
theorem Bq.nu {n : Nat} {q : Rat} (h : Bq n q) : Bt n q.num := h.1
theorem num_den (q : Rat) : (q.num : Rat) = q * (q.den : Rat) := by
  have h1 := Rat.num_divInt_den q
  rw [Rat.divInt_eq_div] at h1
  have h2 : ((q.den : Int) : Rat) = (q.den : Rat) := rfl
  have h3 : (q.den : Rat) ≠ 0 := fun e => by have := Rat.natCast_eq_zero_iff.1 e; have := q.den_pos; omega
  rw [h2] at h1
  conv => rhs; lhs; rw [← h1]
  grind
theorem low_get {ws : List Nat} (h : 0 < ws.sum) {w : Nat} (hw : w ∈ ws) : gcdL ws * (w / gcdL ws) = w := Nat.mul_div_cancel' (gcdL_dvd hw)
theorem sum_low {ws : List Nat} (h : 0 < ws.sum) : gcdL ws * (low ws).sum = ws.sum := by
  have key : ∀ l : List Nat, (∀ w ∈ l, w ∈ ws) → gcdL ws * (l.map (· / gcdL ws)).sum = l.sum := by
    intro l
    induction l with
    | nil => intro _; simp
    | cons a l ih =>
      intro hl
      rw [List.map_cons, List.sum_cons, List.sum_cons, Nat.mul_add, low_get h (hl a (by simp)), ih fun w hw => hl w (by simp [hw])]
  exact key ws fun _ h => h
theorem wtQ_low {ws : List Nat} (h : 0 < ws.sum) (j : Nat) : wtQ (low ws) j = wtQ ws j := by
  unfold wtQ
  have g0 := gcdL_pos h
  have e : (low ws).getD j 0 = ws.getD j 0 / gcdL ws := by
    rw [List.getD_eq_getElem?_getD, List.getD_eq_getElem?_getD]
    unfold low
    rw [List.getElem?_map]
    cases ws[j]? with
    | none => simp
    | some w => rfl
  have e2 : gcdL ws * (low ws).getD j 0 = ws.getD j 0 := by
    rw [e, List.getD_eq_getElem?_getD]
    cases hw : ws[j]? with
    | none => simp
    | some w => exact low_get h (List.mem_of_getElem? hw)
  have e3 : ((ws.getD j 0 : Nat) : Int) = (gcdL ws : Int) * (((low ws).getD j 0 : Nat) : Int) := by rw [← Int.natCast_mul, e2]
  have e4 : ((ws.sum : Nat) : Int) = (gcdL ws : Int) * (((low ws).sum : Nat) : Int) := by rw [← Int.natCast_mul, sum_low h]
  rw [e3, e4]
  exact (Rat.divInt_mul_left (by omega)).symm
theorem find_nd {ss : List Stp} (hn : (ss.map keyS).Nodup) {s : Stp} (hs : s ∈ ss) : lookS ss s.1 s.2.1 = some s.2.2 := by
  unfold lookS
  have : ss.find? (fun t => decide (keyS t = (s.1, s.2.1))) = some s := by
    induction ss with
    | nil => cases hs
    | cons t ss ih =>
      rw [List.map_cons, List.nodup_cons] at hn
      rw [List.find?_cons]
      rcases List.mem_cons.1 hs with rfl | hs
      · have e : decide (keyS s = (s.1, s.2.1)) = true := decide_eq_true rfl
        rw [e]
      · have hne : ¬ keyS t = (s.1, s.2.1) := fun e => hn.1 (by rw [e]; exact List.mem_map.2 ⟨s, hs, rfl⟩)
        rw [decide_eq_false hne]
        exact ih hn.2 hs
  rw [this]
  rfl
theorem look_none {ss : List Stp} {r : Nat} {x : Str} (h : (r, x) ∉ ss.map keyS) : lookS ss r x = none := by
  cases e : lookS ss r x with
  | none => rfl
  | some ws =>
    obtain ⟨s, hs, e1, e2, _⟩ := look_mem e
    exact absurd (List.mem_map.2 ⟨s, hs, Prod.ext e1 e2⟩) h
theorem look_mk {m : Nat} {ss : List Stp} (h : Good m ss) (r : Nat) (x : Str) : lookS (mkS ss) r x = (lookS ss r x).map low := by
  by_cases hm : (r, x) ∈ ss.map keyS
  · obtain ⟨s, hs, e⟩ := List.mem_map.1 hm
    have e1 : s.1 = r := congrArg Prod.fst e
    have e2 : s.2.1 = x := congrArg Prod.snd e
    have h1 := find_nd h.nd hs
    have h2 : lowS s ∈ mkS ss := (mk_perm ss).mem_iff.2 (List.mem_map.2 ⟨s, hs, rfl⟩)
    have h3 := find_nd h.made.nd h2
    have h3 : lookS (mkS ss) s.1 s.2.1 = some (low s.2.2) := h3
    rw [e1, e2] at h1 h3
    rw [h1, h3]
    rfl
  · rw [look_none hm, look_none (by rw [((mk_perm ss).map keyS).mem_iff, keyS_low]; exact hm)]
    rfl
theorem Dv.neg' {N : Nat} {q : Rat} (h : Dv N q) : Dv N (-q) := by
  obtain ⟨h0, i, hi⟩ := h
  exact ⟨h0, -i, by rw [Rat.intCast_neg, ← hi]; grind⟩
theorem Dv.sub {N : Nat} {p q : Rat} (h : Dv N p) (k : Dv N q) : Dv N (p - q) := by
  have := h.add k.neg'
  rwa [← Rat.sub_eq_add_neg] at this
theorem Dv.self (q : Rat) : Dv q.den q := ⟨q.den_pos, q.num, (num_den q).symm⟩
structure TrnW (m : Nat) (ss us : List Stp) : Prop where
  ln : us.length = ss.length
  ok : ∀ (i : Nat) (s u : Stp), ss[i]? = some s → us[i]? = some u → keyS u = keyS s ∧ u.2.2.length = m ∧ 0 < u.2.2.sum ∧ u.2.2.sum ≤ 1209
theorem TrnW.keys {m : Nat} {ss us : List Stp} (h : TrnW m ss us) : us.map keyS = ss.map keyS := by
  refine List.ext_getElem (by simp [h.ln]) fun i h1 h2 => ?_
  rw [List.length_map] at h1 h2
  rw [List.getElem_map, List.getElem_map]
  exact (h.ok i _ _ (List.getElem?_eq_getElem h2) (List.getElem?_eq_getElem h1)).1
theorem TrnW.mem {m : Nat} {ss us : List Stp} (h : TrnW m ss us) {u : Stp} (hu : u ∈ us) : ∃ (i : Nat) (s : Stp), ss[i]? = some s ∧ us[i]? = some u := by
  obtain ⟨i, hi, rfl⟩ := List.getElem_of_mem hu
  exact ⟨i, ss[i]'(by rw [← h.ln]; exact hi), List.getElem?_eq_getElem _, List.getElem?_eq_getElem _⟩
theorem TrnW.mem' {m : Nat} {ss us : List Stp} (h : TrnW m ss us) {s : Stp} (hs : s ∈ ss) : ∃ (i : Nat) (u : Stp), ss[i]? = some s ∧ us[i]? = some u := by
  obtain ⟨i, hi, rfl⟩ := List.getElem_of_mem hs
  exact ⟨i, us[i]'(by rw [h.ln]; exact hi), List.getElem?_eq_getElem _, List.getElem?_eq_getElem _⟩
theorem TrnW.good {m : Nat} {ss us : List Stp} (h : TrnW m ss us) (hg : Good m ss) : Good m us where
  m1 := hg.m1
  m12 := hg.m12
  ln := by rw [h.ln]; exact hg.ln
  nd := by rw [h.keys]; exact hg.nd
  ok := fun u hu => by
    obtain ⟨i, s, hs, hu'⟩ := h.mem hu
    obtain ⟨hk, h1, h2, h3⟩ := h.ok i s u hs hu'
    have ok := hg.ok s (List.mem_of_getElem? hs)
    have e1 : u.1 = s.1 := (Prod.mk.inj hk).1
    have e2 : u.2.1 = s.2.1 := (Prod.mk.inj hk).2
    refine ⟨by rw [e1]; exact ok.rm, by rw [e2]; exact ok.nm, h1, h2, fun w hw => ?_⟩
    have := sum_of_mem hw
    exact Nat.lt_of_lt_of_le (by omega : w < 2 ^ 11) (Nat.pow_le_pow_right (by decide) (by decide))
theorem TrnW.menu {m : Nat} {ss us : List Stp} (h : TrnW m ss us) (hg : Good m ss) (x : Nat) : menuS (mkS ss) x = menuS (mkS us) x := by
  have p : (menuS (mkS ss) x).Perm (menuS (mkS us) x) := (List.perm_ext_iff_of_nodup (menu_nd hg.made x) (menu_nd (h.good hg).made x)).2 fun a => by
    rw [menu_iff, menu_iff]
    constructor
    · rintro ⟨s, hs, e1, e2⟩
      obtain ⟨z, hz, rfl⟩ := List.mem_map.1 ((mk_perm ss).mem_iff.1 hs)
      obtain ⟨i, u, h1, h2⟩ := h.mem' hz
      have hk := (h.ok i z u h1 h2).1
      exact ⟨lowS u, (mk_perm us).mem_iff.2 (List.mem_map.2 ⟨u, List.mem_of_getElem? h2, rfl⟩), ((Prod.mk.inj hk).1).trans e1, ((Prod.mk.inj hk).2).trans e2⟩
    · rintro ⟨s, hs, e1, e2⟩
      obtain ⟨u, hu, rfl⟩ := List.mem_map.1 ((mk_perm us).mem_iff.1 hs)
      obtain ⟨i, z, h1, h2⟩ := h.mem hu
      have hk := (h.ok i z u h1 h2).1
      exact ⟨lowS z, (mk_perm ss).mem_iff.2 (List.mem_map.2 ⟨z, List.mem_of_getElem? h1, rfl⟩), ((Prod.mk.inj hk).1).symm.trans e1, ((Prod.mk.inj hk).2).symm.trans e2⟩
  have e : ∀ (ss : List Stp) (t : Nat), (menuS ss t).mergeSort (PySem.W.dataLe false PyData.str) = menuS ss t := fun ss t => sortS_perm (List.mergeSort_perm _ _)
  rw [← e (mkS ss) x, ← e (mkS us) x]
  exact sortS_perm p
end Far
namespace Pw
open PySem PySem.Spec PyProof.Rows L2
end Pw
namespace Far
open PySem PySem.Spec PyProof.Rows L2 Pw
theorem eqvL {β : Type} [DecidableEq β] {enc : β → PyData} (h : ∀ a b, PyData.eqv (enc a) (enc b) = decide (a = b)) : ∀ as bs : List β, PyData.eqv (.list (as.map enc)) (.list (bs.map enc)) = decide (as = bs)
  | [], [] => by simp [PyData.eqv, PyData.eqvAll]
  | [], q :: qs => by simp [PyData.eqv, PyData.eqvAll]
  | p :: ps, [] => by simp [PyData.eqv, PyData.eqvAll]
  | p :: ps, q :: qs => by
    show (PyData.eqv (enc p) (enc q) && PyData.eqv (.list (ps.map enc)) (.list (qs.map enc))) = _
    rw [h, eqvL h ps qs]
    by_cases h1 : p = q
    · by_cases h2 : ps = qs
      · simp [h1, h2]
      · simp [h1, h2]
    · simp [h1]
theorem ShOk.nl {T : Cfg} (h : ShOk T) : ShOk T.nl := ⟨h.cl, h.nt, h.nb, h.ic, h.kb, h.ko⟩
end Far
namespace Pw
open PySem PySem.Spec PyProof.Rows L2
end Pw
namespace Far
open PySem PySem.Spec PyProof.Rows L2 Pw Cg
section
variable {κ : Type} [DecidableEq κ] {le : κ → κ → Bool}
def ddS (acc : List κ) (k : κ) : List κ := if acc.getLast? = some k then acc else acc ++ [k]
structure DdI (le : κ → κ → Bool) (pre acc : List κ) : Prop where
  st : acc.Pairwise fun a b => le a b = true ∧ a ≠ b
  mm : ∀ k, k ∈ acc ↔ k ∈ pre
  la : ∀ k ∈ pre, ∀ z, acc.getLast? = some z → le k z = true
theorem DdI.nil : DdI le ([] : List κ) [] := ⟨.nil, fun k => Iff.rfl, fun k h => (by cases h)⟩
theorem DdI.step {pre acc : List κ} {k : κ} (h : DdI le pre acc) (tr : ∀ a b c, le a b = true → le b c = true → le a c = true) (rf : ∀ a, le a a = true) (an : ∀ a ∈ pre, le a k = true → le k a = true → a = k) (hk : ∀ a ∈ pre, le a k = true) : DdI le (pre ++ [k]) (ddS acc k) := by
  unfold ddS
  by_cases e : acc.getLast? = some k
  · rw [if_pos e]
    have hm : k ∈ acc := List.mem_of_getLast? e
    refine ⟨h.st, fun a => ?_, fun a ha z hz => ?_⟩
    · rw [List.mem_append, List.mem_singleton, h.mm]
      constructor
      · exact .inl
      · rintro (h1 | rfl)
        · exact h1
        · exact (h.mm _).1 hm
    · rcases List.mem_append.1 ha with h1 | h1
      · exact h.la a h1 z hz
      · rw [List.mem_singleton.1 h1]
        exact h.la k ((h.mm k).1 hm) z hz
  · rw [if_neg e]
    refine ⟨?_, fun a => ?_, fun a ha z hz => ?_⟩
    · rw [List.pairwise_append]
      refine ⟨h.st, by simp, fun a ha b hb => ?_⟩
      rw [List.mem_singleton.1 hb]
      refine ⟨hk a ((h.mm a).1 ha), fun e1 => ?_⟩
      subst e1
      obtain ⟨z, hz⟩ : ∃ z, acc.getLast? = some z := by
        cases hz : acc.getLast? with
        | none => rw [List.getLast?_eq_none_iff] at hz; rw [hz] at ha; cases ha
        | some z => exact ⟨z, rfl⟩
      have hzm : z ∈ acc := List.mem_of_getLast? hz
      have e2 := an z ((h.mm z).1 hzm) (hk z ((h.mm z).1 hzm)) (h.la a ((h.mm a).1 ha) z hz)
      rw [e2] at hz
      exact e hz
    · rw [List.mem_append, List.mem_append, h.mm]
    · rw [List.getLast?_append, List.getLast?_singleton] at hz
      have hz : k = z := by simpa using hz
      subst hz
      rcases List.mem_append.1 ha with h1 | h1
      · exact hk a h1
      · rw [List.mem_singleton.1 h1]; exact rf k
structure Rks (le : κ → κ → Bool) (ks : List κ) (f : κ → Nat) : Prop where
  eq : ∀ a ∈ ks, ∀ b ∈ ks, f a = f b → a = b
  lt : ∀ a ∈ ks, ∀ b ∈ ks, le a b = true → a ≠ b → f a < f b
  dn : ∀ a ∈ ks, ∀ r, r < f a → ∃ b ∈ ks, f b = r
  bd : ∀ a ∈ ks, f a < ks.length
theorem idxOf_get' {l : List κ} {k : κ} (h : k ∈ l) : ∃ i, ∃ hi : i < l.length, l.idxOf k = i ∧ l[i] = k := ⟨l.idxOf k, List.idxOf_lt_length_of_mem h, rfl, List.getElem_idxOf _⟩
theorem DdI.rks {ks srt acc : List κ} (h : DdI le srt acc) (hp : ∀ k, k ∈ srt ↔ k ∈ ks) (an : ∀ a ∈ ks, ∀ b ∈ ks, le a b = true → le b a = true → a = b) : Rks le ks fun k => acc.idxOf k := by
  have mm : ∀ k, k ∈ acc ↔ k ∈ ks := fun k => (h.mm k).trans (hp k)
  have nd : acc.Nodup := h.st.imp fun ⟨_, e⟩ => e
  refine ⟨fun a ha b hb e => ?_, fun a ha b hb hl hne => ?_, fun a ha r hr => ?_, fun a ha => ?_⟩
  · obtain ⟨i, hi, e1, e2⟩ := idxOf_get' ((mm a).2 ha)
    obtain ⟨j, hj, e3, e4⟩ := idxOf_get' ((mm b).2 hb)
    have : i = j := by rw [← e1, ← e3]; exact e
    subst this
    rw [← e2, ← e4]
  · obtain ⟨i, hi, e1, e2⟩ := idxOf_get' ((mm a).2 ha)
    obtain ⟨j, hj, e3, e4⟩ := idxOf_get' ((mm b).2 hb)
    rw [e1, e3]
    rcases Nat.lt_trichotomy i j with c | c | c
    · exact c
    · subst c; exact absurd (e2.symm.trans e4) hne
    · have := (List.pairwise_iff_getElem.1 h.st j i hj hi c).1
      rw [e2, e4] at this
      exact absurd (an a ha b hb hl this) hne
  · obtain ⟨i, hi, e1, e2⟩ := idxOf_get' ((mm a).2 ha)
    have hr2 : r < acc.length := by omega
    refine ⟨acc[r], (mm _).1 (List.getElem_mem hr2), ?_⟩
    obtain ⟨j, hj, e3, e4⟩ := idxOf_get' (List.getElem_mem hr2)
    rw [e3]
    exact (List.getElem_inj nd).1 e4
  · have h1 := nodup_len nd fun k hk => (mm k).1 hk
    have := List.idxOf_lt_length_of_mem ((mm a).2 ha)
    omega
end
abbrev Mch : Type := Nat × List Stp
def rms (n : Nat) (M : Nat → Mch) : List (Nat × Nat) := (List.range n).flatMap fun i => (List.range (M i).1).map fun x => (i, x)
structure MsOk (n : Nat) (M : Nat → Mch) (N : Nat) : Prop where
  n1 : 1 ≤ n
  n2 : n ≤ 2
  gd : ∀ i, i < n → Good (M i).1 (M i).2
  w0 : 0 < N
  dv : ∀ i, i < n → ∀ s ∈ (M i).2, s.2.2.sum ∣ N
  wb : N < 2 ^ 2000
theorem rms_mem {n : Nat} {M : Nat → Mch} {q : Nat × Nat} : q ∈ rms n M ↔ q.1 < n ∧ q.2 < (M q.1).1 := by
  unfold rms
  rw [List.mem_flatMap]
  constructor
  · rintro ⟨i, hi, h⟩
    obtain ⟨x, hx, rfl⟩ := List.mem_map.1 h
    exact ⟨List.mem_range.1 hi, List.mem_range.1 hx⟩
  · rintro ⟨h1, h2⟩
    exact ⟨q.1, List.mem_range.2 h1, List.mem_map.2 ⟨q.2, List.mem_range.2 h2, rfl⟩⟩
def sN (ss : List Stp) (m : Nat) (g : Nat → Nat) (W r : Nat) (a : Str) (c : Nat) : Nat := W / (gonW ss r a).sum * (((List.range m).filter fun x => decide (g x = c)).map fun x => (gonW ss r a).getD x 0).sum
def rwN (ss : List Stp) (m : Nat) (g : Nat → Nat) (K W r : Nat) : List (List Nat) := (menuS ss r).map fun a => (List.range K).map fun c => sN ss m g W r a c
theorem gon_le {m : Nat} {ss : List Stp} (hg : Good m ss) {r : Nat} {a : Str} (ha : a ∈ menuS ss r) : ∃ s ∈ ss, s.1 = r ∧ s.2.1 = a ∧ gonW ss r a = s.2.2 ∧ lookS ss r a = some s.2.2 := by
  obtain ⟨s, hs, e1, e2⟩ := menu_iff.1 ha
  have e3 : lookS ss r a = some s.2.2 := by
    rw [← e1, ← e2]
    exact find_key hg.nd hs
  refine ⟨s, hs, e1, e2, ?_, e3⟩
  unfold gonW
  rw [e3]
  rfl
open PySem PySem.Spec PyProof.Rows L2 Pw
def kk66 : Nat → List Key
  | 0 => [.inl (-1), .inl 0]
  | t + 1 => [.inl ((t / 12 : Nat) : Int), .inl ((t % 12 : Nat) : Int)]
abbrev Msh := List (Nat × List Stp)
def rmJ (Ms : Msh) (w : Nat) : Nat := (Ms.getD w (1, [])).1
def ssJ (Ms : Msh) (w : Nat) : List Stp := (Ms.getD w (1, [])).2
structure MsJ (Ms : Msh) : Prop where
  gd : ∀ z ∈ Ms, Good z.1 z.2
  ln : Ms.length ≤ 2
theorem MsJ.at {Ms : Msh} (h : MsJ Ms) {w : Nat} (hw : w < Ms.length) : Good (rmJ Ms w) (ssJ Ms w) ∧ Ms[w]? = some (rmJ Ms w, ssJ Ms w) := by
  unfold rmJ ssJ
  rw [List.getD_eq_getElem?_getD, List.getElem?_eq_getElem hw]
  exact ⟨h.gd _ (List.getElem_mem hw), rfl⟩
structure LbOk (T : Cfg) : Prop where
  la : LaOk T
  kt : (He.ga T.K "FIRST", kk66 0) ∈ T.kts
end Far
namespace Pw
open PySem PySem.Spec PyProof.Rows L2
open Evl (Ex ex_l ex_t fresh_back)
end Pw
namespace Far
open PySem PySem.Spec PyProof.Rows L2 Pw
open FM (Bq)
theorem gcdL_mul {k : Nat} : ∀ (ws : List Nat) (a : Nat), (ws.map (· * k)).foldl (fun a w => Nat.gcd w a) (a * k) = ws.foldl (fun a w => Nat.gcd w a) a * k := by
  intro ws
  induction ws with
  | nil => intro a; rfl
  | cons w ws ih =>
    intro a
    rw [List.map_cons, List.foldl_cons, List.foldl_cons, Nat.gcd_mul_right, ih]
theorem low_mul {ws : List Nat} {k : Nat} (hk : 0 < k) : low (ws.map (· * k)) = low ws := by
  have e := gcdL_mul (k := k) ws 0
  rw [Nat.zero_mul] at e
  have e : gcdL (ws.map (· * k)) = gcdL ws * k := e
  unfold low
  rw [e, List.map_map]
  refine List.map_congr_left fun w _ => ?_
  exact Nat.mul_div_mul_right w (gcdL ws) hk
theorem low_back (ws : List Nat) : (low ws).map (· * gcdL ws) = ws := by
  unfold low
  rw [List.map_map]
  conv => rhs; rw [← List.map_id ws]
  exact List.map_congr_left fun w hw => Nat.div_mul_cancel (gcdL_dvd hw)
def Res (St : Nat → List (Str × Onw)) : Option Nat → Prop
  | some K => (bTm St K).length = K ∧ K ≤ 12 ∧ ∀ j, j < K → j < (bTm St j).length
  | none => ∃ k, (∀ j, j ≤ k → j < (bTm St j).length) ∧ (bTm St k).length ≤ 12 ∧ 12 < (bTm St (k + 1)).length
theorem bT_mono (St : Nat → List (Str × Onw)) {i j : Nat} (h : i ≤ j) : (bTm St i).length ≤ (bTm St j).length := (bT_pre St h).length_le
theorem row_at {St : Nat → List (Str × Onw)} {K : Nat} (hgo : ∀ j, j < K → j < (bTm St j).length) {r : FRow} (hr : r ∈ bR St K) : ∃ k, k < K ∧ (bTm St K).getD k 0 ∈ bTm St K ∧ ∃ z ∈ St ((bTm St K).getD k 0), r = (k, z.1, pos z.2) := by
  have key : ∀ n, n ≤ K → r ∈ bR St n → ∃ k, k < n ∧ ∃ z ∈ St ((bTm St K).getD k 0), r = (k, z.1, pos z.2) := by
    intro n
    induction n with
    | zero => exact fun _ h => (by cases h)
    | succ n ih =>
      intro hn h
      have hat : (bTm St n).getD n 0 = (bTm St K).getD n 0 := pre_getD (bT_pre St (by omega)) (hgo n (by omega))
      have h : r ∈ bR St n ++ tR n (St ((bTm St n).getD n 0)) := h
      rw [hat] at h
      rcases List.mem_append.1 h with h | h
      · obtain ⟨k, hk, q⟩ := ih (by omega) h
        exact ⟨k, by omega, q⟩
      · obtain ⟨z, hz, rfl⟩ := List.mem_map.1 h
        exact ⟨n, by omega, z, hz, rfl⟩
  obtain ⟨k, hk, z, hz, e⟩ := key K (Nat.le_refl _) hr
  refine ⟨k, hk, ?_, z, hz, e⟩
  have hl : k < (bTm St K).length := Nat.lt_of_lt_of_le (hgo k hk) (bT_mono St (by omega))
  rw [List.getD_eq_getElem?_getD, List.getElem?_eq_getElem hl]
  exact List.getElem_mem hl
theorem zerosN {α : Type} : ∀ ts : List α, (ts.map fun _ => (0 : Nat)).sum = 0
  | [] => rfl
  | _ :: ts => by rw [List.map_cons, List.sum_cons, zerosN ts]
theorem sum_hotN {v a : Nat} : ∀ {ts : List Nat}, ts.Nodup → a ∈ ts → (ts.map fun t => if a = t then v else 0).sum = v
  | t :: ts, hn, h => by
    obtain ⟨h1, h2⟩ := List.nodup_cons.1 hn
    rw [List.map_cons, List.sum_cons]
    by_cases e : a = t
    · subst e
      rw [if_pos rfl, show (ts.map fun t => if a = t then v else 0) = ts.map fun _ => 0 from List.map_congr_left fun t ht => if_neg fun (z : a = t) => h1 (by rw [z]; exact ht), zerosN]
      rfl
    · rw [if_neg e, Nat.zero_add, sum_hotN h2 ((List.mem_cons.1 h).resolve_left e)]
theorem sum_wAt {ts : List Nat} (hn : ts.Nodup) : ∀ {on : Onw}, (∀ z ∈ on, z.1 ∈ ts) → (ts.map (wAt on)).sum = (on.map Prod.snd).sum
  | [], _ => by
    rw [show ts.map (wAt []) = ts.map fun _ => 0 from rfl, zerosN]
    rfl
  | z :: on, h => by
    have ih := sum_wAt hn (on := on) fun y hy => h y (List.mem_cons_of_mem _ hy)
    have e : ∀ l : List Nat, (l.map (wAt (z :: on))).sum = (l.map fun t => if z.1 = t then z.2 else 0).sum + (l.map (wAt on)).sum := fun l => by
      induction l with
      | nil => rfl
      | cons t l ihl =>
        rw [List.map_cons, List.map_cons, List.map_cons, List.sum_cons, List.sum_cons, List.sum_cons, ihl]
        have : wAt (z :: on) t = (if z.1 = t then z.2 else 0) + wAt on t := by unfold wAt; rw [List.map_cons, List.sum_cons]
        omega
    rw [e, ih, sum_hotN hn (h z (List.mem_cons_self ..)), List.map_cons, List.sum_cons]
theorem sum_posF : ∀ on : Onw, ((pos on).map Prod.snd).sum = (on.map Prod.snd).sum
  | [] => rfl
  | z :: on => by
    have ih := sum_posF on
    unfold pos at ih ⊢
    by_cases h : 0 < z.2
    · rw [List.filter_cons_of_pos (by simpa using h), List.map_cons, List.map_cons, List.sum_cons, List.sum_cons, ih]
    · rw [List.filter_cons_of_neg (by simpa using h), List.map_cons, List.sum_cons, ih]
      omega
open PySem PySem.Spec PyProof.Rows L2 Pw Cg
def Rm (n : Nat) (M : Nat → Mch) (i x : Nat) : Prop := i < n ∧ x < (M i).1
def csum (M : Mch) (g : Nat → Nat) (x : Nat) (a : Str) (c : Nat) : Rat := sm M.1 fun u => if g u = c then hpF M.2 x a u else 0
def Bis (n : Nat) (M : Nat → Mch) (R : Nat → Nat → Nat → Nat → Prop) : Prop := ∀ i x j y, R i x j y → Rm n M i x ∧ Rm n M j y ∧ menuS (M i).2 x = menuS (M j).2 y ∧
  ∀ a ∈ menuS (M i).2 x, ∀ g : Nat → Nat → Nat, (∀ i x j y, R i x j y → g i x = g j y) → ∀ c, csum (M i) (g i) x a c = csum (M j) (g j) y a c
structure PlcP (n : Nat) (M : Nat → Mch) (p : Nat → Nat → Nat) : Prop where
  men : ∀ i x j y, Rm n M i x → Rm n M j y → p i x = p j y → menuS (M i).2 x = menuS (M j).2 y
  dn : ∀ i x, Rm n M i x → ∀ r, r < p i x → ∃ j y, Rm n M j y ∧ p j y = r
  bd : ∀ i x, Rm n M i x → p i x < (rms n M).length
  co : ∀ R, Bis n M R → ∀ i x j y, R i x j y → p i x = p j y
abbrev Ky : Type := Nat × List (List Nat)
def natP (v : Nat) : PyData := .int (v : Int)
def rowP (row : List Nat) : PyData := .list (row.map natP)
def kyP (k : Ky) : PyData := .list [.list [.list [natP k.1]], .list (k.2.map rowP)]
theorem natP_eqv (a b : Nat) : PyData.eqv (natP a) (natP b) = decide (a = b) := by
  show ((a : Int) == (b : Int)) = _
  by_cases h : a = b
  · subst h; simp
  · rw [decide_eq_false h]
    simp
    omega
theorem alike_nat : ∀ r s : List Nat, PySem.W.alikeAll (r.map natP) (s.map natP) = true
  | [], _ => by simp [PySem.W.alikeAll]
  | _ :: _, [] => by simp [PySem.W.alikeAll]
  | a :: r, b :: s => by
    rw [List.map_cons, List.map_cons, PySem.W.alikeAll, alike_nat r s]
    rfl
theorem alike_rows : ∀ r s : List (List Nat), PySem.W.alikeAll (r.map rowP) (s.map rowP) = true
  | [], _ => by simp [PySem.W.alikeAll]
  | _ :: _, [] => by simp [PySem.W.alikeAll]
  | a :: r, b :: s => by
    rw [List.map_cons, List.map_cons, PySem.W.alikeAll, alike_rows r s]
    show (PySem.W.alike (.list (a.map natP)) (.list (b.map natP)) && true) = true
    rw [PySem.W.alike, alike_nat]
    rfl
theorem kyP_lt {a b : Ky} (h : a.1 < b.1) : PySem.W.dataLe false kyP a b = true := by
  have e1 : PyData.eqv (.list [natP b.1]) (.list [natP a.1]) = false := by
    show (PyData.eqv (natP b.1) (natP a.1) && true) = false
    rw [natP_eqv, decide_eq_false (by omega)]
    rfl
  have e2 : PyData.eqv (.list [.list [natP b.1]]) (.list [.list [natP a.1]]) = false := by
    show (PyData.eqv (.list [natP b.1]) (.list [natP a.1]) && true) = false
    rw [e1]
    rfl
  have e0 : PyData.eqv (natP b.1) (natP a.1) = false := by rw [natP_eqv, decide_eq_false (by omega)]
  have l1 : PySem.W.dataLt (natP b.1) (natP a.1) = false := by
    unfold natP
    rw [PySem.W.dataLt_int, decide_eq_false (by omega)]
  have l2 : PySem.W.dataLt (.list [natP b.1]) (.list [natP a.1]) = false := by
    rw [PySem.W.dataLt_list, PySem.W.dataLt_cons (by rfl), if_neg (by rw [e0]; decide)]
    exact l1
  have l3 : PySem.W.dataLt (.list [.list [natP b.1]]) (.list [.list [natP a.1]]) = false := by
    rw [PySem.W.dataLt_list, PySem.W.dataLt_cons (by rfl), if_neg (by rw [e1]; decide)]
    exact l2
  have l4 : PySem.W.dataLt (kyP b) (kyP a) = false := by
    unfold kyP
    rw [PySem.W.dataLt_list, PySem.W.dataLt_cons (by rfl), if_neg (by rw [e2]; decide)]
    exact l3
  show (!PySem.W.dataLt (kyP b) (kyP a)) = true
  rw [l4]
  rfl
section
variable {n K W : Nat} {M : Nat → Mch} {p : Nat → Nat → Nat}
theorem sN_csum {m : Nat} {ss : List Stp} (hg : Good m ss) (g : Nat → Nat) {W x : Nat} {a : Str} (ha : a ∈ menuS ss x) (dv : ∀ s ∈ ss, s.2.2.sum ∣ W) (c : Nat) : ((sN ss m g W x a c : Nat) : Rat) = (W : Rat) * csum (m, ss) g x a c := by
  obtain ⟨s, hs, e1, e2, eg, el⟩ := gon_le hg ha
  have ps := (hg.ok s hs).ps
  obtain ⟨b, hb⟩ := dv s hs
  unfold sN csum hpF
  rw [eg]
  have eb : W / s.2.2.sum = b := by rw [hb]; exact Nat.mul_div_cancel_left _ ps
  rw [eb, Rat.natCast_mul]
  have key : ∀ m : Nat, ((((List.range m).filter fun x => decide (g x = c)).map fun x => s.2.2.getD x 0).sum : Rat) = (s.2.2.sum : Rat) * sm m fun u => if g u = c then wtQ s.2.2 u else 0 := by
    intro m
    induction m with
    | zero => simp [sm]
    | succ m ih =>
      rw [sm_succ, List.range_succ, List.filter_append, List.map_append, List.sum_append, Rat.natCast_add, ih, Rat.mul_add]
      congr 1
      by_cases h : g m = c
      · rw [if_pos h, List.filter_cons, if_pos (decide_eq_true h)]
        unfold wtQ
        have hd : (s.2.2.sum : Rat) ≠ 0 := by
          intro e
          have := Rat.natCast_eq_zero_iff.1 e
          omega
        rw [Rat.divInt_eq_div]
        simp only [List.filter_nil, List.map_cons, List.map_nil, List.sum_cons, List.sum_nil, Nat.add_zero]
        show ((s.2.2.getD m 0 : Nat) : Rat) = (s.2.2.sum : Rat) * (((s.2.2.getD m 0 : Nat) : Rat) / ((s.2.2.sum : Nat) : Rat))
        rw [Rat.div_def, ← Rat.mul_assoc, Rat.mul_comm (s.2.2.sum : Rat), Rat.mul_assoc, Rat.mul_inv_cancel _ hd, Rat.mul_one]
      · rw [if_neg h, List.filter_cons, if_neg (by rw [decide_eq_false h]; decide)]
        simp
  rw [key, ← Rat.mul_assoc, hb, Rat.natCast_mul]
  congr 1
  exact Rat.mul_comm _ _
def keyF (M : Nat → Mch) (p : Nat → Nat → Nat) (K W i x : Nat) : Ky := (p i x, rwN (M i).2 (M i).1 (p i) K W x)
theorem key_same (ok : MsOk n M W) {i x j y : Nat} (h1 : Rm n M i x) (h2 : Rm n M j y) (hm : menuS (M i).2 x = menuS (M j).2 y) :
    rwN (M i).2 (M i).1 (p i) K W x = rwN (M j).2 (M j).1 (p j) K W y ↔ ∀ a ∈ menuS (M i).2 x, ∀ c, c < K → csum (M i) (p i) x a c = csum (M j) (p j) y a c := by
  have W0 : (W : Rat) ≠ 0 := fun e => by have := Rat.natCast_eq_zero_iff.1 e; have := ok.w0; omega
  have hk : ∀ a ∈ menuS (M i).2 x, ∀ c, sN (M i).2 (M i).1 (p i) W x a c = sN (M j).2 (M j).1 (p j) W y a c ↔ csum (M i) (p i) x a c = csum (M j) (p j) y a c := fun a ha c => by
    have e1 := sN_csum (ok.gd i h1.1) (p i) ha (ok.dv i h1.1) c
    have e2 := sN_csum (ok.gd j h2.1) (p j) (by rw [← hm]; exact ha) (ok.dv j h2.1) c
    constructor
    · intro h
      rw [h, e2] at e1
      have e3 : (W : Rat)⁻¹ * ((W : Rat) * csum (M j) (p j) y a c) = (W : Rat)⁻¹ * ((W : Rat) * csum (M i) (p i) x a c) := by rw [show (W : Rat) * csum (M j) (p j) y a c = (W : Rat) * csum (M i) (p i) x a c from e1]
      rw [← Rat.mul_assoc, ← Rat.mul_assoc, Rat.inv_mul_cancel _ W0, Rat.one_mul, Rat.one_mul] at e3
      exact e3.symm
    · intro h
      have e3 : ((sN (M i).2 (M i).1 (p i) W x a c : Nat) : Rat) = ((sN (M j).2 (M j).1 (p j) W y a c : Nat) : Rat) := by
        rw [e1, e2]
        show (W : Rat) * csum (M i) (p i) x a c = (W : Rat) * csum (M j) (p j) y a c
        rw [h]
      exact_mod_cast e3
  unfold rwN
  rw [← hm]
  constructor
  · intro h a ha c hc
    have h3 := List.map_inj_left.1 h a ha
    have h4 := List.map_inj_left.1 h3 c (List.mem_range.2 hc)
    exact (hk a ha c).1 h4
  · intro h
    refine List.map_inj_left.2 fun a ha => List.map_inj_left.2 fun c hc => (hk a ha c).2 (h a ha c (List.mem_range.1 hc))
end
section
variable {n K W : Nat} {M : Nat → Mch} {p : Nat → Nat → Nat}
def keysF (n : Nat) (M : Nat → Mch) (p : Nat → Nat → Nat) (K W : Nat) : List Ky := (rms n M).map fun q => keyF M p K W q.1 q.2
theorem key_mem {i x : Nat} (h : Rm n M i x) : keyF M p K W i x ∈ keysF n M p K W := List.mem_map.2 ⟨(i, x), rms_mem.2 h, rfl⟩
theorem PlcP.next (P : PlcP n M p) (ok : MsOk n M W) {f : Ky → Nat} (hf : Rks (PySem.W.dataLe false kyP) (keysF n M p K W) f) : PlcP n M fun i x => f (keyF M p K W i x) := by
  have eqk : ∀ i x j y, Rm n M i x → Rm n M j y → f (keyF M p K W i x) = f (keyF M p K W j y) → keyF M p K W i x = keyF M p K W j y := fun i x j y h1 h2 e => hf.eq _ (key_mem h1) _ (key_mem h2) e
  refine ⟨fun i x j y h1 h2 e => P.men i x j y h1 h2 (congrArg Prod.fst (eqk i x j y h1 h2 e)), fun i x h r hr => ?_, fun i x h => ?_, fun R hR i x j y h => ?_⟩
  · obtain ⟨b, hb, e⟩ := hf.dn _ (key_mem h) r hr
    obtain ⟨q, hq, rfl⟩ := List.mem_map.1 hb
    exact ⟨q.1, q.2, rms_mem.1 hq, e⟩
  · have := hf.bd _ (key_mem h)
    unfold keysF at this
    rwa [List.length_map] at this
  · obtain ⟨r1, r2, hm, hc⟩ := hR i x j y h
    have e1 := P.co R hR i x j y h
    have e2 := (key_same (p := p) (K := K) ok r1 r2 hm).2 fun a ha c _ => hc a ha p (P.co R hR) c
    show f (p i x, _) = f (p j y, _)
    rw [e1, e2]
theorem PlcP.le (P : PlcP n M p) {f : Ky → Nat} (hf : Rks (PySem.W.dataLe false kyP) (keysF n M p K W) f) : ∀ r i x, Rm n M i x → p i x = r → r ≤ f (keyF M p K W i x)
  | 0, _, _, _, _ => Nat.zero_le _
  | r + 1, i, x, h, e => by
    obtain ⟨j, y, hj, ej⟩ := P.dn i x h r (by omega)
    have ih := PlcP.le P hf r j y hj ej
    have lt : (keyF M p K W j y).1 < (keyF M p K W i x).1 := by
      show p j y < p i x
      omega
    have := hf.lt _ (key_mem hj) _ (key_mem h) (kyP_lt lt) (fun e => by rw [e] at lt; omega)
    omega
end
def NextP (n : Nat) (M : Nat → Mch) (W : Nat) (p p' : Nat → Nat → Nat) : Prop := ∃ (K : Nat) (f : Ky → Nat), (∀ i x, Rm n M i x → p i x < K) ∧ (∃ i x, Rm n M i x ∧ p i x + 1 = K) ∧ Rks (PySem.W.dataLe false kyP) (keysF n M p K W) f ∧ ∀ i x, Rm n M i x → p' i x = f (keyF M p K W i x)
def strsEn (xs : List Str) : PyData := .list (xs.map PyData.str)
inductive CnP (n : Nat) (M : Nat → Mch) (W : Nat) : Nat → (Nat → Nat → Nat) → Prop
  | zero {p : Nat → Nat → Nat} (f : List Str → Nat) : Rks (PySem.W.dataLe false strsEn) ((rms n M).map fun q => menuS (M q.1).2 q.2) f → (∀ i x, Rm n M i x → p i x = f (menuS (M i).2 x)) → CnP n M W 0 p
  | succ {k : Nat} {p p' : Nat → Nat → Nat} : PlcP n M p → CnP n M W k p → NextP n M W p p' → CnP n M W (k + 1) p'
def CanP (n : Nat) (M : Nat → Mch) (p : Nat → Nat → Nat) : Prop := ∃ (W k : Nat) (p' : Nat → Nat → Nat), MsOk n M W ∧ CnP n M W k p ∧ NextP n M W p p' ∧ ∀ i x, Rm n M i x → p' i x = p i x
def two (m1 : Nat) (s1 : List Stp) (m2 : Nat) (s2 : List Stp) (i : Nat) : Mch := if i = 0 then (m1, s1) else (m2, s2)
theorem hp_mk {m : Nat} {ss : List Stp} (hg : Good m ss) {s : Stp} (hs : s ∈ ss) (i : Nat) : hpF (mkS ss) s.1 s.2.1 i = wtQ s.2.2 i := by
  unfold hpF
  have h : lowS s ∈ mkS ss := (mk_perm ss).mem_iff.2 (List.mem_map.2 ⟨s, hs, rfl⟩)
  have e := gon_mem hg.made.nd h
  show wtQ (gonW (mkS ss) (lowS s).1 (lowS s).2.1) i = _
  rw [e]
  exact wtQ_low (hg.ok s hs).ps i
theorem menu_mk {ss : List Stp} {t : Nat} {x : Str} : x ∈ menuS (mkS ss) t ↔ ∃ s ∈ ss, s.1 = t ∧ s.2.1 = x := by
  rw [menu_iff]
  constructor
  · rintro ⟨s, hs, e1, e2⟩
    obtain ⟨z, hz, rfl⟩ := List.mem_map.1 ((mk_perm ss).mem_iff.1 hs)
    exact ⟨z, hz, e1, e2⟩
  · rintro ⟨s, hs, e1, e2⟩
    exact ⟨lowS s, (mk_perm ss).mem_iff.2 (List.mem_map.2 ⟨s, hs, rfl⟩), e1, e2⟩
theorem sm_oneW {t : Nat} (v : Rat) : ∀ {n : Nat}, t < n → sm n (fun k => if t = k then v else 0) = v
  | n + 1, h => by
    rw [sm_succ]
    by_cases e : t = n
    · rw [if_pos e, sm_congr (g := fun _ => 0) fun x hx => if_neg (by omega)]
      have : ∀ n : Nat, sm n (fun _ => (0 : Rat)) = 0 := fun n => by
        induction n with
        | zero => rfl
        | succ n ih => rw [sm_succ, ih, Rat.zero_add]
      rw [this, Rat.zero_add]
    · rw [if_neg e, sm_oneW v (by omega), Rat.add_zero]
abbrev Tri : Type := Nat × Str × Nat
structure TriOk (m : Nat) (tr : List Tri) : Prop where
  m1 : 1 ≤ m
  m5 : m ≤ 5
  ln : tr.length ≤ 20
  nd : (tr.map fun t => (t.1, t.2.1)).Nodup
  rm : ∀ t ∈ tr, t.1 < m
  to : ∀ t ∈ tr, t.2.2 < m
  nm : ∀ t ∈ tr, nmB t.2.1 = true
def unitW (m t : Nat) : List Nat := (List.range m).map fun j => if t = j then 1 else 0
def triS (m : Nat) (tr : List Tri) : List Stp := tr.map fun t => (t.1, t.2.1, unitW m t.2.2)
theorem unitW_sum {t : Nat} : ∀ {m : Nat}, (unitW m t).sum = if t < m then 1 else 0
  | 0 => by simp [unitW]
  | m + 1 => by
    unfold unitW
    rw [List.range_succ, List.map_append, List.sum_append]
    have ih := unitW_sum (t := t) (m := m)
    unfold unitW at ih
    rw [ih]
    by_cases h : t < m
    · rw [if_pos h, if_pos (by omega)]
      simp
      omega
    · rw [if_neg h]
      by_cases e : t = m
      · subst e
        simp
      · rw [if_neg (by omega)]
        simp [e]
theorem TriOk.good {m : Nat} {tr : List Tri} (h : TriOk m tr) : Good m (triS m tr) where
  m1 := h.m1
  m12 := by have := h.m5; omega
  ln := by unfold triS; rw [List.length_map]; have := h.ln; omega
  nd := by
    unfold triS
    rw [List.map_map]
    exact h.nd
  ok := fun s hs => by
    obtain ⟨t, ht, rfl⟩ := List.mem_map.1 hs
    refine ⟨h.rm t ht, h.nm t ht, by simp [unitW], ?_, fun w hw => ?_⟩
    · show 0 < (unitW m t.2.2).sum
      rw [unitW_sum, if_pos (h.to t ht)]
      decide
    · have := sum_of_mem hw
      have e : (unitW m t.2.2).sum ≤ 1 := by rw [unitW_sum]; split <;> decide
      have this : w ≤ (unitW m t.2.2).sum := this
      exact Nat.lt_of_lt_of_le (by omega : w < 2 ^ 1) (Nat.pow_le_pow_right (by decide) (by decide))
theorem arch {f x y : Rat} (f0 : 0 ≤ f) (f1 : f < 1) (h : ∀ n : Nat, x ≤ y + f ^ n) : x ≤ y := by
  rcases (Rat.le_total : x ≤ y ∨ y ≤ x) with c | c
  · exact c
  by_cases e : x = y
  · rw [e]; exact Rat.le_refl
  exfalso
  have hd : 0 < x - y := by
    have := Rat.lt_of_le_of_ne c (Ne.symm e)
    grind
  have hb : ∀ n : Nat, f ^ n * (1 + (n : Rat) * (1 - f)) ≤ 1 := fun n => by
    induction n with
    | zero => rw [Rat.pow_zero, Rat.one_mul, show ((0 : Nat) : Rat) = 0 from rfl, Rat.zero_mul, Rat.add_zero]; exact Rat.le_refl
    | succ n ih =>
      have pn := Rat.pow_nonneg f0 (n := n)
      have n0 : (0 : Rat) ≤ (n : Rat) := by exact_mod_cast Nat.zero_le n
      have h2 : 0 ≤ ((n : Rat) + 1) * ((1 - f) * (1 - f)) := Rat.mul_nonneg (by grind) (Rat.mul_nonneg (by grind) (by grind))
      have h3 : f * (1 + ((n : Rat) + 1) * (1 - f)) ≤ 1 + (n : Rat) * (1 - f) := by grind
      have h4 := Rat.mul_le_mul_of_nonneg_left h3 pn
      rw [Rat.pow_succ, Rat.natCast_add]
      have e1 : ((1 : Nat) : Rat) = 1 := rfl
      rw [e1]
      grind
  generalize hr : (x - y) * (1 - f) = r
  have r0 : 0 < r := by rw [← hr]; exact Rat.mul_pos hd (by grind)
  have key : ∀ n : Nat, (n : Rat) * r ≤ 1 := fun n => by
    have a1 := h n
    have a2 := hb n
    have n0 : (0 : Rat) ≤ (n : Rat) := by exact_mod_cast Nat.zero_le n
    have a3 : 0 ≤ 1 + (n : Rat) * (1 - f) := by
      have := Rat.mul_nonneg n0 (show 0 ≤ 1 - f by grind)
      grind
    have a4 := Rat.mul_le_mul_of_nonneg_right (show x - y ≤ f ^ n by grind) a3
    rw [← hr]
    grind
  have k2 := key (2 * r.den)
  have e2 : ((2 * r.den : Nat) : Rat) * r = 2 * (r.num : Rat) := by
    have hden : (r.den : Rat) ≠ 0 := by exact_mod_cast r.den_nz
    have e3 : (r.den : Rat) * r = (r.num : Rat) := by
      have h0 := Rat.num_divInt_den r
      rw [Rat.divInt_eq_div] at h0
      have h0 : (r.num : Rat) / (r.den : Rat) = r := h0
      rw [Rat.div_def] at h0
      generalize (r.num : Rat) = nn at h0 ⊢
      generalize hdd : (r.den : Rat) = dd at h0 hden ⊢
      clear hdd
      rw [← h0, Rat.mul_comm, Rat.mul_assoc, Rat.inv_mul_cancel _ hden, Rat.mul_one]
    rw [Rat.natCast_mul, Rat.mul_assoc, e3]
    rfl
  have n1 : 1 ≤ r.num := by
    have h1 : 0 ≤ r.num := Rat.num_nonneg.2 (Rat.le_of_lt r0)
    have h2 : r.num ≠ 0 := fun e => by rw [Rat.num_eq_zero.1 e] at r0; exact absurd r0 (by decide)
    omega
  have n2 : (1 : Rat) ≤ (r.num : Rat) := by exact_mod_cast n1
  rw [e2] at k2
  grind
theorem sm_ge {g : Nat → Rat} : ∀ {n : Nat}, (∀ x, x < n → 0 ≤ g x) → ∀ t, t < n → g t ≤ sm n g
  | 0, _, t, h => absurd h (by omega)
  | n + 1, hg, t, ht => by
    rw [sm_succ]
    have nn : 0 ≤ sm n g := sm_nn fun x hx => hg x (by omega)
    by_cases e : t = n
    · subst e; grind
    · have := sm_ge (fun x hx => hg x (by omega)) t (show t < n by omega)
      have := hg n (by omega)
      grind
section
variable {m1 m2 : Nat} {s1 s2 : List Stp} {f : Rat} {v : Nat → Nat → Rat} {p : Nat → Nat → Nat}
theorem class_cost {F S p' q' : Nat → Rat} {π c : Nat → Nat → Rat} {P Q : Nat → Nat} {C : Rat} (o : Opt m1 m2 c F S π p' q') (F0 : ∀ x, 0 ≤ F x) (S0 : ∀ y, 0 ≤ S y) (F1 : sm m1 F = 1)
    (hm : ∀ k, sm m1 (fun u => if P u = k then F u else 0) = sm m2 fun w => if Q w = k then S w else 0) (hc : ∀ x y, x < m1 → y < m2 → P x = Q y → c x y ≤ C) : cost m1 m2 c π ≤ C := by
  generalize hK : (fun k => sm m1 fun u => if P u = k then F u else 0) = K
  have hK1 : ∀ k, sm m1 (fun u => if P u = k then F u else 0) = K k := fun k => by rw [← hK]
  have hK2 : ∀ k, sm m2 (fun w => if Q w = k then S w else 0) = K k := fun k => by rw [← hm, hK1]
  have KF : ∀ x, x < m1 → F x ≤ K (P x) := fun x hx => by
    have := sm_ge (g := fun u => if P u = P x then F u else 0) (n := m1) (fun u _ => by split; exact F0 u; exact Rat.le_refl) x hx
    rw [hK1] at this
    rwa [if_pos rfl] at this
  have KS : ∀ y, y < m2 → S y ≤ K (Q y) := fun y hy => by
    have := sm_ge (g := fun w => if Q w = Q y then S w else 0) (n := m2) (fun w _ => by split; exact S0 w; exact Rat.le_refl) y hy
    rw [hK2] at this
    rwa [if_pos rfl] at this
  have K0 : ∀ x, x < m1 → 0 ≤ K (P x) := fun x hx => Rat.le_trans (F0 x) (KF x hx)
  have K0' : ∀ y, y < m2 → 0 ≤ K (Q y) := fun y hy => Rat.le_trans (S0 y) (KS y hy)
  have inv0 : ∀ {k : Rat}, 0 ≤ k → 0 ≤ k⁻¹ := fun {k} h => by
    by_cases e : k = 0
    · rw [e, Rat.inv_zero]; exact Rat.le_refl
    · exact Rat.le_of_lt (Rat.inv_pos.2 (Rat.lt_of_le_of_ne h (Ne.symm e)))
  have pl : Plan m1 m2 F S fun x y => if P x = Q y then F x * S y * (K (P x))⁻¹ else 0 := {
    nn := fun x y hx hy => by
      split
      · exact Rat.mul_nonneg (Rat.mul_nonneg (F0 x) (S0 y)) (inv0 (K0 x hx))
      · exact Rat.le_refl
    row := fun x hx => by
      rw [sm_congr (g := fun y => (F x * (K (P x))⁻¹) * (if Q y = P x then S y else 0)) fun y hy => by
        by_cases e : P x = Q y
        · rw [if_pos e, if_pos e.symm]; grind
        · rw [if_neg e, if_neg (fun z => e z.symm)]; grind, sm_mul, hK2]
      by_cases e : K (P x) = 0
      · have : F x = 0 := Rat.le_antisymm (by rw [← e]; exact KF x hx) (F0 x)
        rw [this, e, Rat.zero_mul, Rat.zero_mul]
      · rw [Rat.mul_assoc, Rat.inv_mul_cancel _ e, Rat.mul_one]
    col := fun y hy => by
      rw [sm_congr (g := fun x => (S y * (K (Q y))⁻¹) * (if P x = Q y then F x else 0)) fun x hx => by
        by_cases e : P x = Q y
        · rw [if_pos e, if_pos e, e]; grind
        · rw [if_neg e, if_neg e]; grind, sm_mul, hK1]
      by_cases e : K (Q y) = 0
      · have : S y = 0 := Rat.le_antisymm (by rw [← e]; exact KS y hy) (S0 y)
        rw [this, e, Rat.zero_mul, Rat.zero_mul]
      · rw [Rat.mul_assoc, Rat.inv_mul_cancel _ e, Rat.mul_one] }
  refine Rat.le_trans (o.least pl) ?_
  have h1 : cost m1 m2 c (fun x y => if P x = Q y then F x * S y * (K (P x))⁻¹ else 0) ≤ sm m1 fun x => sm m2 fun y => C * (if P x = Q y then F x * S y * (K (P x))⁻¹ else 0) := by
    unfold cost
    refine sm_le fun x hx => sm_le fun y hy => ?_
    by_cases e : P x = Q y
    · exact Rat.mul_le_mul_of_nonneg_right (hc x y hx hy e) (pl.nn x y hx hy)
    · dsimp only
      rw [if_neg e, Rat.mul_zero, Rat.mul_zero]
      exact Rat.le_refl
  refine Rat.le_trans h1 ?_
  rw [sm_congr (g := fun x => C * F x) fun x hx => by rw [sm_mul]; exact congrArg (C * ·) (pl.row x hx), sm_mul, F1, Rat.mul_one]
  exact Rat.le_refl
end
structure Tb (f : Rat) (m1 m2 N k : Nat) (t : Nat → Nat → Rat) : Prop where
  u : ∀ x y, x < m1 → y < m2 → U01 (t x y)
  d : ∀ x y, x < m1 → y < m2 → (t x y).den ∣ Mk f N k
theorem Opt.congr {n m : Nat} {c c' : Nat → Nat → Rat} {f f' s s' : Nat → Rat} {π : Nat → Nat → Rat} {p q : Nat → Rat} (h : Opt n m c f s π p q) (hc : ∀ x y, x < n → y < m → c x y = c' x y) (hf : ∀ x, x < n → f x = f' x) (hs : ∀ y, y < m → s y = s' y) : Opt n m c' f' s' π p q where
  nn := h.nn
  row := fun x hx => by rw [h.row x hx, hf x hx]
  col := fun y hy => by rw [h.col y hy, hs y hy]
  le := fun x y hx hy => by rw [← hc x y hx hy]; exact h.le x y hx hy
  tight := fun x y hx hy hz => by rw [← hc x y hx hy]; exact h.tight x y hx hy hz
theorem heap_gon {m : Nat} {ss : List Stp} (hg : Good m ss) {r : Nat} {a : Str} (h : a ∈ menuS ss r) : heapD (lookS ss r a) = shL (heapQ (gonW ss r a)) ∧ (gonW ss r a).length = m ∧ 0 < (gonW ss r a).sum ∧ ∃ s ∈ ss, s.2.2 = gonW ss r a := by
  obtain ⟨s, hs, e1, e2⟩ := menu_iff.1 h
  have ok := hg.ok s hs
  have eg : gonW ss r a = s.2.2 := by rw [← e1, ← e2]; exact gon_mem hg.nd hs
  rw [look_gon h, eg]
  exact ⟨rfl, ok.ln, ok.ps, s, hs, rfl⟩
section
variable {α β : Type}
def alt (f : α → List α → Int) : List α → Int
  | [] => 0
  | x :: xs => f x xs - alt (fun y ys => f y (x :: ys)) xs
theorem alt_congr {f g : α → List α → Int} : ∀ {l : List α}, (∀ x ys, f x ys = g x ys) → alt f l = alt g l
  | [], _ => rfl
  | x :: xs, h => by
    rw [alt, alt, h x xs, alt_congr (f := fun y ys => f y (x :: ys)) (g := fun y ys => g y (x :: ys)) fun y ys => h y (x :: ys)]
theorem alt_zero : ∀ l : List α, alt (fun _ _ => 0) l = 0
  | [] => rfl
  | x :: xs => by rw [alt, alt_zero xs]; rfl
theorem alt_add (f g : α → List α → Int) : ∀ l : List α, alt (fun x ys => f x ys + g x ys) l = alt f l + alt g l := by
  intro l
  induction l generalizing f g with
  | nil => rfl
  | cons x xs ih => rw [alt, alt, alt, ih (fun y ys => f y (x :: ys)) fun y ys => g y (x :: ys)]; omega
theorem alt_neg (f : α → List α → Int) : ∀ l : List α, alt (fun x ys => - f x ys) l = - alt f l := by
  intro l
  induction l generalizing f with
  | nil => rfl
  | cons x xs ih => rw [alt, alt, ih fun y ys => f y (x :: ys)]; omega
theorem alt_sub (f g : α → List α → Int) (l : List α) : alt (fun x ys => f x ys - g x ys) l = alt f l - alt g l := by
  have h := alt_add f (fun x ys => - g x ys) l
  rw [alt_neg] at h
  rw [Int.sub_eq_add_neg, ← h]
  exact alt_congr fun x ys => Int.sub_eq_add_neg
theorem alt_mul (c : Int) (f : α → List α → Int) : ∀ l : List α, alt (fun x ys => c * f x ys) l = c * alt f l := by
  intro l
  induction l generalizing f with
  | nil => rw [alt, alt, Int.mul_zero]
  | cons x xs ih => rw [alt, alt, ih fun y ys => f y (x :: ys), Int.mul_sub]
theorem alt_anti (h : α → α → List α → Int) : ∀ l : List α, alt (fun x ys => alt (fun y zs => h x y zs) ys) l = - alt (fun x ys => alt (fun y zs => h y x zs) ys) l := by
  intro l
  induction l generalizing h with
  | nil => rfl
  | cons x xs ih =>
    have e1 : ∀ h : α → α → List α → Int, alt (fun y ys => alt (fun z zs => h y z zs) (x :: ys)) xs = alt (fun y ys => h y x ys) xs - alt (fun y ys => alt (fun z zs => h y z (x :: zs)) ys) xs := fun h => by
      rw [← alt_sub]
      exact alt_congr fun y ys => by rw [alt]
    rw [alt, alt, e1 h, e1 fun a b => h b a, ih fun a b zs => h a b (x :: zs)]
    omega
theorem alt_swap (h : α → List α → β → List β → Int) : ∀ (l : List α) (m : List β), alt (fun x xs => alt (fun y ys => h x xs y ys) m) l = alt (fun y ys => alt (fun x xs => h x xs y ys) l) m := by
  intro l
  induction l generalizing h with
  | nil => intro m; exact (alt_zero m).symm
  | cons x xs ih =>
    intro m
    rw [alt, ih (fun a as b bs => h a (x :: as) b bs), ← alt_sub]
    exact alt_congr fun y ys => by rw [alt]
end
section
variable {α β : Type} (A : α → β → Int)
def det : List β → List α → Int
  | [], [] => 1
  | [], _ :: _ => 0
  | c :: cs, rows => alt (fun r rest => A r c * det cs rest) rows
theorem det_cons (c : β) (cs : List β) (rows : List α) : det A (c :: cs) rows = alt (fun r rest => A r c * det A cs rest) rows := by rw [det]
theorem det_two (a b : β) (cs : List β) (rows : List α) : det A (a :: b :: cs) rows = alt (fun r ys => alt (fun s zs => A r a * A s b * det A cs zs) ys) rows := by
  rw [det_cons]
  refine alt_congr fun r ys => ?_
  rw [det_cons, ← alt_mul]
  exact alt_congr fun s zs => by rw [Int.mul_assoc]
theorem det_turn (a b : β) (cs : List β) (rows : List α) : det A (a :: b :: cs) rows = - det A (b :: a :: cs) rows := by
  rw [det_two, det_two, alt_anti]
  congr 1
  refine alt_congr fun r ys => alt_congr fun s zs => ?_
  rw [Int.mul_comm (A s a)]
theorem det_rep {j : β} : ∀ {cs : List β} (rows : List α), j ∈ cs → det A (j :: cs) rows = 0
  | c :: cs, rows, h => by
    by_cases e : j = c
    · subst e
      have := det_turn A j j cs rows
      omega
    · have hj : j ∈ cs := by
        rcases List.mem_cons.1 h with h | h
        · exact absurd h e
        · exact h
      rw [det_turn, det_cons]
      have e2 : alt (fun r rest => A r c * det A (j :: cs) rest) rows = alt (fun _ _ => 0) rows := alt_congr fun r rest => by rw [det_rep rest hj, Int.mul_zero]
      rw [e2, alt_zero]
      rfl
theorem det_row (r : α) : ∀ (cs : List β) (rows : List α), cs ≠ [] → det A cs (r :: rows) = alt (fun c rest => A r c * det A rest rows) cs
  | [], _, h => absurd rfl h
  | c :: cs, rows, _ => by
    rw [det_cons, alt, alt]
    refine congrArg (A r c * det A cs rows - ·) ?_
    by_cases e : cs = []
    · subst e
      have e1 : alt (fun s rest => A s c * det A [] (r :: rest)) rows = alt (fun _ _ => 0) rows := alt_congr fun s rest => by rw [det, Int.mul_zero]
      rw [e1, alt_zero]
      rfl
    · have e1 : alt (fun s rest => A s c * det A cs (r :: rest)) rows = alt (fun s rest => alt (fun c' cs' => A s c * (A r c' * det A cs' rest)) cs) rows := alt_congr fun s rest => by rw [det_row r cs rest e, alt_mul]
      rw [e1, alt_swap]
      refine alt_congr fun c' cs' => ?_
      rw [det_cons, ← alt_mul]
      exact alt_congr fun s rest => by rw [← Int.mul_assoc, ← Int.mul_assoc, Int.mul_comm (A s c)]
theorem det_rows (r s : α) : ∀ (cs : List β) (rows : List α), det A cs (r :: s :: rows) = - det A cs (s :: r :: rows)
  | [], _ => by rw [det, det]; rfl
  | [c], rows => by
    rw [det_row A r _ _ (by simp), det_row A s _ _ (by simp), alt, alt, alt, alt, det, det]
    simp
  | a :: b :: cs, rows => by
    have e1 : ∀ r s : α, det A (a :: b :: cs) (r :: s :: rows) = alt (fun c m => alt (fun c' m' => A r c * A s c' * det A m' rows) m) (a :: b :: cs) := fun r s => by
      rw [det_row A r _ _ (by simp)]
      have h : ∀ c m, A r c * det A m (s :: rows) = if m = [] then 0 else alt (fun c' m' => A r c * A s c' * det A m' rows) m := fun c m => by
        by_cases e : m = []
        · subst e
          rw [det, if_pos rfl, Int.mul_zero]
        · rw [if_neg e, det_row A s _ _ e, ← alt_mul]
          exact alt_congr fun c' m' => by rw [Int.mul_assoc]
      refine alt_congr fun c m => ?_
      rw [h c m]
      by_cases e : m = []
      · subst e
        rfl
      · rw [if_neg e]
    rw [e1, e1, alt_anti]
    congr 1
    exact alt_congr fun c m => alt_congr fun c' m' => by rw [Int.mul_comm (A s c)]
theorem det_repR {r : α} : ∀ {rows : List α} (cs : List β), r ∈ rows → det A cs (r :: rows) = 0
  | s :: rows, cs, h => by
    by_cases e : r = s
    · subst e
      have := det_rows A r r cs rows
      omega
    · have hr : r ∈ rows := by
        rcases List.mem_cons.1 h with h | h
        · exact absurd h e
        · exact h
      rw [det_rows]
      by_cases e2 : cs = []
      · subst e2
        rw [det]
        rfl
      · rw [det_row A s _ _ e2]
        have e3 : alt (fun c rest => A s c * det A rest (r :: rows)) cs = alt (fun _ _ => 0) cs := alt_congr fun c rest => by rw [det_repR rest hr, Int.mul_zero]
        rw [e3, alt_zero]
        rfl
end
section
variable {α β : Type}
theorem alt_congrM {f g : α → List α → Int} : ∀ {l : List α}, (∀ x ys, x ∈ l → f x ys = g x ys) → alt f l = alt g l
  | [], _ => rfl
  | x :: xs, h => by
    rw [alt, alt, h x xs (by simp), alt_congrM (f := fun y ys => f y (x :: ys)) (g := fun y ys => g y (x :: ys)) fun y ys hy => h y (x :: ys) (List.mem_cons_of_mem _ hy)]
def cl (r : α) (c : α → Int) : Int := c r
theorem cramer {cs : List (α → Int)} {P : List α} (a : α → Int) {r : α} (hr : r ∈ P) : det cl cs P * a r = alt (fun c cs' => c r * det cl (a :: cs') P) cs := by
  have h := det_repR cl (rows := P) (a :: cs) hr
  rw [det_row cl r _ _ (by simp), alt] at h
  have e : a r * det cl cs P = alt (fun c cs' => c r * det cl (a :: cs') P) cs := by
    have h2 : cl r a * det cl cs P - alt (fun c cs' => cl r c * det cl (a :: cs') P) cs = 0 := h
    have h3 : cl r a = a r := rfl
    rw [h3] at h2
    have h4 : alt (fun c cs' => cl r c * det cl (a :: cs') P) cs = alt (fun c cs' => c r * det cl (a :: cs') P) cs := rfl
    rw [h4] at h2
    omega
  rw [Int.mul_comm]
  exact e
theorem indep {cs : List (α → Int)} {P : List α} {w : List α → Int} (h : ∀ c ∈ cs, alt (fun r rest => c r * w rest) P = 0) (hD : det cl cs P ≠ 0) (a : α → Int) : alt (fun r rest => a r * w rest) P = 0 := by
  have e : det cl cs P * alt (fun r rest => a r * w rest) P = 0 := by
    rw [← alt_mul]
    have e1 : alt (fun r rest => det cl cs P * (a r * w rest)) P = alt (fun r rest => alt (fun c cs' => det cl (a :: cs') P * (c r * w rest)) cs) P := alt_congrM fun r rest hr => by
      rw [← Int.mul_assoc, cramer a hr, Int.mul_comm, ← alt_mul]
      exact alt_congr fun c cs' => by rw [Int.mul_comm (w rest), Int.mul_comm (c r), Int.mul_assoc]
    rw [e1, alt_swap]
    have e2 : alt (fun c cs' => alt (fun r rest => det cl (a :: cs') P * (c r * w rest)) P) cs = alt (fun _ _ => 0) cs := alt_congrM fun c cs' hc => by rw [alt_mul, h c hc, Int.mul_zero]
    rw [e2, alt_zero]
  rcases Int.mul_eq_zero.1 e with h | h
  · exact absurd h hD
  · exact h
theorem det_first (a : α → Int) (cs : List (α → Int)) (r : α) (P : List α) : det cl (a :: cs) (r :: P) = a r * det cl cs P - alt (fun s rest => a s * det cl cs (r :: rest)) P := by
  rw [det_cons, alt]
  rfl
theorem det_first2 (a : α → Int) (cs : List (α → Int)) (r s : α) (P : List α) : det cl (a :: cs) (r :: s :: P) = a r * det cl cs (s :: P) - a s * det cl cs (r :: P) + alt (fun q rest => a q * det cl cs (r :: s :: rest)) P := by
  rw [det_first, alt]
  omega
theorem step_below {cs : List (α → Int)} {P : List α} (hD : det cl cs P ≠ 0) (a t : α → Int) (u v : α) : det cl (t :: cs) (u :: P) * det cl (a :: cs) (v :: P) - det cl (t :: cs) (v :: P) * det cl (a :: cs) (u :: P) = det cl cs P * det cl (a :: t :: cs) (v :: u :: P) := by
  let w : List α → Int := fun rest => det cl (t :: cs) (v :: P) * det cl cs (u :: rest) - det cl (t :: cs) (u :: P) * det cl cs (v :: rest) - det cl cs P * det cl (t :: cs) (v :: u :: rest)
  have key : ∀ a : α → Int, det cl (t :: cs) (u :: P) * det cl (a :: cs) (v :: P) - det cl (t :: cs) (v :: P) * det cl (a :: cs) (u :: P) - det cl cs P * det cl (a :: t :: cs) (v :: u :: P) = alt (fun r rest => a r * w rest) P := fun a => by
    have e : alt (fun r rest => a r * w rest) P = det cl (t :: cs) (v :: P) * alt (fun r rest => a r * det cl cs (u :: rest)) P - det cl (t :: cs) (u :: P) * alt (fun r rest => a r * det cl cs (v :: rest)) P - det cl cs P * alt (fun r rest => a r * det cl (t :: cs) (v :: u :: rest)) P := by
      rw [← alt_mul, ← alt_mul, ← alt_mul, ← alt_sub, ← alt_sub]
      exact alt_congr fun r rest => by
        show a r * (_ - _ - _) = _
        grind
    rw [e, det_first a cs v P, det_first a cs u P, det_first2 a (t :: cs) v u P]
    grind
  have h0 : ∀ c ∈ cs, alt (fun r rest => c r * w rest) P = 0 := fun c hc => by
    rw [← key c, det_rep cl _ hc, det_rep cl _ hc, det_rep cl _ (List.mem_cons_of_mem _ hc)]
    grind
  have := key a
  rw [indep h0 hD a] at this
  omega
theorem step_above {c : α → Int} {cs : List (α → Int)} {P : List α} (hD : det cl (c :: cs) P ≠ 0) (a t : α → Int) (u : α) : det cl (t :: c :: cs) (u :: P) * det cl (a :: cs) P - det cl (t :: cs) P * det cl (a :: c :: cs) (u :: P) = det cl (c :: cs) P * det cl (t :: a :: cs) (u :: P) := by
  let w : List α → Int := fun rest => det cl (t :: c :: cs) (u :: P) * det cl cs rest + det cl (t :: cs) P * det cl (c :: cs) (u :: rest) - det cl (c :: cs) P * det cl (t :: cs) (u :: rest)
  have key : ∀ a : α → Int, det cl (t :: c :: cs) (u :: P) * det cl (a :: cs) P - det cl (t :: cs) P * det cl (a :: c :: cs) (u :: P) - det cl (c :: cs) P * det cl (t :: a :: cs) (u :: P) = alt (fun r rest => a r * w rest) P := fun a => by
    have e : alt (fun r rest => a r * w rest) P = det cl (t :: c :: cs) (u :: P) * alt (fun r rest => a r * det cl cs rest) P + det cl (t :: cs) P * alt (fun r rest => a r * det cl (c :: cs) (u :: rest)) P - det cl (c :: cs) P * alt (fun r rest => a r * det cl (t :: cs) (u :: rest)) P := by
      rw [← alt_mul, ← alt_mul, ← alt_mul, ← alt_add, ← alt_sub]
      exact alt_congr fun r rest => by
        show a r * (_ + _ - _) = _
        grind
    have e2 : det cl (a :: cs) P = alt (fun r rest => a r * det cl cs rest) P := det_cons cl a cs P
    rw [e, e2, det_turn cl t a, det_first a (c :: cs) u P, det_first a (t :: cs) u P]
    grind
  have h0 : ∀ d ∈ c :: cs, alt (fun r rest => d r * w rest) P = 0 := fun d hd => by
    rw [← key d]
    rcases List.mem_cons.1 hd with rfl | hd
    · rw [det_rep cl (j := d) (cs := d :: cs) _ (by simp)]
      grind
    · rw [det_rep cl _ hd, det_rep cl _ (List.mem_cons_of_mem _ hd), det_turn cl t d, det_rep cl _ (List.mem_cons_of_mem _ hd)]
      grind
  have := key a
  rw [indep h0 hD a] at this
  omega
end
section
variable (A : Nat → Nat → Int)
def cA (j : Nat) : Nat → Int := fun r => A r j
def colsT : Nat → List (Nat → Int)
  | 0 => []
  | t + 1 => cA A t :: colsT t
def colsR (i : Nat) (a : Nat → Int) : Nat → List (Nat → Int)
  | 0 => []
  | t + 1 => (if t = i then a else cA A t) :: colsR i a t
def colsD (i : Nat) : Nat → List (Nat → Int)
  | 0 => []
  | t + 1 => if t = i then colsT A t else cA A t :: colsD i t
def pre (σ : Nat → Nat) : Nat → List Nat
  | 0 => []
  | t + 1 => σ t :: pre σ t
theorem colsR_T {i : Nat} {a : Nat → Int} : ∀ {t : Nat}, t ≤ i → colsR A i a t = colsT A t
  | 0, _ => rfl
  | t + 1, h => by rw [colsR, colsT, if_neg (by omega), colsR_T (t := t) (by omega)]
theorem colsR_self {i : Nat} : ∀ (t : Nat), colsR A i (cA A i) t = colsT A t
  | 0 => rfl
  | t + 1 => by
    rw [colsR, colsT, colsR_self t]
    split
    · rename_i e
      rw [e]
    · rfl
theorem det_mulR {b : Nat → Int} {s : Int} {X Y : List (Nat → Int)} (h : ∀ rows : List Nat, det cl X rows = s * det cl Y rows) (rows : List Nat) : det cl (b :: X) rows = s * det cl (b :: Y) rows := by
  rw [det_cons, det_cons, ← alt_mul]
  exact alt_congr fun r rest => by rw [h]; grind
theorem det_front {i : Nat} : ∀ {t : Nat}, i < t → ∃ s : Int, s * s = 1 ∧ ∀ (a : Nat → Int) (rows : List Nat), det cl (colsR A i a t) rows = s * det cl (a :: colsD A i t) rows
  | t + 1, h => by
    by_cases e : t = i
    · refine ⟨1, rfl, fun a rows => ?_⟩
      rw [colsR, colsD, if_pos e, if_pos e, colsR_T A (by omega), Int.one_mul]
    · obtain ⟨s, h1, h2⟩ := det_front (i := i) (t := t) (by omega)
      refine ⟨-s, by grind, fun a rows => ?_⟩
      rw [colsR, colsD, if_neg e, if_neg e, det_mulR (h2 a), det_turn]
      grind
structure Bar (n : Nat) (σ : Nat → Nat) (t : Nat) (C : Nat → Nat → Int) (last : Int) : Prop where
  le : t ≤ n
  l : last = det cl (colsT A t) (pre σ t)
  l0 : last ≠ 0
  lo : ∀ i j, t ≤ i → i < n → C i j = det cl (cA A j :: colsT A t) (σ i :: pre σ t)
  up : ∀ i j, i < t → C i j = det cl (colsR A i (cA A j) t) (pre σ t)
theorem Bar.start {n : Nat} : Bar A n id 0 A 1 := ⟨Nat.zero_le _, rfl, by decide, fun i j _ _ => by
  show _ = A (id i) j * 1 - 0
  rw [Int.mul_one]
  exact (Int.sub_zero _).symm, fun i j h => by omega⟩
def sw (t k : Nat) {α : Type} (f : Nat → α) : Nat → α := fun i => if i = t then f k else if i = k then f t else f i
theorem pre_sw {σ : Nat → Nat} {a k : Nat} : ∀ {t : Nat}, t ≤ a → a ≤ k → pre (sw a k σ) t = pre σ t
  | 0, _, _ => rfl
  | t + 1, h1, h2 => by
    rw [pre, pre, pre_sw (t := t) (by omega) h2]
    congr 1
    unfold sw
    rw [if_neg (by omega), if_neg (by omega)]
theorem Bar.swap {n t k : Nat} {σ : Nat → Nat} {C : Nat → Nat → Int} {last : Int} (h : Bar A n σ t C last) (h1 : t ≤ k) (h2 : k < n) : Bar A n (sw t k σ) t (sw t k C) last := by
  refine ⟨h.le, ?_, h.l0, fun i j i1 i2 => ?_, fun i j hi => ?_⟩
  · rw [pre_sw (Nat.le_refl t) h1]; exact h.l
  · rw [pre_sw (Nat.le_refl t) h1]
    unfold sw
    by_cases e : i = t
    · rw [if_pos e, if_pos e]
      exact h.lo k j h1 h2
    · rw [if_neg e, if_neg e]
      by_cases e2 : i = k
      · rw [if_pos e2, if_pos e2]
        exact h.lo t j (Nat.le_refl t) (by omega)
      · rw [if_neg e2, if_neg e2]
        exact h.lo i j i1 i2
  · rw [pre_sw (Nat.le_refl t) h1]
    unfold sw
    rw [if_neg (by omega), if_neg (by omega)]
    exact h.up i j hi
theorem Bar.exact {n t : Nat} {σ : Nat → Nat} {C : Nat → Nat → Int} {last : Int} (h : Bar A n σ t C last) (ht : t < n) {i j : Nat} (hi : i < n) (hit : i ≠ t) :
    C t t * C i j - C i t * C t j = last * (if t < i then det cl (cA A j :: colsT A (t + 1)) (σ i :: pre σ (t + 1)) else det cl (colsR A i (cA A j) (t + 1)) (pre σ (t + 1))) := by
  have hl := h.l0
  rw [h.l] at hl
  by_cases e : t < i
  · rw [if_pos e, h.l, h.lo t t (Nat.le_refl t) ht, h.lo i j (by omega) hi, h.lo i t (by omega) hi, h.lo t j (Nat.le_refl t) ht]
    exact step_below hl (cA A j) (cA A t) (σ t) (σ i)
  · rw [if_neg e]
    obtain ⟨s, s1, s2⟩ := det_front A (i := i) (t := t) (by omega)
    have eT : ∀ rows, det cl (colsT A t) rows = s * det cl (cA A i :: colsD A i t) rows := fun rows => by
      rw [← colsR_self A (i := i) t]
      exact s2 _ rows
    have eD : det cl (cA A i :: colsD A i t) (pre σ t) ≠ 0 := fun z => hl (by rw [eT, z, Int.mul_zero])
    have key := step_above eD (cA A j) (cA A t) (σ t)
    rw [h.l, h.lo t t (Nat.le_refl t) ht, h.up i j (by omega), h.up i t (by omega), h.lo t j (Nat.le_refl t) ht, colsR, if_neg (by omega), s2, s2, eT, det_mulR eT, det_mulR eT, det_mulR (s2 (cA A j)), pre]
    grind
theorem Bar.step {n t : Nat} {σ : Nat → Nat} {C C' : Nat → Nat → Int} {last : Int} (h : Bar A n σ t C last) (ht : t < n) (hp : C t t ≠ 0) (e1 : ∀ j, C' t j = C t j) (e2 : ∀ i j, i < n → i ≠ t → C' i j = (C t t * C i j - C i t * C t j).fdiv last) : Bar A n σ (t + 1) C' (C t t) := by
  have q : ∀ i j, i < n → i ≠ t → C' i j = if t < i then det cl (cA A j :: colsT A (t + 1)) (σ i :: pre σ (t + 1)) else det cl (colsR A i (cA A j) (t + 1)) (pre σ (t + 1)) := fun i j hi hit => by
    rw [e2 i j hi hit, h.exact A ht hi hit, Int.mul_fdiv_cancel_left _ h.l0]
  refine ⟨ht, h.lo t t (Nat.le_refl t) ht, hp, fun i j i1 i2 => ?_, fun i j hi => ?_⟩
  · rw [q i j i2 (by omega), if_pos (by omega)]
  · by_cases e : i = t
    · subst e
      rw [e1, h.lo i j (Nat.le_refl i) ht, colsR, if_pos rfl, colsR_T A (Nat.le_refl i), pre]
    · rw [q i j (by omega) e, if_neg (by omega)]
end
def sI : Nat → (Nat → Int) → Int
  | 0, _ => 0
  | n + 1, f => sI n f + f n
theorem sI_congr {f g : Nat → Int} : ∀ {n : Nat}, (∀ i, i < n → f i = g i) → sI n f = sI n g
  | 0, _ => rfl
  | n + 1, h => by rw [sI, sI, sI_congr fun i hi => h i (by omega), h n (by omega)]
def Turn (g : List (Nat → Int) → Int) : Prop := ∀ (L : List (Nat → Int)) (a b : Nat → Int) (X : List (Nat → Int)), g (L ++ a :: b :: X) = - g (L ++ b :: a :: X)
theorem Turn.behind {g : List (Nat → Int) → Int} (h : Turn g) (b : Nat → Int) : Turn fun X => g (b :: X) := fun L a c X => h (b :: L) a c X
theorem turn_det : ∀ (L : List (Nat → Int)) (a b : Nat → Int) (X : List (Nat → Int)) (P : List Nat), det cl (L ++ a :: b :: X) P = - det cl (L ++ b :: a :: X) P
  | [], a, b, X, P => det_turn cl a b X P
  | c :: L, a, b, X, P => by
    rw [List.cons_append, List.cons_append, det_cons, det_cons, ← alt_neg]
    exact alt_congr fun r rest => by rw [turn_det L a b X rest, Int.mul_neg]
section
variable {A : Nat → Nat → Int}
theorem exp_T (a : Nat → Int) (r : Nat) : ∀ (t : Nat) (g : List (Nat → Int) → Int), Turn g → alt (fun c cs' => c r * g (a :: cs')) (colsT A t) = sI t fun i => A r i * g (colsR A i a t)
  | 0, g, _ => rfl
  | t + 1, g, h => by
    rw [colsT, alt, sI]
    have e1 : alt (fun c cs' => c r * g (a :: cA A t :: cs')) (colsT A t) = - alt (fun c cs' => c r * g (cA A t :: a :: cs')) (colsT A t) := by
      rw [← alt_neg]
      exact alt_congr fun c cs' => by
        have h2 : g (a :: cA A t :: cs') = - g (cA A t :: a :: cs') := h [] a (cA A t) cs'
        rw [h2, Int.mul_neg]
    rw [e1, exp_T a r t (fun X => g (cA A t :: X)) (h.behind _)]
    have e2 : (sI t fun i => A r i * g (colsR A i a (t + 1))) = sI t fun i => A r i * g (cA A t :: colsR A i a t) := sI_congr fun i hi => by rw [colsR, if_neg (by omega)]
    have e3 : g (colsR A t a (t + 1)) = g (a :: colsT A t) := by rw [colsR, if_pos rfl, colsR_T A (Nat.le_refl t)]
    rw [e2, e3]
    show A r t * _ - - _ = _
    omega
theorem mem_pre {σ : Nat → Nat} {i : Nat} : ∀ {t : Nat}, i < t → σ i ∈ pre σ t
  | t + 1, h => by
    rw [pre]
    by_cases e : i = t
    · rw [e]; simp
    · exact List.mem_cons_of_mem _ (mem_pre (by omega))
theorem Bar.by {n t : Nat} {σ : Nat → Nat} {C : Nat → Nat → Int} {last : Int} (h : Bar A n σ t C last) {i : Nat} (hi : i < t) (j : Nat) : last * A (σ i) j = sI t fun k => A (σ i) k * C k j := by
  rw [h.l]
  have e := cramer (cs := colsT A t) (P := pre σ t) (cA A j) (mem_pre (σ := σ) hi)
  rw [exp_T (cA A j) (σ i) t (fun X => det cl X (pre σ t)) fun L a b X => turn_det L a b X _] at e
  refine Eq.trans e (sI_congr fun k hk => ?_)
  rw [h.up k j hk]
theorem Bar.behind {n t : Nat} {σ : Nat → Nat} {C : Nat → Nat → Int} {last : Int} (h : Bar A n σ t C last) {i : Nat} (h1 : t ≤ i) (h2 : i < n) (j : Nat) : C i j = A (σ i) j * last - sI t fun k => A (σ i) k * C k j := by
  rw [h.lo i j h1 h2, det_row cl (σ i) _ _ (by simp), alt, h.l]
  have e := exp_T (A := A) (cA A j) (σ i) t (fun X => det cl X (pre σ t)) fun L a b X => turn_det L a b X _
  have e2 : alt (fun c rest => cl (σ i) c * det cl (cA A j :: rest) (pre σ t)) (colsT A t) = sI t fun k => A (σ i) k * C k j := Eq.trans e (sI_congr fun k hk => by rw [h.up k j hk])
  rw [e2]
  rfl
end
section
variable {n m n' m' : Nat} {c c' : Nat → Nat → Rat} {f s f' s' : Nat → Rat} {π π' : Nat → Nat → Rat} {p q p' q' : Nat → Rat}
def src (t i : Nat) : Nat := if i ≤ t then i else i - 1
theorem wider (n0 : 0 < n) (m0 : 0 < m) (h : Opt n m c f s π p q) (h' : Opt (n + 1) (m + 1) c' f' s' π' p' q') (e : ∀ x y, x < n → y < m → c' x y = c x y) (e0 : ∀ x y, x < n + 1 → y < m + 1 → ¬ (x < n ∧ y < m) → 0 ≤ c' x y) (f1 : ∀ x, x < n → f' x = f x) (f2 : f' n = 0) (s1 : ∀ y, y < m → s' y = s y) (s2 : s' m = 0) : cost (n + 1) (m + 1) c' π' = cost n m c π := by
  have bw : ∀ P Q : Nat → Rat, brou (n + 1) (m + 1) f' s' P Q = brou n m f s P Q := fun P Q => by
    unfold brou
    rw [sm_succ, sm_succ, f2, s2, Rat.mul_zero, Rat.mul_zero, Rat.add_zero, Rat.add_zero]
    congr 1
    · exact sm_congr fun x hx => by rw [f1 x hx]
    · exact sm_congr fun y hy => by rw [s1 y hy]
  refine Rat.le_antisymm ?_ ?_
  · rw [h'.ceq, bw]
    refine h.most fun x y hx hy => ?_
    have := h'.le x y (by omega) (by omega)
    rw [e x y hx hy] at this
    exact this
  · obtain ⟨R, hR, _⟩ := max_ex n p n0
    obtain ⟨R', hR', _⟩ := max_ex m (fun y => - q y) m0
    have key := h'.most (p' := fun x => if x < n then p x else if - R' ≤ R then - R' else R) (q' := fun y => if y < m then q y else R) fun x y hx hy => by
      show (if x < n then _ else _) - (if y < m then _ else _) ≤ _
      by_cases hx1 : x < n
      · rw [if_pos hx1]
        by_cases hy1 : y < m
        · rw [if_pos hy1, e x y hx1 hy1]
          exact h.le x y hx1 hy1
        · rw [if_neg hy1]
          have g1 := hR x hx1
          have g2 := e0 x y hx hy (fun z => hy1 z.2)
          grind
      · rw [if_neg hx1]
        have g2 := e0 x y hx hy (fun z => hx1 z.1)
        by_cases hy1 : y < m
        · rw [if_pos hy1]
          have g1 : - q y ≤ R' := hR' y hy1
          split <;> grind
        · rw [if_neg hy1]
          split <;> grind
    rw [h.ceq]
    refine Rat.le_trans ?_ key
    rw [bw]
    unfold brou
    have k1 : sm n (fun x => (if x < n then p x else if - R' ≤ R then - R' else R) * f x) = sm n fun x => p x * f x := sm_congr fun x hx => by rw [if_pos hx]
    have k2 : sm m (fun y => (if y < m then q y else R) * s y) = sm m fun y => q y * s y := sm_congr fun y hy => by rw [if_pos hy]
    rw [k1, k2]
    exact Rat.le_refl
end
section
variable {α : Type}
def tk (f : α → List α → Nat) : List α → Nat
  | [] => 0
  | x :: xs => f x xs + tk (fun y ys => f y (x :: ys)) xs
theorem alt_abs (f : α → List α → Int) : ∀ l : List α, (alt f l).natAbs ≤ tk (fun x ys => (f x ys).natAbs) l := by
  intro l
  induction l generalizing f with
  | nil => exact Nat.le_refl _
  | cons x xs ih =>
    rw [alt, tk]
    have h := ih fun y ys => f y (x :: ys)
    omega
theorem tk_mono {f g : α → List α → Nat} : ∀ {l : List α}, (∀ x ys, f x ys ≤ g x ys) → tk f l ≤ tk g l := by
  intro l
  induction l generalizing f g with
  | nil => intro _; exact Nat.le_refl _
  | cons x xs ih =>
    intro h
    rw [tk, tk]
    exact Nat.add_le_add (h x xs) (ih fun y ys => h y (x :: ys))
theorem tk_mul (c : Nat) (f : α → List α → Nat) : ∀ l : List α, tk (fun x ys => c * f x ys) l = c * tk f l := by
  intro l
  induction l generalizing f with
  | nil => rfl
  | cons x xs ih => rw [tk, tk, ih fun y ys => f y (x :: ys), Nat.mul_add]
theorem tk_congr {f g : α → List α → Nat} (h : ∀ x ys, f x ys = g x ys) (l : List α) : tk f l = tk g l := by
  rw [show f = g from funext fun x => funext fun ys => h x ys]
def pr (S : α → Nat) : List α → Nat
  | [] => 1
  | x :: xs => S x * pr S xs
theorem pr_mono {S R : α → Nat} (h : ∀ r, S r ≤ R r) : ∀ l : List α, pr S l ≤ pr R l
  | [] => Nat.le_refl _
  | x :: xs => Nat.mul_le_mul (h x) (pr_mono h xs)
theorem tk_pr (a S : α → Nat) : ∀ l : List α, tk (fun r rest => a r * pr S rest) l + pr S l ≤ pr (fun r => a r + S r) l := by
  intro l
  induction l with
  | nil => exact Nat.le_refl _
  | cons x xs ih =>
    rw [tk, pr, pr]
    have e : tk (fun y ys => a y * pr S (x :: ys)) xs = S x * tk (fun y ys => a y * pr S ys) xs := by
      rw [← tk_mul]
      exact tk_congr (fun y ys => by rw [pr, Nat.mul_left_comm]) xs
    rw [e]
    have h0 := pr_mono (S := S) (R := fun r => a r + S r) (fun r => Nat.le_add_left _ _) xs
    have h1 := Nat.mul_le_mul_left (a x) h0
    have h2 := Nat.mul_le_mul_left (S x) ih
    rw [Nat.mul_add] at h2
    rw [Nat.add_mul]
    omega
theorem pr_le {S : α → Nat} {B : Nat} : ∀ {l : List α}, (∀ r ∈ l, S r ≤ B) → pr S l ≤ B ^ l.length
  | [], _ => Nat.le_refl _
  | x :: xs, h => by
    rw [pr, List.length_cons, Nat.pow_succ, Nat.mul_comm]
    exact Nat.mul_le_mul (pr_le fun r hr => h r (List.mem_cons_of_mem _ hr)) (h x (by simp))
def rs (cs : List (α → Int)) (r : α) : Nat := (cs.map fun c => (c r).natAbs).sum
theorem det_le : ∀ (cs : List (α → Int)) (rows : List α), (det cl cs rows).natAbs ≤ pr (rs cs) rows
  | [], [] => Nat.le_refl _
  | [], _ :: _ => Nat.zero_le _
  | c :: cs, rows => by
    rw [det_cons]
    refine Nat.le_trans (alt_abs _ _) ?_
    refine Nat.le_trans (tk_mono (g := fun r rest => (c r).natAbs * pr (rs cs) rest) fun r rest => ?_) ?_
    · show (c r * det cl cs rest).natAbs ≤ _
      rw [Int.natAbs_mul]
      exact Nat.mul_le_mul_left _ (det_le cs rest)
    · refine Nat.le_trans (Nat.le_add_right _ _) (Nat.le_trans (tk_pr (fun r => (c r).natAbs) (rs cs) rows) (Nat.le_of_eq ?_))
      congr 1
end
section
variable {A : Nat → Nat → Int}
theorem rs_T (r : Nat) : ∀ t, rs (colsT A t) r = ((List.range t).map fun j => (A r j).natAbs).sum
  | 0 => rfl
  | t + 1 => by
    rw [List.range_succ, List.map_append, List.sum_append, ← rs_T r t]
    show (A r t).natAbs + rs (colsT A t) r = _
    simp [Nat.add_comm]
theorem rs_R (i r : Nat) (a : Nat → Int) : ∀ t, rs (colsR A i a t) r ≤ (if i < t then (a r).natAbs else 0) + rs (colsT A t) r
  | 0 => Nat.zero_le _
  | t + 1 => by
    have h := rs_R i r a t
    show ((if t = i then a else cA A t) r).natAbs + rs (colsR A i a t) r ≤ _ + ((A r t).natAbs + rs (colsT A t) r)
    by_cases e : t = i
    · rw [if_pos e, if_pos (by omega)]
      rw [if_neg (by omega)] at h
      omega
    · rw [if_neg e]
      show (A r t).natAbs + _ ≤ _
      by_cases e2 : i < t
      · rw [if_pos e2] at h
        rw [if_pos (by omega)]
        omega
      · rw [if_neg e2] at h
        rw [if_neg (by omega)]
        omega
theorem pre_len (σ : Nat → Nat) : ∀ t, (pre σ t).length = t
  | 0 => rfl
  | t + 1 => by rw [pre, List.length_cons, pre_len σ t]
theorem pre_memV {σ : Nat → Nat} {r : Nat} : ∀ {t}, r ∈ pre σ t → ∃ i, i < t ∧ σ i = r
  | t + 1, h => by
    rw [pre] at h
    rcases List.mem_cons.1 h with h | h
    · exact ⟨t, Nat.lt_succ_self t, h.symm⟩
    · obtain ⟨i, hi, e⟩ := pre_memV h
      exact ⟨i, by omega, e⟩
theorem sum_le_range {f : Nat → Nat} {t n : Nat} (h : t ≤ n) : ((List.range t).map f).sum ≤ ((List.range n).map f).sum := by
  obtain ⟨k, rfl⟩ : ∃ k, n = t + k := ⟨n - t, by omega⟩
  rw [List.range_add, List.map_append, List.sum_append]
  omega
theorem le_range_sum {f : Nat → Nat} {j n : Nat} (h : j < n) : f j ≤ ((List.range n).map f).sum := by
  have h1 := sum_le_range (f := f) (t := j + 1) (n := n) h
  rw [List.range_succ, List.map_append, List.sum_append] at h1
  simp at h1
  omega
theorem Bar.size {n t R : Nat} {σ : Nat → Nat} {C : Nat → Nat → Int} {last : Int} (h : Bar A n σ t C last) (hR : ∀ r, r < n → ((List.range (n + 1)).map fun j => (A r j).natAbs).sum ≤ R) (hσ : ∀ i, i < n → σ i < n) (R1 : 1 ≤ R) :
    last.natAbs ≤ (2 * R) ^ n ∧ ∀ i j, i < n → j ≤ n → (C i j).natAbs ≤ (2 * R) ^ n := by
  have hp : ∀ k, k ≤ n → (2 * R) ^ k ≤ (2 * R) ^ n := fun k hk => Nat.pow_le_pow_right (by omega) hk
  have le := h.le
  have hT : ∀ r, r < n → rs (colsT A t) r ≤ R := fun r hr => by
    rw [rs_T]
    exact Nat.le_trans (sum_le_range (by omega)) (hR r hr)
  have hj : ∀ r j, r < n → j ≤ n → (A r j).natAbs ≤ R := fun r j hr hj => Nat.le_trans (le_range_sum (f := fun j => (A r j).natAbs) (Nat.lt_succ_of_le hj)) (hR r hr)
  have mem : ∀ r ∈ pre σ t, r < n := fun r hr => by
    obtain ⟨i, hi, rfl⟩ := pre_memV hr
    exact hσ i (by omega)
  refine ⟨?_, fun i j hi hjn => ?_⟩
  · rw [h.l]
    refine Nat.le_trans (det_le _ _) (Nat.le_trans (pr_le (B := 2 * R) fun r hr => ?_) (by rw [pre_len]; exact hp t le))
    have := hT r (mem r hr)
    omega
  · by_cases e : i < t
    · rw [h.up i j e]
      refine Nat.le_trans (det_le _ _) (Nat.le_trans (pr_le (B := 2 * R) fun r hr => ?_) (by rw [pre_len]; exact hp t le))
      have h1 := hT r (mem r hr)
      have h2 := hj r j (mem r hr) hjn
      have h3 := rs_R (A := A) i r (cA A j) t
      rw [if_pos e] at h3
      have : (cA A j r).natAbs = (A r j).natAbs := rfl
      omega
    · rw [h.lo i j (by omega) hi]
      refine Nat.le_trans (det_le _ _) (Nat.le_trans (pr_le (B := 2 * R) fun r hr => ?_) (by rw [List.length_cons, pre_len]; exact hp (t + 1) (by omega)))
      have hrn : r < n := by
        rcases List.mem_cons.1 hr with rfl | hr
        · exact hσ i hi
        · exact mem r hr
      have h1 := hT r hrn
      have h2 := hj r j hrn hjn
      show (A r j).natAbs + rs (colsT A t) r ≤ _
      omega
end
def prsV (m1 m2 : Nat) : List (Nat × Nat) := (List.range m1).flatMap fun x => (List.range m2).map fun y => (x, y)
theorem prsV_mem {m1 m2 : Nat} {p : Nat × Nat} : p ∈ prsV m1 m2 ↔ p.1 < m1 ∧ p.2 < m2 := by
  unfold prsV
  rw [List.mem_flatMap]
  constructor
  · rintro ⟨x, hx, h⟩
    obtain ⟨y, hy, rfl⟩ := List.mem_map.1 h
    exact ⟨List.mem_range.1 hx, List.mem_range.1 hy⟩
  · rintro ⟨h1, h2⟩
    exact ⟨p.1, List.mem_range.2 h1, List.mem_map.2 ⟨p.2, List.mem_range.2 h2, rfl⟩⟩
theorem prsV_succ (k m2 : Nat) : prsV (k + 1) m2 = prsV k m2 ++ (List.range m2).map fun y => (k, y) := by
  unfold prsV
  rw [List.range_succ, List.flatMap_append]
  simp
theorem prsV_len (k m2 : Nat) : (prsV k m2).length = k * m2 := by
  induction k with
  | zero => simp [prsV]
  | succ k ih =>
    rw [prsV_succ, List.length_append, ih, List.length_map, List.length_range, Nat.succ_mul]
def aks (m1 m2 : Nat) (s1 s2 : List Stp) : List (Nat × Nat × Str) := (prsV m1 m2).flatMap fun p => if menuS s1 p.1 = menuS s2 p.2 then (menuS s1 p.1).map fun a => (p.1, p.2, a) else []
theorem aks_mem {m1 m2 : Nat} {s1 s2 : List Stp} {z : Nat × Nat × Str} : z ∈ aks m1 m2 s1 s2 ↔ z.1 < m1 ∧ z.2.1 < m2 ∧ menuS s1 z.1 = menuS s2 z.2.1 ∧ z.2.2 ∈ menuS s1 z.1 := by
  unfold aks
  rw [List.mem_flatMap]
  constructor
  · rintro ⟨p, hp, h⟩
    obtain ⟨h1, h2⟩ := prsV_mem.1 hp
    by_cases e : menuS s1 p.1 = menuS s2 p.2
    · rw [if_pos e] at h
      obtain ⟨a, ha, rfl⟩ := List.mem_map.1 h
      exact ⟨h1, h2, e, ha⟩
    · rw [if_neg e] at h
      cases h
  · rintro ⟨h1, h2, e, ha⟩
    refine ⟨(z.1, z.2.1), prsV_mem.2 ⟨h1, h2⟩, ?_⟩
    rw [if_pos e]
    exact List.mem_map.2 ⟨z.2.2, ha, rfl⟩
section
variable {m1 m2 : Nat} {S : List (Nat × Nat)} {f : Rat} {v0 : Nat → Nat → Rat} {P : Nat → Nat → Nat → Rat}
def gS (S : List (Nat × Nat)) (j : Nat) : Nat × Nat := S.getD j (0, 0)
def off (S : List (Nat × Nat)) (v0 : Nat → Nat → Rat) (u w : Nat) : Rat := if (u, w) ∈ S then 0 else v0 u w
def ab (q : Rat) : Rat := if q < 0 then -q else q
end
def k3 (z : Nat × Nat × Str) : List Key := [.inl (z.1 : Int), .inl (z.2.1 : Int), .inr z.2.2]
def CsOk (m1 m2 : Nat) (s1 s2 : List Stp) (cs : List (Nat × Nat)) : Prop := cs.Nodup ∧ ∀ q, q ∈ cs ↔ q.1 < m1 ∧ q.2 < m2 ∧ menuS s1 q.1 = menuS s2 q.2 ∧ menuS s1 q.1 ≠ []
section
variable {m1 m2 N g : Nat} {s1 s2 : List Stp} {f : Rat} {π : Pls} {ch : Nat → Nat → Str} {S cs : List (Nat × Nat)}
def dn (k l : Nat) (q : Nat × Nat) : Prop := q.1 < k ∨ (q.1 = k ∧ q.2 < l)
instance (k l : Nat) (q : Nat × Nat) : Decidable (dn k l q) := by unfold dn; infer_instance
end
theorem nd_lenV : ∀ {l l' : List (Nat × Nat)}, l.Nodup → (∀ q ∈ l, q ∈ l') → l.length ≤ l'.length
  | [], _, _, _ => Nat.zero_le _
  | q :: l, l', nd, h => by
    obtain ⟨hn, nd⟩ := List.nodup_cons.1 nd
    have hq := h q (by simp)
    have := nd_lenV (l' := l'.erase q) nd fun r hr => (List.mem_erase_of_ne (fun e => hn (by rw [← e]; exact hr))).2 (h r (List.mem_cons_of_mem _ hr))
    rw [List.length_erase_of_mem hq] at this
    have := List.length_pos_of_mem hq
    rw [List.length_cons]
    omega
end Far
namespace Pw
open PySem PySem.Spec PyProof.Rows L2
end Pw
namespace Far
open PySem PySem.Spec PyProof.Rows L2 Pw Cg
open FM (Bq)
section
variable {m1 m2 N g : Nat} {s1 s2 : List Stp} {f : Rat} {π : Pls} {ch : Nat → Nat → Str} {cs : List (Nat × Nat)} {v : Nat → Nat → Rat}
def ranks (M B : Nat) : List Rat := (List.range (B + 1)).flatMap fun d => (List.range (M * d + 1)).map fun p : Nat => Rat.divInt (p : Int) (d : Int)
def above (M B : Nat) (q : Rat) : Nat := ((ranks M B).filter fun r => decide (q < r)).length
end
structure ChS (Z : List (Nat × Nat × Str)) (cs : List (Nat × Nat)) (ch : Nat → Nat → Str) : Prop where
  nd : cs.Nodup
  mem : ∀ q, q ∈ cs ↔ ∃ z ∈ Z, (z.1, z.2.1) = q
  sg : ∀ q ∈ cs, ∃ z ∈ Z, (z.1, z.2.1) = q ∧ z.2.2 = ch q.1 q.2
theorem ChS.nil {ch : Nat → Nat → Str} : ChS [] [] ch := ⟨List.nodup_nil, fun q => ⟨fun h => (by cases h), fun ⟨z, h, _⟩ => (by cases h)⟩, fun q h => (by cases h)⟩
theorem ChS.old {Z : List (Nat × Nat × Str)} {cs : List (Nat × Nat)} {ch : Nat → Nat → Str} {z : Nat × Nat × Str} (h : ChS Z cs ch) (hz : (z.1, z.2.1) ∈ cs) : ChS (Z ++ [z]) cs ch := by
  refine ⟨h.nd, fun q => ?_, fun q hq => ?_⟩
  · rw [h.mem]
    constructor
    · rintro ⟨y, hy, e⟩
      exact ⟨y, by simp [hy], e⟩
    · rintro ⟨y, hy, e⟩
      rcases List.mem_append.1 hy with hy | hy
      · exact ⟨y, hy, e⟩
      · obtain rfl := List.mem_singleton.1 hy
        rw [← e]
        exact (h.mem _).1 hz
  · obtain ⟨y, hy, e⟩ := h.sg q hq
    exact ⟨y, by simp [hy], e⟩
theorem ChS.new {Z : List (Nat × Nat × Str)} {cs : List (Nat × Nat)} {ch : Nat → Nat → Str} {z : Nat × Nat × Str} (h : ChS Z cs ch) (hz : (z.1, z.2.1) ∉ cs) : ChS (Z ++ [z]) (cs ++ [(z.1, z.2.1)]) (fun u w => if (u, w) = (z.1, z.2.1) then z.2.2 else ch u w) := by
  refine ⟨?_, fun q => ?_, fun q hq => ?_⟩
  · rw [List.nodup_append]
    exact ⟨h.nd, by simp, fun a ha b hb e => hz (by rw [List.mem_singleton.1 hb] at e; rw [← e]; exact ha)⟩
  · rw [List.mem_append, h.mem]
    constructor
    · rintro (⟨y, hy, e⟩ | hq)
      · exact ⟨y, by simp [hy], e⟩
      · exact ⟨z, by simp, (List.mem_singleton.1 hq).symm⟩
    · rintro ⟨y, hy, e⟩
      rcases List.mem_append.1 hy with hy | hy
      · exact .inl ⟨y, hy, e⟩
      · obtain rfl := List.mem_singleton.1 hy
        exact .inr (by rw [← e]; simp)
  · rcases List.mem_append.1 hq with hq | hq
    · obtain ⟨y, hy, e, e2⟩ := h.sg q hq
      refine ⟨y, by simp [hy], e, ?_⟩
      have : ¬ (q.1, q.2) = (z.1, z.2.1) := fun e => hz (by rw [← e]; exact hq)
      rw [if_neg this]
      exact e2
    · have e := List.mem_singleton.1 hq
      refine ⟨z, by simp, e.symm, ?_⟩
      rw [if_pos (show (q.1, q.2) = (z.1, z.2.1) from e)]
theorem ChS.le {m1 m2 : Nat} {s1 s2 : List Stp} {Z : List (Nat × Nat × Str)} {cs : List (Nat × Nat)} {ch : Nat → Nat → Str} (h : ChS Z cs ch) (hZ : ∀ z ∈ Z, z ∈ aks m1 m2 s1 s2) : cs.length ≤ m1 * m2 := by
  rw [← prsV_len]
  refine nd_lenV h.nd fun q hq => ?_
  obtain ⟨z, hz, rfl⟩ := (h.mem q).1 hq
  have := aks_mem.1 (hZ z hz)
  exact prsV_mem.2 ⟨this.1, this.2.1⟩
theorem ChS.ok {m1 m2 : Nat} {s1 s2 : List Stp} {cs : List (Nat × Nat)} {ch : Nat → Nat → Str} (h : ChS (aks m1 m2 s1 s2) cs ch) : CsOk m1 m2 s1 s2 cs ∧ ∀ q ∈ cs, ch q.1 q.2 ∈ menuS s1 q.1 := by
  refine ⟨⟨h.nd, fun q => ?_⟩, fun q hq => ?_⟩
  · rw [h.mem]
    constructor
    · rintro ⟨z, hz, rfl⟩
      obtain ⟨a, b, c, d⟩ := aks_mem.1 hz
      exact ⟨a, b, c, List.ne_nil_of_mem d⟩
    · rintro ⟨a, b, c, d⟩
      obtain ⟨x, hx⟩ := List.exists_mem_of_ne_nil _ d
      exact ⟨(q.1, q.2, x), aks_mem.2 ⟨a, b, c, hx⟩, rfl⟩
  · obtain ⟨z, hz, rfl, e⟩ := h.sg q hq
    dsimp only at e ⊢
    rw [← e]
    exact (aks_mem.1 hz).2.2.2
structure Bet (f : Rat) (m1 m2 : Nat) (π : Pls) (v : Nat → Nat → Rat) (Z : List (Nat × Nat × Str)) (Bs : List (Nat × Nat)) (nm : Nat → Nat → Rat) (sg : Nat → Nat → Str) : Prop where
  nd : Bs.Nodup
  ok : ∀ q ∈ Bs, ∃ z ∈ Z, (z.1, z.2.1) = q ∧ z.2.2 = sg q.1 q.2 ∧ nm q.1 q.2 = f * cost m1 m2 v (π z.1 z.2.1 z.2.2) ∧ v q.1 q.2 < nm q.1 q.2
  all : ∀ z ∈ Z, f * cost m1 m2 v (π z.1 z.2.1 z.2.2) ≤ if (z.1, z.2.1) ∈ Bs then nm z.1 z.2.1 else v z.1 z.2.1
def updF {α : Type} (F : Nat → Nat → α) (q : Nat × Nat) (x : α) (u w : Nat) : α := if (u, w) = q then x else F u w
theorem updF_same {α : Type} (F : Nat → Nat → α) (q : Nat × Nat) (x : α) : updF F q x q.1 q.2 = x := if_pos rfl
theorem updF_ne {α : Type} {F : Nat → Nat → α} {q r : Nat × Nat} {x : α} (h : r ≠ q) : updF F q x r.1 r.2 = F r.1 r.2 := if_neg h
section
variable {f : Rat} {m1 m2 : Nat} {π : Pls} {v : Nat → Nat → Rat} {Z : List (Nat × Nat × Str)} {Bs : List (Nat × Nat)} {nm : Nat → Nat → Rat} {sg : Nat → Nat → Str} {z : Nat × Nat × Str}
theorem Bet.nil : Bet f m1 m2 π v [] [] nm sg := ⟨List.nodup_nil, fun q h => (by cases h), fun z h => (by cases h)⟩
theorem Bet.keep (h : Bet f m1 m2 π v Z Bs nm sg) (hz : f * cost m1 m2 v (π z.1 z.2.1 z.2.2) ≤ if (z.1, z.2.1) ∈ Bs then nm z.1 z.2.1 else v z.1 z.2.1) : Bet f m1 m2 π v (Z ++ [z]) Bs nm sg := by
  refine ⟨h.nd, fun q hq => ?_, fun y hy => ?_⟩
  · obtain ⟨y, hy, e⟩ := h.ok q hq
    exact ⟨y, by simp [hy], e⟩
  · rcases List.mem_append.1 hy with hy | hy
    · exact h.all y hy
    · obtain rfl := List.mem_singleton.1 hy
      exact hz
theorem Bet.put (h : Bet f m1 m2 π v Z Bs nm sg) (hz : (if (z.1, z.2.1) ∈ Bs then nm z.1 z.2.1 else v z.1 z.2.1) < f * cost m1 m2 v (π z.1 z.2.1 z.2.2)) :
    Bet f m1 m2 π v (Z ++ [z]) (if (z.1, z.2.1) ∈ Bs then Bs else Bs ++ [(z.1, z.2.1)]) (updF nm (z.1, z.2.1) (f * cost m1 m2 v (π z.1 z.2.1 z.2.2))) (updF sg (z.1, z.2.1) z.2.2) := by
  have hv : v z.1 z.2.1 < f * cost m1 m2 v (π z.1 z.2.1 z.2.2) := by
    by_cases hm : (z.1, z.2.1) ∈ Bs
    · rw [if_pos hm] at hz
      obtain ⟨y, _, _, _, _, e⟩ := h.ok _ hm
      dsimp only at e
      grind
    · rwa [if_neg hm] at hz
  have mem : ∀ q, q ∈ (if (z.1, z.2.1) ∈ Bs then Bs else Bs ++ [(z.1, z.2.1)]) ↔ q ∈ Bs ∨ q = (z.1, z.2.1) := fun q => by
    by_cases hm : (z.1, z.2.1) ∈ Bs
    · rw [if_pos hm]
      exact ⟨.inl, fun e => e.elim id fun e => by rw [e]; exact hm⟩
    · rw [if_neg hm, List.mem_append, List.mem_singleton]
  refine ⟨?_, fun q hq => ?_, fun y hy => ?_⟩
  · by_cases hm : (z.1, z.2.1) ∈ Bs
    · rw [if_pos hm]; exact h.nd
    · rw [if_neg hm, List.nodup_append]
      exact ⟨h.nd, by simp, fun a ha b hb e => hm (by rw [List.mem_singleton.1 hb] at e; rw [← e]; exact ha)⟩
  · by_cases e : q = (z.1, z.2.1)
    · subst e
      refine ⟨z, by simp, rfl, ?_, ?_, ?_⟩
      · exact (updF_same sg (z.1, z.2.1) z.2.2).symm
      · exact updF_same nm (z.1, z.2.1) _
      · rw [updF_same nm (z.1, z.2.1)]
        exact hv
    · rcases (mem q).1 hq with hq | hq
      · obtain ⟨y, hy, e1, e2, e3, e4⟩ := h.ok q hq
        rw [updF_ne (F := nm) e, updF_ne (F := sg) e]
        exact ⟨y, by simp [hy], e1, e2, e3, e4⟩
      · exact absurd hq e
  · by_cases e : (y.1, y.2.1) = (z.1, z.2.1)
    · rw [if_pos ((mem _).2 (.inr e))]
      have e3 : updF nm (z.1, z.2.1) (f * cost m1 m2 v (π z.1 z.2.1 z.2.2)) y.1 y.2.1 = f * cost m1 m2 v (π z.1 z.2.1 z.2.2) := if_pos e
      rw [e3]
      rcases List.mem_append.1 hy with hy | hy
      · have h1 := h.all y hy
        rw [e] at h1
        have e1 : y.1 = z.1 := (Prod.mk.inj e).1
        have e2 : y.2.1 = z.2.1 := (Prod.mk.inj e).2
        rw [e1, e2] at h1 ⊢
        grind
      · obtain rfl := List.mem_singleton.1 hy
        exact Rat.le_refl
    · rcases List.mem_append.1 hy with hy | hy
      · have h1 := h.all y hy
        have e3 : updF nm (z.1, z.2.1) (f * cost m1 m2 v (π z.1 z.2.1 z.2.2)) y.1 y.2.1 = nm y.1 y.2.1 := if_neg e
        rw [e3]
        by_cases hm : (y.1, y.2.1) ∈ Bs
        · rw [if_pos hm] at h1
          rw [if_pos ((mem _).2 (.inl hm))]
          exact h1
        · rw [if_neg hm] at h1
          rw [if_neg fun z => ((mem _).1 z).elim hm e]
          exact h1
      · obtain rfl := List.mem_singleton.1 hy
        exact absurd rfl e
end
end Far
namespace Pw
open PySem PySem.Spec PyProof.Rows L2
end Pw
namespace Far
open PySem PySem.Spec PyProof.Rows L2 Pw Cg
open FM (Bq)
section
variable {m1 m2 N g : Nat} {s1 s2 : List Stp} {f : Rat} {π π' : Pls} {v v' : Nat → Nat → Rat} {Z : List (Nat × Nat × Str)}
def below (M B : Nat) (q : Rat) : Nat := ((ranks M B).filter fun r => decide (r < q)).length
end
end Far
namespace Pw
open PySem PySem.Spec PyProof.Rows L2
open Evl (Ex ex_l ex_t fresh_back)
end Pw
namespace Far
open PySem PySem.Spec PyProof.Rows L2 Pw Cg
open FM (Bq)
def Clo (m1 m2 : Nat) (t : Nat → Nat → Rat) (w1 w2 : List Rat) : Prop := ∀ x y, x < m1 → y < m2 → w1.getD x 0 - w2.getD y 0 ≤ t x y ∧ w2.getD y 0 - w1.getD x 0 ≤ t x y
theorem getD_mapQ {l : List Rat} {g : Rat → Rat} {x : Nat} (h : x < l.length) : (l.map g).getD x 0 = g (l.getD x 0) := by
  rw [List.getD_eq_getElem?_getD, List.getElem?_map, List.getElem?_eq_getElem h, List.getD_eq_getElem?_getD, List.getElem?_eq_getElem h]
  rfl
theorem getD_zipQ {l k : List Rat} {g : Rat → Rat → Rat} {x : Nat} (h : x < l.length) (h' : x < k.length) : (List.zipWith g l k).getD x 0 = g (l.getD x 0) (k.getD x 0) := by
  rw [List.getD_eq_getElem?_getD, List.getElem?_zipWith, List.getElem?_eq_getElem h, List.getElem?_eq_getElem h', List.getD_eq_getElem?_getD, List.getD_eq_getElem?_getD, List.getElem?_eq_getElem h, List.getElem?_eq_getElem h']
  rfl
theorem led_hp {m : Nat} {ss : List Stp} (hg : Good m ss) {r : Nat} {a : Str} (h : a ∈ menuS ss r) (qs : List Rat) : ledQ (gonW ss r a) qs = sm m fun k => qs.getD k 0 * hpF ss r a k := by
  obtain ⟨_, l, _, _⟩ := heap_gon hg h
  unfold ledQ
  rw [l]
  exact sm_congr fun k _ => Rat.mul_comm _ _
section
variable {f : Rat} {m1 m2 : Nat} {s1 s2 : List Stp}
theorem clo_on (g1 : Good m1 s1) (g2 : Good m2 s2) (hf : U01 f) {a : Str} {q1 q2 : List Rat} (u1' : ∀ q ∈ q1, U01 q) (u2' : ∀ q ∈ q2, U01 q) {t t' : Nat → Nat → Rat} (hc : Clo m1 m2 t' q1 q2) (ht : ∀ x y, x < m1 → y < m2 → Stp1 f m1 m2 s1 s2 t' x y (t x y)) (h0 : ∀ x y, x < m1 → y < m2 → 0 ≤ t x y) (x y : Nat) (hx : x < m1) (hy : y < m2) : onQ f s1 a q1 x - onQ f s2 a q2 y ≤ t x y ∧ onQ f s2 a q2 y - onQ f s1 a q1 x ≤ t x y := by
  have uo : ∀ {m : Nat} {ss : List Stp} (_ : Good m ss) (r : Nat) {qs : List Rat}, (∀ q ∈ qs, U01 q) → U01 (onQ f ss a qs r) := fun {m ss} hg r {qs} hq => by
    unfold onQ
    cases e : lookS ss r a with
    | none => exact u0
    | some ws =>
      obtain ⟨s, hs, _, _, rfl⟩ := look_mem e
      exact u_mul hf (led_u (hg.ok s hs).ps hq)
  have o1 := uo g1 x u1'
  have o2 := uo g2 y u2'
  rcases ht x y hx hy with ⟨_, e⟩ | ⟨em, gg, hg, e⟩
  · rw [e]
    have := o1.1; have := o1.2; have := o2.1; have := o2.2
    exact ⟨by grind, by grind⟩
  · by_cases ha : a ∈ menuS s1 x
    · have hb : a ∈ menuS s2 y := em ▸ ha
      have e1 : onQ f s1 a q1 x = f * sm m1 fun k => q1.getD k 0 * hpF s1 x a k := by unfold onQ; rw [look_gon ha]; exact congrArg (f * ·) (led_hp g1 ha q1)
      have e2 : onQ f s2 a q2 y = f * sm m2 fun k => q2.getD k 0 * hpF s2 y a k := by unfold onQ; rw [look_gon hb]; exact congrArg (f * ·) (led_hp g2 hb q2)
      obtain ⟨π, p, q, o, ev⟩ := hg a ha
      have h1 := o.most (p' := fun k => q1.getD k 0) (q' := fun k => q2.getD k 0) fun u v hu hv => (hc u v hu hv).1
      have h2 := o.most (p' := fun k => -(q1.getD k 0)) (q' := fun k => -(q2.getD k 0)) fun u v hu hv => by
        have := (hc u v hu hv).2
        grind
      have hle : f * gg a ≤ t x y := by
        rw [e]
        exact grt_le (List.mem_map.2 ⟨a, ha, rfl⟩)
      unfold brou at h1 h2
      have n1 : (sm m1 fun k => -(q1.getD k 0) * hpF s1 x a k) = -(sm m1 fun k => q1.getD k 0 * hpF s1 x a k) := by
        have := sm_mul m1 (-1) (fun k => q1.getD k 0 * hpF s1 x a k)
        rw [show (sm m1 fun k => -(q1.getD k 0) * hpF s1 x a k) = sm m1 fun k => -1 * (q1.getD k 0 * hpF s1 x a k) from sm_congr fun k _ => by grind, this]
        grind
      have n2 : (sm m2 fun k => -(q2.getD k 0) * hpF s2 y a k) = -(sm m2 fun k => q2.getD k 0 * hpF s2 y a k) := by
        have := sm_mul m2 (-1) (fun k => q2.getD k 0 * hpF s2 y a k)
        rw [show (sm m2 fun k => -(q2.getD k 0) * hpF s2 y a k) = sm m2 fun k => -1 * (q2.getD k 0 * hpF s2 y a k) from sm_congr fun k _ => by grind, this]
        grind
      rw [n1, n2] at h2
      rw [← ev] at h1 h2
      rw [e1, e2]
      generalize (sm m1 fun k => q1.getD k 0 * hpF s1 x a k) = A at *
      generalize (sm m2 fun k => q2.getD k 0 * hpF s2 y a k) = B at *
      have k1 := Rat.mul_le_mul_of_nonneg_left h1 hf.1
      have k2 := Rat.mul_le_mul_of_nonneg_left h2 hf.1
      exact ⟨by grind, by grind⟩
    · have hb : a ∉ menuS s2 y := em ▸ ha
      have e1 : onQ f s1 a q1 x = 0 := by unfold onQ; rw [look_no ha]
      have e2 : onQ f s2 a q2 y = 0 := by unfold onQ; rw [look_no hb]
      rw [e1, e2]
      have := h0 x y hx hy
      exact ⟨by grind, by grind⟩
theorem can_iff (ss : List Stp) (a : Str) (r : Nat) : canQ ss a r = if a ∈ menuS ss r then 1 else 0 := by
  unfold canQ
  by_cases h : a ∈ menuS ss r
  · rw [look_gon h, if_pos h]
    rfl
  · rw [look_no h, if_neg h]
    rfl
theorem lf_app {α : Type} (l : List α) (a d : α) (k : Nat) : (l ++ [a]).getD k d = if k < l.length then l.getD k d else if k = l.length then a else d := by
  rw [List.getD_eq_getElem?_getD, List.getD_eq_getElem?_getD]
  by_cases h : k < l.length
  · rw [List.getElem?_append_left h, if_pos h]
  · rw [if_neg h, List.getElem?_append_right (by omega)]
    by_cases e : k = l.length
    · rw [if_pos e, e, Nat.sub_self]
      rfl
    · rw [if_neg e, List.getElem?_eq_none (by simp; omega)]
      rfl
theorem within (g1 : Good m1 s1) (g2 : Good m2 s2) (hf : U01 f) : ∀ n (rs : List Row), rs.length = n → RowsOk rs → (∀ qs ∈ wL f m1 s1 rs, qs.length = m1 ∧ ∀ q ∈ qs, U01 q) → (∀ qs ∈ wL f m2 s2 rs, qs.length = m2 ∧ ∀ q ∈ qs, U01 q) → ∀ k, k < n → ∀ t, Dep f m1 m2 s1 s2 ((deps rs).getD k 0) t → Clo m1 m2 t ((wL f m1 s1 rs).getD k []) ((wL f m2 s2 rs).getD k []) := by
  intro n
  induction n with
  | zero => intro _ _ _ _ _ k hk; exact absurd hk (Nat.not_lt_zero k)
  | succ n ih =>
    intro rs hl hok h1 h2 k hk t ht
    obtain ⟨rs', r, rfl⟩ : ∃ rs' r, rs = rs' ++ [r] := by
      rcases List.eq_nil_or_concat rs with e | ⟨a, b, e⟩
      · rw [e] at hl; cases hl
      · exact ⟨a, b, e.trans (List.concat_eq_append ..)⟩
    have hl' : rs'.length = n := by simpa using hl
    have hr : r.ok n := by
      have := hok rs'.length r (by simp)
      rw [hl'] at this
      exact this
    have hok' : RowsOk rs' := fun i q e => hok i q (by rw [List.getElem?_append_left (List.getElem?_eq_some_iff.1 e).1]; exact e)
    rw [wL_snoc] at h1 h2 ⊢
    rw [wL_snoc, lf_app, lf_app, wL_len, wL_len, hl']
    rw [deps_snoc, lf_app, deps_len, hl'] at ht
    have h1' : ∀ qs ∈ wL f m1 s1 rs', qs.length = m1 ∧ ∀ q ∈ qs, U01 q := fun qs hq => h1 qs (List.mem_append_left _ hq)
    have h2' : ∀ qs ∈ wL f m2 s2 rs', qs.length = m2 ∧ ∀ q ∈ qs, U01 q := fun qs hq => h2 qs (List.mem_append_left _ hq)
    have ih := ih rs' hl' hok' h1' h2'
    by_cases hkn : k < n
    · rw [if_pos hkn, if_pos hkn]
      rw [if_pos hkn] at ht
      exact ih k hkn t ht
    · have ek : k = n := by omega
      rw [if_neg hkn, if_pos ek, if_neg hkn, if_pos ek]
      rw [if_neg hkn, if_pos ek] at ht
      have bd := ht.bd g1 hf
      have at1 : ∀ i, i < n → ((wL f m1 s1 rs').getD i []).length = m1 ∧ ∀ q ∈ (wL f m1 s1 rs').getD i [], U01 q := fun i hi => by
        have hi' : i < (wL f m1 s1 rs').length := by rw [wL_len, hl']; exact hi
        rw [List.getD_eq_getElem?_getD, List.getElem?_eq_getElem hi']
        exact h1' _ (List.getElem_mem hi')
      have at2 : ∀ i, i < n → ((wL f m2 s2 rs').getD i []).length = m2 ∧ ∀ q ∈ (wL f m2 s2 rs').getD i [], U01 q := fun i hi => by
        have hi' : i < (wL f m2 s2 rs').length := by rw [wL_len, hl']; exact hi
        rw [List.getD_eq_getElem?_getD, List.getElem?_eq_getElem hi']
        exact h2' _ (List.getElem_mem hi')
      intro x y hx hy
      have txy := bd x y hx hy
      cases r with
      | one =>
        have e1 : (rowW f m1 s1 (wL f m1 s1 rs') .one).getD x 0 = 1 := by
          show ((List.range m1).map fun _ => (1 : Rat)).getD x 0 = 1
          rw [getD_range, if_pos hx]
        have e2 : (rowW f m2 s2 (wL f m2 s2 rs') .one).getD y 0 = 1 := by
          show ((List.range m2).map fun _ => (1 : Rat)).getD y 0 = 1
          rw [getD_range, if_pos hy]
        rw [e1, e2]
        have := txy.1
        exact ⟨by grind, by grind⟩
      | can a =>
        show ((List.range m1).map (canQ s1 a)).getD x 0 - ((List.range m2).map (canQ s2 a)).getD y 0 ≤ _ ∧ ((List.range m2).map (canQ s2 a)).getD y 0 - ((List.range m1).map (canQ s1 a)).getD x 0 ≤ _
        rw [getD_range, getD_range, if_pos hx, if_pos hy, can_iff, can_iff]
        obtain ⟨t', _, hs⟩ := ht
        rcases hs x y hx hy with ⟨_, e⟩ | ⟨em, _⟩
        · rw [e]
          refine ⟨?_, ?_⟩ <;> split <;> split <;> grind
        · rw [em]
          have := txy.1
          exact ⟨by grind, by grind⟩
      | on a i =>
        obtain ⟨_, hi⟩ := hr
        obtain ⟨t', h', hs⟩ := ht
        show ((List.range m1).map (onQ f s1 a ((wL f m1 s1 rs').getD i []))).getD x 0 - ((List.range m2).map (onQ f s2 a ((wL f m2 s2 rs').getD i []))).getD y 0 ≤ _ ∧ ((List.range m2).map (onQ f s2 a ((wL f m2 s2 rs').getD i []))).getD y 0 - ((List.range m1).map (onQ f s1 a ((wL f m1 s1 rs').getD i []))).getD x 0 ≤ _
        rw [getD_range, getD_range, if_pos hx, if_pos hy]
        exact clo_on g1 g2 hf (at1 i hi).2 (at2 i hi).2 (ih i hi t' h') hs (fun x y hx hy => (bd x y hx hy).1) x y hx hy
      | neg i =>
        have hi : i < n := hr
        have hc := ih i hi t ht x y hx hy
        show (((wL f m1 s1 rs').getD i []).map fun p => 1 - p).getD x 0 - (((wL f m2 s2 rs').getD i []).map fun p => 1 - p).getD y 0 ≤ _ ∧ (((wL f m2 s2 rs').getD i []).map fun p => 1 - p).getD y 0 - (((wL f m1 s1 rs').getD i []).map fun p => 1 - p).getD x 0 ≤ _
        rw [getD_mapQ (by rw [(at1 i hi).1]; exact hx), getD_mapQ (by rw [(at2 i hi).1]; exact hy)]
        obtain ⟨c1, c2⟩ := hc
        exact ⟨by grind, by grind⟩
      | lss i q =>
        obtain ⟨hi, _⟩ := hr
        have hc := ih i hi t ht x y hx hy
        show (((wL f m1 s1 rs').getD i []).map fun p => mostQ 0 (p - q)).getD x 0 - (((wL f m2 s2 rs').getD i []).map fun p => mostQ 0 (p - q)).getD y 0 ≤ _ ∧ (((wL f m2 s2 rs').getD i []).map fun p => mostQ 0 (p - q)).getD y 0 - (((wL f m1 s1 rs').getD i []).map fun p => mostQ 0 (p - q)).getD x 0 ≤ _
        rw [getD_mapQ (by rw [(at1 i hi).1]; exact hx), getD_mapQ (by rw [(at2 i hi).1]; exact hy)]
        obtain ⟨c1, c2⟩ := hc
        have := txy.1
        unfold mostQ
        refine ⟨?_, ?_⟩ <;> split <;> split <;> grind
      | both i j =>
        obtain ⟨hi, hj⟩ := hr
        obtain ⟨ti, di, li⟩ := ht.down g1 hf (Nat.le_max_left _ _)
        obtain ⟨tj, dj, lj⟩ := ht.down g1 hf (Nat.le_max_right _ _)
        have c1 := ih i hi ti di x y hx hy
        have c2 := ih j hj tj dj x y hx hy
        have l1 := li x y hx hy
        have l2 := lj x y hx hy
        show (List.zipWith leastQ ((wL f m1 s1 rs').getD i []) ((wL f m1 s1 rs').getD j [])).getD x 0 - (List.zipWith leastQ ((wL f m2 s2 rs').getD i []) ((wL f m2 s2 rs').getD j [])).getD y 0 ≤ _ ∧ (List.zipWith leastQ ((wL f m2 s2 rs').getD i []) ((wL f m2 s2 rs').getD j [])).getD y 0 - (List.zipWith leastQ ((wL f m1 s1 rs').getD i []) ((wL f m1 s1 rs').getD j [])).getD x 0 ≤ _
        rw [getD_zipQ (by rw [(at1 i hi).1]; exact hx) (by rw [(at1 j hj).1]; exact hx), getD_zipQ (by rw [(at2 i hi).1]; exact hy) (by rw [(at2 j hj).1]; exact hy)]
        obtain ⟨c11, c12⟩ := c1
        obtain ⟨c21, c22⟩ := c2
        unfold leastQ
        refine ⟨?_, ?_⟩ <;> split <;> split <;> grind
      | eith i j =>
        obtain ⟨hi, hj⟩ := hr
        obtain ⟨ti, di, li⟩ := ht.down g1 hf (Nat.le_max_left _ _)
        obtain ⟨tj, dj, lj⟩ := ht.down g1 hf (Nat.le_max_right _ _)
        have c1 := ih i hi ti di x y hx hy
        have c2 := ih j hj tj dj x y hx hy
        have l1 := li x y hx hy
        have l2 := lj x y hx hy
        show (List.zipWith mostQ ((wL f m1 s1 rs').getD i []) ((wL f m1 s1 rs').getD j [])).getD x 0 - (List.zipWith mostQ ((wL f m2 s2 rs').getD i []) ((wL f m2 s2 rs').getD j [])).getD y 0 ≤ _ ∧ (List.zipWith mostQ ((wL f m2 s2 rs').getD i []) ((wL f m2 s2 rs').getD j [])).getD y 0 - (List.zipWith mostQ ((wL f m1 s1 rs').getD i []) ((wL f m1 s1 rs').getD j [])).getD x 0 ≤ _
        rw [getD_zipQ (by rw [(at1 i hi).1]; exact hx) (by rw [(at1 j hj).1]; exact hx), getD_zipQ (by rw [(at2 i hi).1]; exact hy) (by rw [(at2 j hj).1]; exact hy)]
        obtain ⟨c11, c12⟩ := c1
        obtain ⟨c21, c22⟩ := c2
        unfold mostQ
        refine ⟨?_, ?_⟩ <;> split <;> split <;> grind
end
open PySem PySem.Spec PyProof.Rows L2 Pw
end Far
namespace Pw
open PySem PySem.Spec PyProof.Rows L2
open Evl (Ex ex_l ex_t fresh_back)
end Pw
namespace Far
open PySem PySem.Spec PyProof.Rows L2 Pw
open FM (Bq)
open PySem PySem.Spec PyProof.Rows L2 Pw Cg
theorem Nest.get {μ : Mu} {p : Addr} {qs : List Addr} {rows : List (List D)} (h : Nest μ p qs rows) {i : Nat} {q : Addr} (hq : qs[i]? = some q) : ∃ r, rows[i]? = some r ∧ μ q = some (.lst r) := by
  have hi : i < rows.length := by rw [← h.ln]; exact (List.getElem?_eq_some_iff.1 hq).1
  exact ⟨rows[i], List.getElem?_eq_getElem hi, h.row i q _ hq (List.getElem?_eq_getElem hi)⟩
theorem Nest.imp {μ μ' : Mu} {p : Addr} {qs : List Addr} {rows : List (List D)} (h : Nest μ p qs rows) (k : ∀ a m, μ a = some m → μ' a = some m) : Nest μ' p qs rows :=
  ⟨k _ _ h.top, h.ln, fun i q r x y => k _ _ (h.row i q r x y), h.ne⟩
end Far
namespace Pw
open PySem PySem.Spec PyProof.Rows L2
end Pw
namespace Far
open PySem PySem.Spec PyProof.Rows L2 Pw Cg
open FM (Bq)
theorem sm_zeroS (n : Nat) : sm n (fun _ => (0 : Rat)) = 0 := by
  induction n with
  | zero => rfl
  | succ n ih => rw [sm_succ, ih, Rat.zero_add]
theorem sm_fib {n0 m1 : Nat} {h : Nat → Nat} {G : Nat → Nat → Rat} (hG : ∀ u, u < n0 → ¬ h u < m1 → G (h u) u = 0) : sm m1 (fun x => sm n0 fun u => if h u = x then G x u else 0) = sm n0 fun u => G (h u) u := by
  rw [sm_swap]
  refine sm_congr fun u hu => ?_
  by_cases c : h u < m1
  · rw [sm_congr (g := fun x => if h u = x then G (h u) u else 0) fun x hx => by
      by_cases e : h u = x
      · rw [if_pos e, if_pos e, e]
      · rw [if_neg e, if_neg e]]
    exact sm_oneW _ c
  · rw [hG u hu c, sm_congr (g := fun _ => (0 : Rat)) fun x hx => if_neg (by omega), sm_zeroS]
section
variable {n0 m1 m2 : Nat} {h : Nat → Nat} {F' F S p' q' p q : Nat → Rat} {c' c π' π : Nat → Nat → Rat}
theorem cost_push (hF0 : ∀ u, 0 ≤ F' u) (hF : ∀ x, x < m1 → sm n0 (fun u => if h u = x then F' u else 0) = F x) (hh : ∀ u, u < n0 → F' u ≠ 0 → h u < m1) (hc : ∀ u, u < n0 → F' u ≠ 0 → ∀ w, w < m2 → c' u w = c (h u) w)
    (o' : Opt n0 m2 c' F' S π' p' q') (o : Opt m1 m2 c F S π p q) : cost n0 m2 c' π' = cost m1 m2 c π := by
  have Fge : ∀ u, u < n0 → F' u ≠ 0 → F' u ≤ F (h u) := fun u hu hn => by
    have := sm_ge (g := fun z => if h z = h u then F' z else 0) (n := n0) (fun z _ => by split; exact hF0 z; exact Rat.le_refl) u hu
    rw [hF _ (hh u hu hn)] at this
    rwa [if_pos rfl] at this
  have Fne : ∀ u, u < n0 → F' u ≠ 0 → F (h u) ≠ 0 := fun u hu hn e => by
    have := Fge u hu hn
    rw [e] at this
    exact hn (Rat.le_antisymm this (hF0 u))
  have F0 : ∀ x, x < m1 → 0 ≤ F x := fun x hx => by
    rw [← hF x hx]
    exact sm_nn fun u _ => by split; exact hF0 u; exact Rat.le_refl
  have π0 : ∀ x w, x < m1 → w < m2 → F x = 0 → π x w = 0 := fun x w hx hw e => by
    have := sm_ge (g := π x) (n := m2) (fun w hw => o.nn x w hx hw) w hw
    rw [o.row x hx, e] at this
    exact Rat.le_antisymm this (o.nn x w hx hw)
  have π0' : ∀ u w, u < n0 → w < m2 → F' u = 0 → π' u w = 0 := fun u w hu hw e => by
    have := sm_ge (g := π' u) (n := m2) (fun w hw => o'.nn u w hu hw) w hw
    rw [o'.row u hu, e] at this
    exact Rat.le_antisymm this (o'.nn u w hu hw)
  have push : ∀ K : Nat → Rat, (∀ x, x < m1 → F x = 0 → K x = 0) → sm n0 (fun u => F' u * (F (h u))⁻¹ * K (h u)) = sm m1 K := fun K hK => by
    have e1 := sm_fib (n0 := n0) (m1 := m1) (h := h) (G := fun x u => F' u * ((F x)⁻¹ * K x)) fun u hu hn => by
      by_cases z : F' u = 0
      · rw [z, Rat.zero_mul]
      · exact absurd (hh u hu z) hn
    rw [sm_congr (g := fun u => F' u * ((F (h u))⁻¹ * K (h u))) fun u hu => Rat.mul_assoc _ _ _, ← e1]
    refine sm_congr fun x hx => ?_
    rw [sm_congr (g := fun u => ((F x)⁻¹ * K x) * (if h u = x then F' u else 0)) fun u hu => by
      by_cases e : h u = x
      · rw [if_pos e, if_pos e]; exact Rat.mul_comm _ _
      · rw [if_neg e, if_neg e, Rat.mul_zero], sm_mul, hF x hx]
    by_cases z : F x = 0
    · rw [hK x hx z, Rat.mul_zero, Rat.zero_mul]
    · rw [Rat.mul_comm, ← Rat.mul_assoc, Rat.mul_inv_cancel _ z, Rat.one_mul]
  have inv0 : ∀ {k : Rat}, 0 ≤ k → 0 ≤ k⁻¹ := fun {k} h => by
    by_cases e : k = 0
    · rw [e, Rat.inv_zero]; exact Rat.le_refl
    · exact Rat.le_of_lt (Rat.inv_pos.2 (Rat.lt_of_le_of_ne h (Ne.symm e)))
  refine Rat.le_antisymm ?_ ?_
  · have pl : Plan n0 m2 F' S fun u w => F' u * (F (h u))⁻¹ * π (h u) w := {
      nn := fun u w hu hw => by
        by_cases z : F' u = 0
        · rw [z, Rat.zero_mul, Rat.zero_mul]; exact Rat.le_refl
        · have hx := hh u hu z
          exact Rat.mul_nonneg (Rat.mul_nonneg (hF0 u) (inv0 (F0 _ hx))) (o.nn _ w hx hw)
      row := fun u hu => by
        rw [sm_mul]
        by_cases z : F' u = 0
        · rw [z, Rat.zero_mul, Rat.zero_mul]
        · rw [o.row _ (hh u hu z), Rat.mul_assoc, Rat.inv_mul_cancel _ (Fne u hu z), Rat.mul_one]
      col := fun w hw => by
        rw [push (fun x => π x w) fun x hx e => π0 x w hx hw e]
        exact o.col w hw }
    refine Rat.le_trans (o'.least pl) ?_
    have e : cost n0 m2 c' (fun u w => F' u * (F (h u))⁻¹ * π (h u) w) = cost m1 m2 c π := by
      unfold cost
      rw [← push (fun x => sm m2 fun w => c x w * π x w) fun x hx e => by
        rw [sm_congr (g := fun _ => (0 : Rat)) fun w hw => by rw [π0 x w hx hw e, Rat.mul_zero], sm_zeroS]]
      refine sm_congr fun u hu => ?_
      rw [← sm_mul]
      refine sm_congr fun w hw => ?_
      by_cases z : F' u = 0
      · simp only [z, Rat.zero_mul, Rat.mul_zero]
      · rw [hc u hu z w hw]; grind
    rw [e]
    exact Rat.le_refl
  · have pl : Plan m1 m2 F S fun x w => sm n0 fun u => if h u = x then π' u w else 0 := {
      nn := fun x w hx hw => sm_nn fun u hu => by split; exact o'.nn u w hu hw; exact Rat.le_refl
      row := fun x hx => by
        rw [sm_swap, ← hF x hx]
        refine sm_congr fun u hu => ?_
        by_cases e : h u = x
        · rw [if_pos e, ← o'.row u hu]
          exact sm_congr fun w hw => if_pos e
        · rw [if_neg e, sm_congr (g := fun _ => (0 : Rat)) fun w hw => if_neg e, sm_zeroS]
      col := fun w hw => by
        rw [sm_fib (G := fun _ u => π' u w) fun u hu hn => by
          by_cases z : F' u = 0
          · exact π0' u w hu hw z
          · exact absurd (hh u hu z) hn]
        exact o'.col w hw }
    refine Rat.le_trans (o.least pl) ?_
    have e : cost m1 m2 c (fun x w => sm n0 fun u => if h u = x then π' u w else 0) = cost n0 m2 c' π' := by
      unfold cost
      have e1 := sm_fib (n0 := n0) (m1 := m1) (h := h) (G := fun x u => sm m2 fun w => c x w * π' u w) fun u hu hn => by
        by_cases z : F' u = 0
        · rw [sm_congr (g := fun _ => (0 : Rat)) fun w hw => by rw [π0' u w hu hw z, Rat.mul_zero], sm_zeroS]
        · exact absurd (hh u hu z) hn
      rw [sm_congr (g := fun u => sm m2 fun w => c (h u) w * π' u w) (f := fun u => sm m2 fun w => c' u w * π' u w) fun u hu => sm_congr fun w hw => by
        by_cases z : F' u = 0
        · rw [π0' u w hu hw z, Rat.mul_zero, Rat.mul_zero]
        · rw [hc u hu z w hw], ← e1]
      refine sm_congr fun x hx => ?_
      rw [sm_congr (g := fun w => sm n0 fun u => if h u = x then c x w * π' u w else 0) fun w hw => by
        rw [← sm_mul]
        refine sm_congr fun u hu => ?_
        split
        · rfl
        · exact Rat.mul_zero _, sm_swap]
      refine sm_congr fun u hu => ?_
      by_cases e : h u = x
      · rw [if_pos e]; exact sm_congr fun w hw => if_pos e
      · rw [if_neg e, sm_congr (g := fun _ => (0 : Rat)) fun w hw => if_neg e, sm_zeroS]
    rw [e]
    exact Rat.le_refl
end
section
variable {m1 m2 : Nat} {s1 s2 : List Stp} {f : Rat} {v : Nat → Nat → Rat} {P Q : Nat → Nat}
theorem zeroP (g1 : Good m1 s1) (g2 : Good m2 s2) (f0 : 0 < f) (f1 : f < 1) (hv : Fix f m1 m2 s1 s2 v) (st : ∀ x y, x < m1 → y < m2 → P x = Q y → menuS s1 x = menuS s2 y ∧ ∀ a ∈ menuS s1 x, ∀ k, sm m1 (fun u => if P u = k then hpF s1 x a u else 0) = sm m2 fun w => if Q w = k then hpF s2 y a w else 0) : ∀ x y, x < m1 → y < m2 → P x = Q y → v x y = 0 := by
  have f0' := Rat.le_of_lt f0
  have U := hv.u g1 f0' f1
  have step : ∀ C : Rat, 0 ≤ C → (∀ x y, x < m1 → y < m2 → P x = Q y → v x y ≤ C) → ∀ x y, x < m1 → y < m2 → P x = Q y → v x y ≤ f * C := fun C C0 ih x y hx hy e => by
    obtain ⟨em', st'⟩ := st x y hx hy e
    rcases hv x y hx hy with ⟨hn, _⟩ | ⟨em, g, hg, ev⟩
    · exact absurd em' hn
    · rw [ev]
      refine grt_lt (Rat.mul_nonneg f0' C0) fun b hb => ?_
      obtain ⟨a, ha, rfl⟩ := List.mem_map.1 hb
      obtain ⟨π, p', q', o, eg⟩ := hg a ha
      refine Rat.mul_le_mul_of_nonneg_left ?_ f0'
      rw [eg]
      have hs1 := hp_sum g1 ha
      have hs2 := hp_sum g2 (show a ∈ menuS s2 y by rw [← em]; exact ha)
      exact class_cost o hs1.2 hs2.2 hs1.1 (st' a ha) ih
  have key : ∀ n : Nat, ∀ x y, x < m1 → y < m2 → P x = Q y → v x y ≤ f ^ n := fun n => by
    induction n with
    | zero => intro x y hx hy _; rw [Rat.pow_zero]; exact (U x y hx hy).2
    | succ n ih =>
      intro x y hx hy e
      have := step (f ^ n) (Rat.pow_nonneg f0') ih x y hx hy e
      rw [Rat.pow_succ, Rat.mul_comm]
      exact this
  intro x y hx hy e
  refine Rat.le_antisymm (arch f0' f1 fun n => ?_) (U x y hx hy).1
  rw [Rat.zero_add]
  exact key n x y hx hy e
end
structure Quo (n : Nat) (s' : List Stp) (m : Nat) (s : List Stp) (D : Nat → Prop) (h : Nat → Nat) : Prop where
  lt : ∀ k, k < n → D k → h k < m
  men : ∀ k, k < n → D k → menuS s' k = menuS s (h k)
  st : ∀ k, k < n → D k → ∀ a ∈ menuS s' k, ∀ u, u < n → hpF s' k a u ≠ 0 → D u
  ms : ∀ k, k < n → D k → ∀ a ∈ menuS s' k, ∀ x, x < m → sm n (fun u => if h u = x then hpF s' k a u else 0) = hpF s (h k) a x
theorem sum_fib {n m : Nat} {h : Nat → Nat} {F' F K : Nat → Rat} (hh : ∀ u, u < n → F' u ≠ 0 → h u < m) (hF : ∀ x, x < m → sm n (fun u => if h u = x then F' u else 0) = F x) : sm n (fun u => F' u * K (h u)) = sm m fun x => F x * K x := by
  rw [← sm_fib (n0 := n) (m1 := m) (h := h) (G := fun x u => F' u * K x) fun u hu hn => by
    by_cases z : F' u = 0
    · rw [z, Rat.zero_mul]
    · exact absurd (hh u hu z) hn]
  refine sm_congr fun x hx => ?_
  rw [← hF x hx, sm_congr (g := fun u => K x * (if h u = x then F' u else 0)) fun u hu => by
    by_cases e : h u = x
    · rw [if_pos e, if_pos e]; exact Rat.mul_comm _ _
    · rw [if_neg e, if_neg e, Rat.mul_zero], sm_mul]
  exact Rat.mul_comm _ _
section
variable {n m l : Nat} {s' s t : List Stp} {D E : Nat → Prop} {h g : Nat → Nat}
theorem Quo.sum (q : Quo n s' m s D h) {k : Nat} (hk : k < n) (hD : D k) {a : Str} (ha : a ∈ menuS s' k) (K : Nat → Rat) : sm n (fun u => hpF s' k a u * K (h u)) = sm m fun x => hpF s (h k) a x * K x :=
  sum_fib (fun u hu hn => q.lt u hu (q.st k hk hD a ha u hu hn)) (q.ms k hk hD a ha)
theorem Quo.comp (q : Quo n s' m s D h) (p : Quo m s l t E g) (hE : ∀ k, k < n → D k → E (h k)) : Quo n s' l t D fun k => g (h k) where
  lt := fun k hk hD => p.lt _ (q.lt k hk hD) (hE k hk hD)
  men := fun k hk hD => by rw [q.men k hk hD]; exact p.men _ (q.lt k hk hD) (hE k hk hD)
  st := q.st
  ms := fun k hk hD a ha x hx => by
    have hm := q.lt k hk hD
    rw [← p.ms (h k) hm (hE k hk hD) a (by rw [← q.men k hk hD]; exact ha) x hx]
    have e1 := q.sum hk hD ha fun y => if g y = x then (1 : Rat) else 0
    have i1 : ∀ (c : Prop) [Decidable c] (z : Rat), (if c then z else 0) = z * (if c then (1 : Rat) else 0) := fun c _ z => by split <;> simp
    rw [sm_congr (g := fun u => hpF s' k a u * (if g (h u) = x then (1 : Rat) else 0)) fun u hu => i1 _ _, e1]
    exact sm_congr fun u hu => (i1 _ _).symm
end
def Edp (n : Nat) (M : Nat → Mch) : Nat → Nat → Nat → Nat → Nat → Prop
  | 0, _, _, _, _ => True
  | d + 1, i, x, j, y => Edp n M d i x j y ∧ menuS (M i).2 x = menuS (M j).2 y ∧ ∀ a ∈ menuS (M i).2 x, ∀ g : Nat → Nat → Nat, (∀ i x j y, Rm n M i x → Rm n M j y → Edp n M d i x j y → g i x = g j y) → ∀ c, csum (M i) (g i) x a c = csum (M j) (g j) y a c
section
variable {n : Nat} {M : Nat → Mch}
theorem Edp.refl : ∀ (d : Nat) (i x : Nat), Edp n M d i x i x
  | 0, _, _ => trivial
  | d + 1, i, x => ⟨Edp.refl d i x, rfl, fun _ _ _ _ _ => rfl⟩
theorem Edp.symm : ∀ {d i x j y : Nat}, Edp n M d i x j y → Edp n M d j y i x
  | 0, _, _, _, _, _ => trivial
  | d + 1, i, x, j, y, ⟨h0, h1, h2⟩ => ⟨Edp.symm h0, h1.symm, fun a ha g hg c => (h2 a (by rw [h1]; exact ha) g hg c).symm⟩
theorem Edp.trans : ∀ {d i x j y k z : Nat}, Edp n M d i x j y → Edp n M d j y k z → Edp n M d i x k z
  | 0, _, _, _, _, _, _, _, _ => trivial
  | d + 1, i, x, j, y, k, z, ⟨h0, h1, h2⟩, ⟨k0, k1, k2⟩ => ⟨Edp.trans h0 k0, h1.trans k1, fun a ha g hg c => (h2 a ha g hg c).trans (k2 a (by rw [← h1]; exact ha) g hg c)⟩
theorem Edp.down {d i x j y : Nat} (h : Edp n M (d + 1) i x j y) : Edp n M d i x j y := h.1
theorem Edp.le {e i x j y : Nat} : ∀ {d : Nat}, e ≤ d → Edp n M d i x j y → Edp n M e i x j y
  | 0, he, h => by
    have : e = 0 := by omega
    subst this
    exact h
  | d + 1, he, h => by
    by_cases c : e = d + 1
    · subst c; exact h
    · exact Edp.le (by omega) h.1
theorem leastN {p : Nat → Prop} (h : ∃ i, p i) : ∃ i, p i ∧ ∀ j, j < i → ¬ p j := by
  classical
  obtain ⟨i, hi⟩ := h
  induction i using Nat.strongRecOn with
  | _ i ih =>
    rcases Classical.em (∃ j, j < i ∧ p j) with ⟨j, hj, hp⟩ | hn
    · exact ih j hj hp
    · exact ⟨i, hi, fun j hj hp => hn ⟨j, hj, hp⟩⟩
theorem idx_le {z : Nat × Nat} : ∀ {L : List (Nat × Nat)} {i : Nat}, L[i]? = some z → L.idxOf z ≤ i
  | [], i, h => by simp at h
  | a :: L, 0, h => by
    have : a = z := by simpa using h
    subst this
    rw [List.idxOf_cons_self]
    exact Nat.le_refl _
  | a :: L, i + 1, h => by
    have := idx_le (L := L) (i := i) (by simpa using h)
    rw [List.idxOf_cons]
    cases (a == z) with
    | true => exact Nat.zero_le _
    | false => show List.idxOf z L + 1 ≤ i + 1; omega
theorem fil_mono {α : Type} {p q : α → Bool} (h : ∀ a, p a = true → q a = true) : ∀ l : List α, (l.filter p).Sublist (l.filter q)
  | [] => .slnil
  | a :: l => by
    rw [List.filter_cons, List.filter_cons]
    by_cases c : p a = true
    · rw [if_pos c, if_pos (h a c)]
      exact (fil_mono h l).cons₂ a
    · rw [if_neg c]
      split
      · exact (fil_mono h l).cons a
      · exact fil_mono h l
open Classical in
noncomputable def rpsE (L : List (Nat × Nat)) (R : Nat × Nat → Nat × Nat → Prop) : List (Nat × Nat) := L.filter fun r => decide (∀ i : Nat, i < L.idxOf r → ∀ z : Nat × Nat, L[i]? = some z → ¬ R z r)
theorem Edp.still (L : List (Nat × Nat)) (hL : ∀ r, r ∈ L ↔ Rm n M r.1 r.2) (h0 : L ≠ []) : ∃ d, d < L.length ∧ ∀ i x j y, Rm n M i x → Rm n M j y → Edp n M d i x j y → Edp n M (d + 1) i x j y := by
  classical
  let R : Nat → Nat × Nat → Nat × Nat → Prop := fun d a b => Edp n M d a.1 a.2 b.1 b.2
  have rep : ∀ d r, r ∈ L → ∃ z, z ∈ rpsE L (R d) ∧ R d z r := fun d r hr => by
    have ex : ∃ i : Nat, ∃ z : Nat × Nat, L[i]? = some z ∧ R d z r := by
      obtain ⟨i, hi, e⟩ := List.getElem_of_mem hr
      exact ⟨i, r, by rw [List.getElem?_eq_getElem hi, e], Edp.refl d _ _⟩
    obtain ⟨i0, ⟨z, hz, hR⟩, hmin⟩ := leastN ex
    have hzm : z ∈ L := List.mem_of_getElem? hz
    refine ⟨z, List.mem_filter.2 ⟨hzm, decide_eq_true fun i hi y hy hyz => ?_⟩, hR⟩
    have hidx : L.idxOf z ≤ i0 := idx_le hz
    exact hmin i (by omega) ⟨y, hy, Edp.trans hyz hR⟩
  have uniq : ∀ d r z, r ∈ rpsE L (R d) → z ∈ rpsE L (R d) → R d r z → r = z := fun d r z hr hz h => by
    obtain ⟨hrm, hr⟩ := List.mem_filter.1 hr
    obtain ⟨hzm, hz⟩ := List.mem_filter.1 hz
    have hr := of_decide_eq_true hr
    have hz := of_decide_eq_true hz
    have ir := List.idxOf_lt_length_of_mem hrm
    have iz := List.idxOf_lt_length_of_mem hzm
    have gr : L[L.idxOf r]? = some r := by rw [List.getElem?_eq_getElem ir, List.getElem_idxOf]
    have gz : L[L.idxOf z]? = some z := by rw [List.getElem?_eq_getElem iz, List.getElem_idxOf]
    rcases Nat.lt_trichotomy (L.idxOf r) (L.idxOf z) with c | c | c
    · exact absurd h (hz _ c r gr)
    · rw [c, gz] at gr
      exact (Option.some.inj gr).symm
    · exact absurd (Edp.symm h) (hr _ c z gz)
  have mono : ∀ d r, r ∈ rpsE L (R d) → r ∈ rpsE L (R (d + 1)) := fun d r hr => by
    obtain ⟨hrm, hr⟩ := List.mem_filter.1 hr
    have hr := of_decide_eq_true hr
    exact List.mem_filter.2 ⟨hrm, decide_eq_true fun i hi z hz h => hr i hi z hz h.1⟩
  have sub : ∀ d, (rpsE L (R d)).Sublist (rpsE L (R (d + 1))) := fun d => by
    unfold rpsE
    refine fil_mono (fun r hr => ?_) L
    have hr := of_decide_eq_true hr
    exact decide_eq_true fun i hi z hz h => hr i hi z hz h.1
  have eqs : ∀ d, (rpsE L (R d)).length = (rpsE L (R (d + 1))).length → ∀ i x j y, Rm n M i x → Rm n M j y → Edp n M d i x j y → Edp n M (d + 1) i x j y := fun d hl i x j y hi hj h => by
    have es := (sub d).eq_of_length hl
    obtain ⟨r, hr, h1⟩ := rep (d + 1) (i, x) ((hL (i, x)).2 hi)
    obtain ⟨z, hz, h2⟩ := rep (d + 1) (j, y) ((hL (j, y)).2 hj)
    rw [← es] at hr hz
    have e := uniq d r z hr hz (Edp.trans (Edp.trans (Edp.down h1) h) (Edp.symm (Edp.down h2)))
    subst e
    exact Edp.trans (Edp.symm h1) h2
  rcases Classical.em (∃ d, d < L.length ∧ (rpsE L (R d)).length = (rpsE L (R (d + 1))).length) with ⟨d, hd, hl⟩ | hn
  · exact ⟨d, hd, eqs d hl⟩
  · have grow : ∀ d, d ≤ L.length → d + 1 ≤ (rpsE L (R d)).length := fun d => by
      induction d with
      | zero =>
        intro _
        obtain ⟨r, hr⟩ := List.exists_mem_of_ne_nil L h0
        obtain ⟨z, hz, _⟩ := rep 0 r hr
        exact List.length_pos_of_mem hz
      | succ d ih =>
        intro hd
        have h1 := ih (by omega)
        have h2 := (sub d).length_le
        have h3 : (rpsE L (R d)).length ≠ (rpsE L (R (d + 1))).length := fun e => hn ⟨d, by omega, e⟩
        omega
    have h1 := grow L.length (Nat.le_refl _)
    have h2 : (rpsE L (R L.length)).length ≤ L.length := List.length_filter_le _ _
    omega
end
def cell (K : Nat) (g : Nat → Nat) (c : Nat) : List Nat := (List.range K).filter fun x => decide (g x = c)
def csOf (g : Nat → Nat) (C : Nat) : List Nat := g 0 :: (List.range C).filter fun c => decide (c ≠ g 0)
def repO (K : Nat) (g : Nat → Nat) (c : Nat) : Nat := (cell K g c).headD 0
structure Dns (K : Nat) (g : Nat → Nat) (C : Nat) : Prop where
  k1 : 1 ≤ K
  lt : ∀ x, x < K → g x < C
  on : ∀ c, c < C → ∃ x, x < K ∧ g x = c
theorem cell_mem {K c x : Nat} {g : Nat → Nat} : x ∈ cell K g c ↔ x < K ∧ g x = c := by
  unfold cell
  rw [List.mem_filter, List.mem_range, decide_eq_true_iff]
theorem Dns.rep {K C c : Nat} {g : Nat → Nat} (h : Dns K g C) (hc : c < C) : repO K g c < K ∧ g (repO K g c) = c ∧ (cell K g c)[0]? = some (repO K g c) := by
  obtain ⟨x, hx, e⟩ := h.on c hc
  have hm : x ∈ cell K g c := cell_mem.2 ⟨hx, e⟩
  unfold repO
  cases hl : cell K g c with
  | nil => rw [hl] at hm; cases hm
  | cons y l =>
    have hy : y ∈ cell K g c := by rw [hl]; simp
    obtain ⟨h1, h2⟩ := cell_mem.1 hy
    exact ⟨h1, h2, rfl⟩
theorem Dns.uniq {K C C' : Nat} {g : Nat → Nat} (h : Dns K g C) (h1 : ∀ x, x < K → g x < C') (h2 : ∀ C'', (∀ x, x < K → g x < C'') → 0 < C'' → C' ≤ C'') : C' = C := by
  have a := h2 C h.lt (by have := h.lt 0 h.k1; omega)
  by_cases e : C' = C
  · exact e
  · obtain ⟨x, hx, ex⟩ := h.on C' (by omega)
    have := h1 x hx
    omega
theorem getD_sumL (ws : List Nat) : ((List.range ws.length).map fun k => ws.getD k 0).sum = ws.sum := by
  congr 1
  refine List.ext_getElem (by simp) fun i h1 h2 => ?_
  rw [List.getElem_map, List.getElem_range, List.getD_eq_getElem?_getD, List.getElem?_eq_getElem h2]
  rfl
end Far
namespace Pw
open PySem PySem.Spec PyProof.Rows L2
open Evl (Ex ex_l ex_t)
end Pw
namespace Far
open PySem PySem.Spec PyProof.Rows L2 Pw Cg
def ordA (o : List Nat) (r : Nat) : Nat := o.getD r 0
def mvS (o : List Nat) (ss : List Stp) : List Stp := ss.map fun s => (o.idxOf s.1, s.2.1, o.map fun k => s.2.2.getD k 0)
section
variable {m : Nat} {o : List Nat} {ss : List Stp}
theorem ord_len (h : o.Perm (List.range m)) : o.length = m := by rw [h.length_eq, List.length_range]
theorem ord_get (h : o.Perm (List.range m)) {r : Nat} (hr : r < m) : o[r]? = some (ordA o r) := by
  have hl := ord_len h
  unfold ordA
  rw [List.getElem?_eq_getElem (by omega), List.getD_eq_getElem?_getD, List.getElem?_eq_getElem (by omega)]
  rfl
theorem ord_idx (h : o.Perm (List.range m)) {k : Nat} (hk : k < m) : o.idxOf k < m ∧ ordA o (o.idxOf k) = k := by
  have hm : k ∈ o := h.mem_iff.2 (List.mem_range.2 hk)
  have h1 := List.idxOf_lt_length_of_mem hm
  rw [ord_len h] at h1
  refine ⟨h1, ?_⟩
  have h2 := ord_get h h1
  have h3 : o[o.idxOf k]? = some k := by
    rw [List.getElem?_eq_getElem (List.idxOf_lt_length_of_mem hm), List.getElem_idxOf]
  rw [h3] at h2
  exact (Option.some.inj h2).symm
theorem mv_sum (h : o.Perm (List.range m)) {ws : List Nat} (hl : ws.length = m) : (o.map fun k => ws.getD k 0).sum = ws.sum := by
  rw [nsum_perm (h.map fun k => ws.getD k 0)]
  congr 1
  refine List.ext_getElem (by simp [hl]) fun i h1 h2 => ?_
  rw [List.getElem_map, List.getElem_range, List.getD_eq_getElem?_getD, List.getElem?_eq_getElem h2]
  rfl
theorem good_mv (h : o.Perm (List.range m)) (hg : Good m ss) : Good m (mvS o ss) where
  m1 := hg.m1
  m12 := hg.m12
  ln := by unfold mvS; rw [List.length_map]; exact hg.ln
  nd := by
    unfold mvS
    rw [List.map_map]
    have hn := hg.nd
    unfold List.Nodup at hn ⊢
    rw [List.pairwise_map] at hn ⊢
    refine hn.imp_of_mem fun {a b} ha hb e z => e ?_
    have z1 : o.idxOf a.1 = o.idxOf b.1 := congrArg Prod.fst z
    have z2 : a.2.1 = b.2.1 := congrArg Prod.snd z
    have e1 := (ord_idx h (hg.ok a ha).rm).2
    have e2 := (ord_idx h (hg.ok b hb).rm).2
    have : a.1 = b.1 := by rw [← e1, ← e2, z1]
    unfold keyS
    rw [this, z2]
  ok := fun s hs => by
    obtain ⟨z, hz, rfl⟩ := List.mem_map.1 hs
    have ok := hg.ok z hz
    refine ⟨(ord_idx h ok.rm).1, ok.nm, by rw [List.length_map, ord_len h], by rw [mv_sum h ok.ln]; exact ok.ps, fun w hw => ?_⟩
    obtain ⟨k, hk, rfl⟩ := List.mem_map.1 hw
    have hkm := List.mem_range.1 (h.mem_iff.1 hk)
    rw [List.getD_eq_getElem?_getD, List.getElem?_eq_getElem (by rw [ok.ln]; exact hkm)]
    exact ok.bd _ (List.getElem_mem _)
end
def cls (olds vs : List Nat) (c : Nat) : Nat := (((List.range olds.length).filter fun k => decide (olds.getD k 0 = c)).map fun k => vs.getD k 0).sum
structure SplitOk (m : Nat) (ss : List Stp) (olds : List Nat) (us : List Stp) : Prop where
  n1 : 1 ≤ olds.length
  n4 : olds.length ≤ 4
  h0 : olds.getD 0 0 = 0
  lt : ∀ k, k < olds.length → olds.getD k 0 < m
  gd : Good (olds.length + 1) us
  dn : ∀ u ∈ us, u.1 < olds.length → ∃ s ∈ ss, s.1 = olds.getD u.1 0 ∧ s.2.1 = u.2.1 ∧ u.2.2.sum = 4 * s.2.2.sum ∧ u.2.2.getD olds.length 0 = 0 ∧ ∀ c, c < m → cls olds u.2.2 c = 4 * s.2.2.getD c 0
  up : ∀ s ∈ ss, ∀ k, k < olds.length → olds.getD k 0 = s.1 → ∃ u ∈ us, u.1 = k ∧ u.2.1 = s.2.1
  sb : ∀ u ∈ us, u.2.2.sum ≤ 36 ∨ ∃ t, 0 < t ∧ t ≤ 30 ∧ u.2.2.sum = 4 * t
theorem wt_cls (vs : List Nat) (h : 0 < vs.sum) (g : Nat → Nat) (c : Nat) : ∀ n : Nat, (((((List.range n).filter fun k => decide (g k = c)).map fun k => vs.getD k 0).sum : Nat) : Rat) = (vs.sum : Rat) * sm n fun u => if g u = c then wtQ vs u else 0
  | 0 => by simp [sm]
  | n + 1 => by
    rw [sm_succ, List.range_succ, List.filter_append, List.map_append, List.sum_append, Rat.natCast_add, wt_cls vs h g c n, Rat.mul_add]
    congr 1
    by_cases e : g n = c
    · rw [if_pos e, List.filter_cons, if_pos (decide_eq_true e)]
      unfold wtQ
      have hd : (vs.sum : Rat) ≠ 0 := by
        intro e
        have := Rat.natCast_eq_zero_iff.1 e
        omega
      rw [Rat.divInt_eq_div]
      simp only [List.filter_nil, List.map_cons, List.map_nil, List.sum_cons, List.sum_nil, Nat.add_zero]
      show ((vs.getD n 0 : Nat) : Rat) = (vs.sum : Rat) * (((vs.getD n 0 : Nat) : Rat) / ((vs.sum : Nat) : Rat))
      rw [Rat.div_def, ← Rat.mul_assoc, Rat.mul_comm (vs.sum : Rat), Rat.mul_assoc, Rat.mul_inv_cancel _ hd, Rat.mul_one]
    · rw [if_neg e, List.filter_cons, if_neg (by rw [decide_eq_false e]; decide)]
      simp
def hS (m : Nat) (olds : List Nat) (u : Nat) : Nat := if u < olds.length then olds.getD u 0 else m
section
variable {m : Nat} {ss us : List Stp} {olds : List Nat}
theorem SplitOk.menu (h : SplitOk m ss olds us) (hg : Good m ss) {k : Nat} (hk : k < olds.length) : menuS (mkS us) k = menuS (mkS ss) (olds.getD k 0) := by
  refine menu_same h.gd.made hg.made fun x => ?_
  rw [← menu_iff, ← menu_iff, menu_mk, menu_mk]
  constructor
  · rintro ⟨u, hu, e1, e2⟩
    obtain ⟨s, hs, e3, e4, _⟩ := h.dn u hu (by rw [e1]; exact hk)
    exact ⟨s, hs, by rw [e3, e1], by rw [e4, e2]⟩
  · rintro ⟨s, hs, e1, e2⟩
    obtain ⟨u, hu, e3, e4⟩ := h.up s hs k hk e1.symm
    exact ⟨u, hu, e3, by rw [e4, e2]⟩
theorem SplitOk.hp (h : SplitOk m ss olds us) (hg : Good m ss) {k : Nat} (hk : k < olds.length) {a : Str} (ha : a ∈ menuS (mkS ss) (olds.getD k 0)) :
    hpF (mkS us) k a olds.length = 0 ∧ (∀ x, x < m → sm olds.length (fun u => if olds.getD u 0 = x then hpF (mkS us) k a u else 0) = hpF (mkS ss) (olds.getD k 0) a x) := by
  rw [← h.menu hg hk] at ha
  obtain ⟨u, hu, e1, e2⟩ := menu_mk.1 ha
  obtain ⟨s, hs, e3, e4, e5, e6, e7⟩ := h.dn u hu (by rw [e1]; exact hk)
  have hp1 : ∀ i, hpF (mkS us) k a i = wtQ u.2.2 i := fun i => by
    have := hp_mk h.gd hu i
    rw [e1, e2] at this
    exact this
  have hp2 : ∀ i, hpF (mkS ss) (olds.getD k 0) a i = wtQ s.2.2 i := fun i => by
    have := hp_mk hg hs i
    rw [e3, e1, e4, e2] at this
    exact this
  have ps := (hg.ok s hs).ps
  have pu := (h.gd.ok u hu).ps
  refine ⟨?_, fun x hx => ?_⟩
  · rw [hp1]
    unfold wtQ
    rw [e6]
    simp
  · rw [sm_congr (g := fun v => if olds.getD v 0 = x then wtQ u.2.2 v else 0) fun v _ => by rw [hp1], hp2]
    have h1 := wt_cls u.2.2 pu (fun v => olds.getD v 0) x olds.length
    have h2 := e7 x hx
    unfold cls at h2
    rw [h2, e5, Rat.natCast_mul, Rat.natCast_mul, Rat.mul_assoc] at h1
    have f4 : ((4 : Nat) : Rat) ≠ 0 := by decide
    have hd : (s.2.2.sum : Rat) ≠ 0 := by
      intro e
      have := Rat.natCast_eq_zero_iff.1 e
      omega
    have h3 : (s.2.2.getD x 0 : Rat) = (s.2.2.sum : Rat) * sm olds.length fun v => if olds.getD v 0 = x then wtQ u.2.2 v else 0 := by
      have h4 : ((4 : Nat) : Rat)⁻¹ * (((4 : Nat) : Rat) * (s.2.2.getD x 0 : Rat)) = ((4 : Nat) : Rat)⁻¹ * (((4 : Nat) : Rat) * ((s.2.2.sum : Rat) * sm olds.length fun v => if olds.getD v 0 = x then wtQ u.2.2 v else 0)) := by rw [h1]
      rw [← Rat.mul_assoc, ← Rat.mul_assoc, Rat.inv_mul_cancel _ f4, Rat.one_mul, Rat.one_mul] at h4
      exact h4
    unfold wtQ
    rw [Rat.divInt_eq_div]
    show _ = ((s.2.2.getD x 0 : Nat) : Rat) / ((s.2.2.sum : Nat) : Rat)
    rw [h3, Rat.div_def, Rat.mul_comm (s.2.2.sum : Rat), Rat.mul_assoc, Rat.mul_inv_cancel _ hd, Rat.mul_one]
    rfl
theorem SplitOk.mass (h : SplitOk m ss olds us) (hg : Good m ss) {k : Nat} (hk : k < olds.length) {a : Str} (ha : a ∈ menuS (mkS ss) (olds.getD k 0)) (x : Nat) :
    sm (olds.length + 1) (fun u => if hS m olds u = x then hpF (mkS us) k a u else 0) = if x < m then hpF (mkS ss) (olds.getD k 0) a x else 0 := by
  obtain ⟨z, hx⟩ := h.hp hg hk ha
  rw [sm_succ, z]
  have e1 : (if hS m olds olds.length = x then (0 : Rat) else 0) = 0 := by split <;> rfl
  rw [e1, Rat.add_zero, sm_congr (g := fun u => if olds.getD u 0 = x then hpF (mkS us) k a u else 0) fun u hu => by unfold hS; rw [if_pos hu]]
  by_cases c : x < m
  · rw [if_pos c]
    exact hx x c
  · rw [if_neg c, sm_congr (g := fun _ => (0 : Rat)) fun u hu => if_neg fun e => c (by rw [← e]; exact h.lt u hu), sm_zeroS]
theorem SplitOk.zero (h : SplitOk m ss olds us) (hg : Good m ss) {f : Rat} (f0 : 0 < f) (f1 : f < 1) {v : Nat → Nat → Rat} (hv : Fix f (olds.length + 1) m (mkS us) (mkS ss) v) : ∀ k, k < olds.length → v k (olds.getD k 0) = 0 := fun k hk => by
  refine zeroP (P := hS m olds) (Q := id) h.gd.made hg.made f0 f1 hv (fun x y hx hy e => ?_) k _ (by omega) (h.lt k hk) (by unfold hS; rw [if_pos hk]; rfl)
  have hxn : x < olds.length := by
    by_cases c : x < olds.length
    · exact c
    · unfold hS at e
      rw [if_neg c] at e
      simp at e
      omega
  unfold hS at e
  rw [if_pos hxn] at e
  have e : olds.getD x 0 = y := e
  rw [← e]
  refine ⟨h.menu hg hxn, fun a ha c => ?_⟩
  rw [h.menu hg hxn] at ha
  rw [h.mass hg hxn ha]
  by_cases hc : c < m
  · rw [if_pos hc, sm_congr (g := fun w => if c = w then hpF (mkS ss) (olds.getD x 0) a c else 0) fun w _ => by
      show (if w = c then hpF (mkS ss) (olds.getD x 0) a w else 0) = _
      by_cases e : w = c
      · rw [e, if_pos rfl]
      · rw [if_neg e, if_neg (fun z => e z.symm)]]
    exact (sm_oneW _ hc).symm
  · rw [if_neg hc, sm_congr (g := fun _ => (0 : Rat)) fun w hw => if_neg (by show ¬ w = c; omega), sm_zeroS]
variable {m2 : Nat} {s2 : List Stp} {f : Rat}
theorem SplitOk.dep (h : SplitOk m ss olds us) (hg : Good m ss) : ∀ {d : Nat} {t w : Nat → Nat → Rat}, Dep f m m2 (mkS ss) s2 d t → Dep f (olds.length + 1) m2 (mkS us) s2 d w → ∀ k y, k < olds.length → y < m2 → w k y = t (olds.getD k 0) y
  | 0, t, w, ht, hw, k, y, hk, hy => by rw [hw k y (by omega) hy, ht _ y (h.lt k hk) hy]
  | d + 1, t, w, ⟨t', ht', hts⟩, ⟨w', hw', hws⟩, k, y, hk, hy => by
    have ih := SplitOk.dep h hg ht' hw'
    have em := h.menu hg hk
    rcases hws k y (by omega) hy with ⟨n, e⟩ | ⟨e1, ga, hga, ea⟩
    · rcases hts (olds.getD k 0) y (h.lt k hk) hy with ⟨_, e'⟩ | ⟨e2, _⟩
      · rw [e, e']
      · rw [em] at n; exact absurd e2 n
    · rcases hts (olds.getD k 0) y (h.lt k hk) hy with ⟨n, _⟩ | ⟨e2, gb, hgb, eb⟩
      · rw [em] at e1; exact absurd e1 n
      · rw [ea, eb, em]
        congr 1
        refine List.map_congr_left fun a ha => ?_
        obtain ⟨π, p, q, o, eg⟩ := hga a (by rw [em]; exact ha)
        obtain ⟨π', p', q', o', eg'⟩ := hgb a ha
        have hp := h.hp hg hk ha
        have hps := hp_sum h.gd.made (show a ∈ menuS (mkS us) k by rw [em]; exact ha)
        rw [eg, eg']
        congr 1
        have hlt : ∀ u, u < olds.length + 1 → hpF (mkS us) k a u ≠ 0 → u < olds.length := fun u hu hn => by
          by_cases c : u = olds.length
          · rw [c, hp.1] at hn; exact absurd rfl hn
          · omega
        refine cost_push (h := hS m olds) hps.2 (fun x hx => by rw [h.mass hg hk ha, if_pos hx]) (fun u hu hn => ?_) (fun u hu hn w hw => ?_) o o'
        · have := hlt u hu hn
          unfold hS
          rw [if_pos this]
          exact h.lt u this
        · have := hlt u hu hn
          unfold hS
          rw [if_pos this]
          exact ih u w this hw
end
structure Tel (n : Nat) (A us : List Stp) : Prop where
  gd : Good n A
  mn : ∀ t x, x ∈ menuS A t ↔ ∃ u ∈ us, u.1 = t ∧ u.2.1 = x
  hp : ∀ u ∈ us, ∀ i, hpF A u.1 u.2.1 i = wtQ u.2.2 i
theorem Tel.low {n : Nat} {us : List Stp} (h : Good n us) : Tel n (mkS us) us := ⟨h.made, fun t x => menu_mk, fun u hu i => hp_mk h hu i⟩
theorem Tel.id {n : Nat} {us : List Stp} (h : Good n us) : Tel n us us := ⟨h, fun t x => menu_iff, fun u hu i => by unfold hpF; rw [gon_mem h.nd hu]⟩
def cutW (r c : Nat) (ws : List Nat) : List Nat := (ws.map (fun w => 3 * w) ++ [c * ws.getD r 0]).set r ((3 - c) * ws.getD r 0)
def spl (m r c : Nat) (s : Stp) : List Stp := (s.1, s.2.1, cutW r c s.2.2) :: if s.1 = r then [(m, s.2.1, cutW r c s.2.2)] else []
def spS (m r c : Nat) (ss : List Stp) : List Stp := ss.flatMap (spl m r c)
def hq (m r k : Nat) : Nat := if k = m then r else k
section
variable {m r c : Nat} {ws : List Nat} {ss : List Stp}
theorem cutW_len (hl : ws.length = m) : (cutW r c ws).length = m + 1 := by
  unfold cutW
  simp [hl]
theorem cutW_get (hl : ws.length = m) (hr : r < m) {k : Nat} (hk : k ≤ m) : (cutW r c ws).getD k 0 = if k = r then (3 - c) * ws.getD r 0 else if k = m then c * ws.getD r 0 else 3 * ws.getD k 0 := by
  unfold cutW
  rw [List.getD_eq_getElem?_getD, List.getElem?_set]
  by_cases e : r = k
  · subst e
    rw [if_pos rfl, if_pos (by simp; omega), if_pos rfl]
    rfl
  · rw [if_neg e, if_neg (fun z => e z.symm)]
    by_cases e2 : k = m
    · rw [if_pos e2, List.getElem?_append_right (by simp; omega)]
      simp [hl, e2]
    · rw [if_neg e2, List.getElem?_append_left (by simp; omega), List.getElem?_map, List.getD_eq_getElem?_getD, List.getElem?_eq_getElem (by omega)]
      rfl
theorem nsum_upd {A r : Nat} {g : Nat → Nat} : ∀ m : Nat, r < m → ((List.range m).map fun k => if k = r then A else g k).sum + g r = ((List.range m).map g).sum + A
  | m + 1, h => by
    rw [List.range_succ, List.map_append, List.map_append, List.sum_append, List.sum_append]
    simp only [List.map_cons, List.map_nil, List.sum_cons, List.sum_nil, Nat.add_zero]
    by_cases e : m = r
    · subst e
      rw [if_pos rfl]
      have : ((List.range m).map fun k => if k = m then A else g k) = (List.range m).map g := List.map_congr_left fun k hk => if_neg (by have := List.mem_range.1 hk; omega)
      rw [this]
      omega
    · rw [if_neg e]
      have := nsum_upd (A := A) (g := g) m (show r < m by omega)
      omega
theorem cutW_sum (hl : ws.length = m) (hr : r < m) (hc : c ≤ 3) : (cutW r c ws).sum = 3 * ws.sum := by
  have e1 := getD_sumL (cutW r c ws)
  have e2 := getD_sumL ws
  rw [cutW_len hl, List.range_succ, List.map_append, List.sum_append] at e1
  simp only [List.map_cons, List.map_nil, List.sum_cons, List.sum_nil, Nat.add_zero] at e1
  rw [cutW_get hl hr (Nat.le_refl _), if_neg (by omega), if_pos rfl] at e1
  have e3 : ((List.range m).map fun k => (cutW r c ws).getD k 0) = (List.range m).map fun k => if k = r then (3 - c) * ws.getD r 0 else 3 * ws.getD k 0 := List.map_congr_left fun k hk => by
    have hk := List.mem_range.1 hk
    rw [cutW_get hl hr (by omega), if_neg (show ¬ k = m by omega)]
  rw [e3] at e1
  have e4 := nsum_upd (A := (3 - c) * ws.getD r 0) (g := fun k => 3 * ws.getD k 0) m hr
  rw [hl] at e2
  have e5 : ((List.range m).map fun k => 3 * ws.getD k 0).sum = 3 * ((List.range m).map fun k => ws.getD k 0).sum := by
    generalize List.range m = l
    induction l with
    | nil => rfl
    | cons a l ih => rw [List.map_cons, List.map_cons, List.sum_cons, List.sum_cons, ih]; omega
  rw [e5, e2] at e4
  have e6 : (3 - c) * ws.getD r 0 + c * ws.getD r 0 = 3 * ws.getD r 0 := by rw [← Nat.add_mul]; congr 1; omega
  omega
theorem sp_mem {u : Stp} : u ∈ spS m r c ss ↔ ∃ s ∈ ss, u.2.1 = s.2.1 ∧ u.2.2 = cutW r c s.2.2 ∧ (u.1 = s.1 ∨ (s.1 = r ∧ u.1 = m)) := by
  unfold spS
  rw [List.mem_flatMap]
  constructor
  · rintro ⟨s, hs, hu⟩
    refine ⟨s, hs, ?_⟩
    unfold spl at hu
    rcases List.mem_cons.1 hu with rfl | hu
    · exact ⟨rfl, rfl, .inl rfl⟩
    · split at hu
      · rename_i e
        rw [List.mem_singleton.1 hu]
        exact ⟨rfl, rfl, .inr ⟨e, rfl⟩⟩
      · cases hu
  · rintro ⟨s, hs, e1, e2, e3⟩
    refine ⟨s, hs, ?_⟩
    obtain ⟨a, b, d⟩ := u
    dsimp only at e1 e2 e3
    subst e1 e2
    unfold spl
    rcases e3 with e3 | ⟨e3, e4⟩
    · rw [e3]; exact List.mem_cons_self
    · rw [if_pos e3, e4]; simp
theorem sp_nd (hg : Good m ss) : ((spS m r c ss).map keyS).Nodup := by
  have h1 := hg.nd
  have h2 := fun s hs => (hg.ok s hs).rm
  clear hg
  unfold spS
  induction ss with
  | nil => exact .nil
  | cons s ss ih =>
    rw [List.map_cons, List.nodup_cons] at h1
    have hs := h2 s List.mem_cons_self
    have h2' := fun z hz => h2 z (List.mem_cons_of_mem _ hz)
    rw [List.flatMap_cons, List.map_append, List.nodup_append]
    refine ⟨?_, ih h1.2 h2', ?_⟩
    · unfold spl
      rw [List.map_cons, List.nodup_cons]
      split
      · refine ⟨?_, by simp⟩
        intro h
        have := List.mem_singleton.1 h
        have e : s.1 = m := congrArg Prod.fst this
        omega
      · simp
    · intro a ha b hb e
      obtain ⟨u, hu, rfl⟩ := List.mem_map.1 ha
      obtain ⟨v, hv, rfl⟩ := List.mem_map.1 hb
      obtain ⟨z, hz, e1, _, e3⟩ := sp_mem.1 (show v ∈ spS m r c ss from hv)
      obtain ⟨s', hs', f1, _, f3⟩ := sp_mem.1 (show u ∈ spS m r c [s] by unfold spS; simpa using hu)
      rw [List.mem_singleton.1 hs'] at f1 f3
      have k1 : (keyS u).1 = (keyS v).1 := congrArg Prod.fst e
      have k1 : u.1 = v.1 := k1
      have k2 : (keyS u).2 = (keyS v).2 := congrArg Prod.snd e
      have k2 : u.2.1 = v.2.1 := k2
      have hzm := h2' z hz
      have : keyS s = keyS z := by
        unfold keyS
        rw [show s.2.1 = z.2.1 by rw [← f1, k2, e1], show s.1 = z.1 by
          rcases e3 with e3 | ⟨e3, e4⟩
          · rcases f3 with f3 | ⟨f3, f4⟩
            · rw [← f3, k1, e3]
            · omega
          · rcases f3 with f3 | ⟨f3, f4⟩
            · omega
            · rw [f3, e3]]
      exact h1.1 (by rw [this]; exact List.mem_map.2 ⟨z, hz, rfl⟩)
theorem good_sp (hg : Good m ss) (hr : r < m) (hc : c ≤ 3) (hm : m ≤ 11) (hln : (spS m r c ss).length ≤ 63) (hb : ∀ s ∈ ss, s.2.2.sum < 2 ^ 100) : Good (m + 1) (spS m r c ss) where
  m1 := by omega
  m12 := by omega
  ln := hln
  nd := sp_nd hg
  ok := fun u hu => by
    obtain ⟨s, hs, e1, e2, e3⟩ := sp_mem.1 hu
    have ok := hg.ok s hs
    have hsum := cutW_sum (r := r) ok.ln hr hc
    refine ⟨?_, by rw [e1]; exact ok.nm, by rw [e2]; exact cutW_len ok.ln, by rw [e2, hsum]; have := ok.ps; omega, fun w hw => ?_⟩
    · rcases e3 with e3 | ⟨_, e4⟩
      · have := ok.rm; omega
      · omega
    · rw [e2] at hw
      have h1 := sum_of_mem hw
      rw [hsum] at h1
      have h2 := hb s hs
      have h3 : 3 * s.2.2.sum < 2 ^ 102 := by
        have : (2 : Nat) ^ 102 = 4 * 2 ^ 100 := by decide
        omega
      exact Nat.lt_of_le_of_lt h1 (Nat.lt_trans h3 (Nat.pow_lt_pow_right (by decide) (by decide)))
end
theorem len_prod {ss : List Stp} {m : Nat} {xs : List Str} (nd : (ss.map keyS).Nodup) (rm : ∀ s ∈ ss, s.1 < m) (nm : ∀ s ∈ ss, s.2.1 ∈ xs) : ss.length ≤ m * xs.length := by
  have h := nodup_len (l := ss.map keyS) (ks := (List.range m).flatMap fun r => xs.map fun x => (r, x)) nd fun k hk => by
    obtain ⟨s, hs, rfl⟩ := List.mem_map.1 hk
    exact List.mem_flatMap.2 ⟨s.1, List.mem_range.2 (rm s hs), List.mem_map.2 ⟨s.2.1, nm s hs, rfl⟩⟩
  rw [List.length_map] at h
  have e : ∀ m : Nat, ((List.range m).flatMap fun r => xs.map fun x => (r, x)).length = m * xs.length := fun m => by
    induction m with
    | zero => simp
    | succ m ih => rw [List.range_succ, List.flatMap_append, List.length_append, ih]; simp [Nat.succ_mul]
  have := e m
  omega
def hL (g : Nat → Nat) (C k : Nat) : Nat := (csOf g C).idxOf (g k)
abbrev lxA (xs ys : List PyData) : Bool := PyProof.Rows.lexLt PyProof.Rows.itemOrd (PySem.W.keyToksAll xs) (PySem.W.keyToksAll ys)
theorem natP_alike (a b : Nat) : PySem.W.alike (natP a) (natP b) = true := rfl
theorem natP_lt (a b : Nat) : PySem.W.dataLt (natP a) (natP b) = decide (a < b) := by
  unfold natP
  rw [PySem.W.dataLt_int]
  exact decide_eq_decide.2 (by omega)
theorem rowP_alike (r s : List Nat) : PySem.W.alike (rowP r) (rowP s) = true := by
  unfold rowP
  rw [PySem.W.alike]
  exact alike_nat r s
theorem rowP_eqv (r s : List Nat) : PyData.eqv (rowP r) (rowP s) = decide (r = s) := eqvL natP_eqv r s
def scR (c : Nat) (r : List Nat) : List Nat := r.map fun v => c * v
def scK (c : Nat) (k : Ky) : Ky := (k.1, k.2.map (scR c))
section
variable {c : Nat}
theorem mulL_inj (hc : 0 < c) {a b : Nat} : c * a = c * b ↔ a = b := ⟨fun h => Nat.eq_of_mul_eq_mul_left hc h, fun h => by rw [h]⟩
theorem scR_inj (hc : 0 < c) : ∀ {r s : List Nat}, scR c r = scR c s ↔ r = s := fun {r s} => by
  constructor
  · intro h
    exact (List.map_inj_right fun a b e => (mulL_inj hc).1 e).1 h
  · intro h; rw [h]
theorem scK_inj (hc : 0 < c) {k l : Ky} : scK c k = scK c l ↔ k = l := by
  constructor
  · intro h
    have h1 : k.1 = l.1 := (Prod.mk.inj h).1
    have h2 : k.2.map (scR c) = l.2.map (scR c) := (Prod.mk.inj h).2
    exact Prod.ext h1 ((List.map_inj_right fun a b e => (scR_inj hc).1 e).1 h2)
  · intro h; rw [h]
theorem lxN (hc : 0 < c) : ∀ r s : List Nat, r.length = s.length → lxA ((scR c r).map natP) ((scR c s).map natP) = lxA (r.map natP) (s.map natP)
  | [], [], _ => rfl
  | [], b :: s, h => (by cases h)
  | a :: r, [], h => (by cases h)
  | a :: r, b :: s, h => by
    have ih := lxN hc r s (by simpa using h)
    show lxA (natP (c * a) :: (scR c r).map natP) (natP (c * b) :: (scR c s).map natP) = lxA (natP a :: r.map natP) (natP b :: s.map natP)
    unfold lxA at ih ⊢
    rw [PySem.W.dataLt_cons (natP_alike _ _), PySem.W.dataLt_cons (natP_alike _ _), natP_eqv, natP_eqv, natP_lt, natP_lt, ih]
    by_cases e : a = b
    · subst e; simp
    · rw [if_neg (by simp [mulL_inj hc, e]), if_neg (by simp [e])]
      exact decide_eq_decide.2 (Nat.mul_lt_mul_left hc)
theorem lxR (hc : 0 < c) : ∀ r s : List (List Nat), r.length = s.length → (∀ k, (r.getD k []).length = (s.getD k []).length) → lxA ((r.map (scR c)).map rowP) ((s.map (scR c)).map rowP) = lxA (r.map rowP) (s.map rowP)
  | [], [], _, _ => rfl
  | [], b :: s, h, _ => (by cases h)
  | a :: r, [], h, _ => (by cases h)
  | a :: r, b :: s, h, hl => by
    have ih := lxR hc r s (by simpa using h) fun k => by simpa using hl (k + 1)
    have h0 : a.length = b.length := by simpa using hl 0
    show lxA (rowP (scR c a) :: (r.map (scR c)).map rowP) (rowP (scR c b) :: (s.map (scR c)).map rowP) = lxA (rowP a :: r.map rowP) (rowP b :: s.map rowP)
    unfold lxA at ih ⊢
    rw [PySem.W.dataLt_cons (rowP_alike _ _), PySem.W.dataLt_cons (rowP_alike _ _), rowP_eqv, rowP_eqv, ih]
    by_cases e : a = b
    · subst e; simp
    · rw [if_neg (by simp [scR_inj hc, e]), if_neg (by simp [e])]
      unfold rowP
      rw [PySem.W.dataLt_list, PySem.W.dataLt_list]
      exact lxN hc a b h0
theorem kyP_lt_eq (k l : Ky) : PySem.W.dataLt (kyP k) (kyP l) = if k.1 = l.1 then lxA (k.2.map rowP) (l.2.map rowP) else decide (k.1 < l.1) := by
  obtain ⟨p, r⟩ := k
  obtain ⟨q, s⟩ := l
  show PySem.W.dataLt (.list [.list [.list [natP p]], .list (r.map rowP)]) (.list [.list [.list [natP q]], .list (s.map rowP)]) = _
  have e0 : PyData.eqv (.list [natP p]) (.list [natP q]) = decide (p = q) := by
    show (PyData.eqv (natP p) (natP q) && true) = _
    rw [natP_eqv, Bool.and_true]
  have e1 : PyData.eqv (.list [.list [natP p]]) (.list [.list [natP q]]) = decide (p = q) := by
    show (PyData.eqv (.list [natP p]) (.list [natP q]) && true) = _
    rw [e0, Bool.and_true]
  have ir : PyProof.Rows.lexLt PyProof.Rows.itemOrd (PySem.W.keyToksAll []) (PySem.W.keyToksAll []) = false := PyProof.Rows.lex_irrefl _
  rw [PySem.W.dataLt_list, PySem.W.dataLt_cons (by rfl), e1]
  by_cases e : p = q
  · subst e
    rw [if_pos (by simp), if_pos rfl]
    have al : PySem.W.alike (.list (r.map rowP)) (.list (s.map rowP)) = true := by rw [PySem.W.alike]; exact alike_rows r s
    rw [PySem.W.dataLt_cons al, ir, PySem.W.dataLt_list]
    have ev : PyData.eqv (.list (r.map rowP)) (.list (s.map rowP)) = decide (r = s) := eqvL rowP_eqv r s
    rw [ev]
    by_cases e2 : r = s
    · subst e2
      rw [if_pos (by simp)]
      exact (PyProof.Rows.lex_irrefl _).symm
    · rw [if_neg (by simp [e2])]
  · rw [if_neg (by simp [e]), if_neg e, PySem.W.dataLt_list, PySem.W.dataLt_cons (by rfl), e0, if_neg (by simp [e]), PySem.W.dataLt_list, PySem.W.dataLt_cons (natP_alike _ _), natP_eqv, if_neg (by simp [e]), natP_lt]
theorem kyP_scale (hc : 0 < c) {k l : Ky} (h : k.1 = l.1 → k.2.length = l.2.length ∧ ∀ i, (k.2.getD i []).length = (l.2.getD i []).length) : PySem.W.dataLe false kyP (scK c k) (scK c l) = PySem.W.dataLe false kyP k l := by
  show (!PySem.W.dataLt (kyP (scK c l)) (kyP (scK c k))) = (!PySem.W.dataLt (kyP l) (kyP k))
  rw [kyP_lt_eq, kyP_lt_eq]
  show (!if l.1 = k.1 then _ else _) = _
  by_cases e : l.1 = k.1
  · rw [if_pos e, if_pos e]
    obtain ⟨h1, h2⟩ := h e.symm
    show (!lxA ((l.2.map (scR c)).map rowP) ((k.2.map (scR c)).map rowP)) = _
    rw [lxR hc l.2 k.2 h1.symm fun i => (h2 i).symm]
  · rw [if_neg e, if_neg e]
    rfl
end
theorem dl_tot {κ : Type} (enc : κ → PyData) (a b : κ) : PySem.W.dataLe false enc a b = true ∨ PySem.W.dataLe false enc b a = true := (PySem.W.sortLe_total _ _ _).total a b
theorem rks_rel {κ κ' ι : Type} {le : κ → κ → Bool} {le' : κ' → κ' → Bool} {ks : List κ} {ks' : List κ'} {f : κ → Nat} {f' : κ' → Nat} {I : ι → Prop} {A : ι → κ} {B : ι → κ'} (tot : ∀ a b, le a b = true ∨ le b a = true)
    (h : Rks le ks f) (h' : Rks le' ks' f') (ia : ∀ i, I i → A i ∈ ks) (ib : ∀ i, I i → B i ∈ ks') (ca : ∀ a ∈ ks, ∃ i, I i ∧ A i = a) (cb : ∀ b ∈ ks', ∃ i, I i ∧ B i = b)
    (eq : ∀ i j, I i → I j → (A i = A j ↔ B i = B j)) (hle : ∀ i j, I i → I j → le (A i) (A j) = le' (B i) (B j)) : ∀ i, I i → f (A i) = f' (B i) := by
  have key : ∀ n, ∀ i, I i → f (A i) = n → f' (B i) = n := by
    intro n
    induction n using Nat.strongRecOn with
    | ind n ih =>
      intro i hi e
      rcases Nat.lt_trichotomy (f' (B i)) n with c | c | c
      · obtain ⟨b, hb, eb⟩ := h.dn _ (ia i hi) (f' (B i)) (by omega)
        obtain ⟨j, hj, rfl⟩ := ca b hb
        have h1 := ih _ c j hj eb
        have h2 := h'.eq _ (ib j hj) _ (ib i hi) h1
        rw [(eq j i hj hi).2 h2] at eb
        omega
      · exact c
      · obtain ⟨b, hb, eb⟩ := h'.dn _ (ib i hi) n c
        obtain ⟨j, hj, rfl⟩ := cb b hb
        rcases Nat.lt_trichotomy (f (A j)) n with d | d | d
        · have := ih _ d j hj rfl
          omega
        · have h1 := h.eq _ (ia j hj) _ (ia i hi) (by omega)
          rw [(eq j i hj hi).1 h1] at eb
          omega
        · have hne : A i ≠ A j := fun z => by rw [z] at e; omega
          rcases tot (A i) (A j) with l | l
          · have h1 := (hle i j hi hj).symm.trans l
            have := h'.lt _ (ib i hi) _ (ib j hj) h1 fun z => hne ((eq i j hi hj).2 z)
            omega
          · have := h.lt _ (ia j hj) _ (ia i hi) l (Ne.symm hne)
            omega
  exact fun i hi => (key _ i hi rfl).symm
structure Bi2 (Ka : Nat) (Sa : List Stp) (Kb : Nat) (Sb : List Stp) (E : Nat → Nat → Prop) : Prop where
  lt : ∀ x y, E x y → x < Ka ∧ y < Kb
  men : ∀ x y, E x y → menuS Sa x = menuS Sb y
  ms : ∀ x y, E x y → ∀ a ∈ menuS Sa x, ∀ g h : Nat → Nat, (∀ u w, E u w → g u = h w) → ∀ c, csum (Ka, Sa) g x a c = csum (Kb, Sb) h y a c
  tl : ∀ x, x < Ka → ∃ y, E x y
  tr : ∀ y, y < Kb → ∃ x, E x y
section
variable {Ka Kb Wa Wb : Nat} {Sa Sb : List Stp} {E : Nat → Nat → Prop} {pa pb qa qb : Nat → Nat → Nat}
abbrev one (K : Nat) (S : List Stp) : Nat → Mch := fun _ => (K, S)
theorem rm_one {K : Nat} {S : List Stp} {i x : Nat} : Rm 1 (one K S) i x ↔ i = 0 ∧ x < K := ⟨fun h => ⟨by have := h.1; omega, h.2⟩, fun h => ⟨by omega, h.2⟩⟩
theorem rms_one (K : Nat) (S : List Stp) {q : Nat × Nat} : q ∈ rms 1 (one K S) ↔ q.1 = 0 ∧ q.2 < K := by
  rw [show q = (q.1, q.2) from rfl, rms_mem]
  exact rm_one
theorem rw_len {ss : List Stp} {m K W r : Nat} {g : Nat → Nat} : (rwN ss m g K W r).length = (menuS ss r).length ∧ ∀ i, i < (menuS ss r).length → ((rwN ss m g K W r).getD i []).length = K := by
  unfold rwN
  refine ⟨by rw [List.length_map], fun i hi => ?_⟩
  rw [List.getD_eq_getElem?_getD, List.getElem?_map, List.getElem?_eq_getElem hi]
  simp
theorem rw_lens {ss ss' : List Stp} {m m' K W r r' : Nat} {g g' : Nat → Nat} (h : menuS ss r = menuS ss' r') : (rwN ss m g K W r).length = (rwN ss' m' g' K W r').length ∧ ∀ i, ((rwN ss m g K W r).getD i []).length = ((rwN ss' m' g' K W r').getD i []).length := by
  obtain ⟨h1, h2⟩ := rw_len (ss := ss) (m := m) (K := K) (W := W) (r := r) (g := g)
  obtain ⟨h3, h4⟩ := rw_len (ss := ss') (m := m') (K := K) (W := W) (r := r') (g := g')
  refine ⟨by rw [h1, h3, h], fun i => ?_⟩
  by_cases hi : i < (menuS ss r).length
  · rw [h2 i hi, h4 i (by rw [← h]; exact hi)]
  · rw [List.getD_eq_getElem?_getD, List.getElem?_eq_none (by omega), List.getD_eq_getElem?_getD, List.getElem?_eq_none (by rw [h3, ← h]; omega)]
theorem Bi2.next (B : Bi2 Ka Sa Kb Sb E) (oa : MsOk 1 (one Ka Sa) Wa) (ob : MsOk 1 (one Kb Sb) Wb) (Pa : PlcP 1 (one Ka Sa) pa) (Pb : PlcP 1 (one Kb Sb) pb) (ih : ∀ x y, E x y → pa 0 x = pb 0 y)
    (na : NextP 1 (one Ka Sa) Wa pa qa) (nb : NextP 1 (one Kb Sb) Wb pb qb) : ∀ x y, E x y → qa 0 x = qb 0 y := by
  obtain ⟨Na, fa, a1, ⟨ia, xa, ra, a2⟩, a3, a4⟩ := na
  obtain ⟨Nb, fb, b1, ⟨ib, xb, rb, b2⟩, b3, b4⟩ := nb
  have eN : Na = Nb := by
    obtain ⟨rfl, hxa⟩ := rm_one.1 ra
    obtain ⟨rfl, hxb⟩ := rm_one.1 rb
    obtain ⟨y, hy⟩ := B.tl xa hxa
    obtain ⟨x, hx⟩ := B.tr xb hxb
    have h1 := b1 0 y (rm_one.2 ⟨rfl, (B.lt _ _ hy).2⟩)
    have h2 := a1 0 x (rm_one.2 ⟨rfl, (B.lt _ _ hx).1⟩)
    rw [← ih _ _ hy] at h1
    rw [ih _ _ hx] at h2
    omega
  subst eN
  have wa := oa.w0
  have wb := ob.w0
  have Ra : ∀ {x y}, E x y → Rm 1 (one Ka Sa) 0 x := fun h => rm_one.2 ⟨rfl, (B.lt _ _ h).1⟩
  have Rb : ∀ {x y}, E x y → Rm 1 (one Kb Sb) 0 y := fun h => rm_one.2 ⟨rfl, (B.lt _ _ h).2⟩
  have key : ∀ x y, E x y → scK Wb (keyF (one Ka Sa) pa Na Wa 0 x) = scK Wa (keyF (one Kb Sb) pb Na Wb 0 y) := fun x y h => by
    have hm := B.men x y h
    refine Prod.ext (ih x y h) ?_
    show (rwN Sa Ka (pa 0) Na Wa x).map (scR Wb) = (rwN Sb Kb (pb 0) Na Wb y).map (scR Wa)
    unfold rwN
    rw [List.map_map, List.map_map, ← hm]
    refine List.map_congr_left fun a ha => ?_
    show scR Wb ((List.range Na).map _) = scR Wa ((List.range Na).map _)
    unfold scR
    rw [List.map_map, List.map_map]
    refine List.map_congr_left fun c _ => ?_
    show Wb * sN Sa Ka (pa 0) Wa x a c = Wa * sN Sb Kb (pb 0) Wb y a c
    have e1 := sN_csum (oa.gd 0 (by decide)) (pa 0) ha (oa.dv 0 (by decide)) c
    have e2 := sN_csum (ob.gd 0 (by decide)) (pb 0) (by rw [← hm]; exact ha) (ob.dv 0 (by decide)) c
    have e3 := B.ms x y h a ha (pa 0) (pb 0) ih c
    have e4 : ((Wb * sN Sa Ka (pa 0) Wa x a c : Nat) : Rat) = ((Wa * sN Sb Kb (pb 0) Wb y a c : Nat) : Rat) := by
      rw [Rat.natCast_mul, Rat.natCast_mul]
      have e1 : ((sN Sa Ka (pa 0) Wa x a c : Nat) : Rat) = (Wa : Rat) * csum (Ka, Sa) (pa 0) x a c := e1
      have e2 : ((sN Sb Kb (pb 0) Wb y a c : Nat) : Rat) = (Wb : Rat) * csum (Kb, Sb) (pb 0) y a c := e2
      rw [e1, e2, e3]
      grind
    exact_mod_cast e4
  have lenA : ∀ {x x' y y'}, E x y → E x' y' → (keyF (one Ka Sa) pa Na Wa 0 x).1 = (keyF (one Ka Sa) pa Na Wa 0 x').1 → (keyF (one Ka Sa) pa Na Wa 0 x).2.length = (keyF (one Ka Sa) pa Na Wa 0 x').2.length ∧ ∀ i, ((keyF (one Ka Sa) pa Na Wa 0 x).2.getD i []).length = ((keyF (one Ka Sa) pa Na Wa 0 x').2.getD i []).length := fun h h' e => rw_lens (Pa.men 0 _ 0 _ (Ra h) (Ra h') e)
  have lenB : ∀ {x x' y y'}, E x y → E x' y' → (keyF (one Kb Sb) pb Na Wb 0 y).1 = (keyF (one Kb Sb) pb Na Wb 0 y').1 → (keyF (one Kb Sb) pb Na Wb 0 y).2.length = (keyF (one Kb Sb) pb Na Wb 0 y').2.length ∧ ∀ i, ((keyF (one Kb Sb) pb Na Wb 0 y).2.getD i []).length = ((keyF (one Kb Sb) pb Na Wb 0 y').2.getD i []).length := fun h h' e => rw_lens (Pb.men 0 _ 0 _ (Rb h) (Rb h') e)
  have go := rks_rel (ι := Nat × Nat) (I := fun i => E i.1 i.2) (A := fun i => keyF (one Ka Sa) pa Na Wa 0 i.1) (B := fun i => keyF (one Kb Sb) pb Na Wb 0 i.2) (dl_tot _) a3 b3 (fun i hi => key_mem (Ra hi)) (fun i hi => key_mem (Rb hi))
    (fun k hk => by
      obtain ⟨q, hq, rfl⟩ := List.mem_map.1 hk
      obtain ⟨q1, q2⟩ := (rms_one Ka Sa).1 hq
      obtain ⟨y, hy⟩ := B.tl q.2 q2
      exact ⟨(q.2, y), hy, by rw [q1]⟩)
    (fun k hk => by
      obtain ⟨q, hq, rfl⟩ := List.mem_map.1 hk
      obtain ⟨q1, q2⟩ := (rms_one Kb Sb).1 hq
      obtain ⟨x, hx⟩ := B.tr q.2 q2
      exact ⟨(x, q.2), hx, by rw [q1]⟩)
    (fun i j hi hj => by
      rw [← scK_inj wb, key _ _ hi, key _ _ hj, scK_inj wa])
    (fun i j hi hj => by
      rw [← kyP_scale wb (lenA hi hj), key _ _ hi, key _ _ hj, kyP_scale wa (lenB hi hj)])
  intro x y h
  rw [a4 0 x (Ra h), b4 0 y (Rb h)]
  exact go (x, y) h
theorem Bi2.cn (B : Bi2 Ka Sa Kb Sb E) (oa : MsOk 1 (one Ka Sa) Wa) (ob : MsOk 1 (one Kb Sb) Wb) : ∀ k pa pb, CnP 1 (one Ka Sa) Wa k pa → CnP 1 (one Kb Sb) Wb k pb → ∀ x y, E x y → pa 0 x = pb 0 y := by
  intro k
  induction k with
  | zero =>
    intro pa pb ca cb x y h
    cases ca with
    | zero fa ha ea =>
      cases cb with
      | zero fb hb eb =>
        have Ra : ∀ {x y}, E x y → Rm 1 (one Ka Sa) 0 x := fun h => rm_one.2 ⟨rfl, (B.lt _ _ h).1⟩
        have Rb : ∀ {x y}, E x y → Rm 1 (one Kb Sb) 0 y := fun h => rm_one.2 ⟨rfl, (B.lt _ _ h).2⟩
        have go := rks_rel (ι := Nat × Nat) (I := fun i => E i.1 i.2) (A := fun i => menuS Sa i.1) (B := fun i => menuS Sb i.2) (dl_tot _) ha hb (fun i hi => List.mem_map.2 ⟨(0, i.1), rms_mem.2 (Ra hi), rfl⟩) (fun i hi => List.mem_map.2 ⟨(0, i.2), rms_mem.2 (Rb hi), rfl⟩)
          (fun k hk => by
            obtain ⟨q, hq, rfl⟩ := List.mem_map.1 hk
            obtain ⟨q1, q2⟩ := (rms_one Ka Sa).1 hq
            obtain ⟨y, hy⟩ := B.tl q.2 q2
            exact ⟨(q.2, y), hy, rfl⟩)
          (fun k hk => by
            obtain ⟨q, hq, rfl⟩ := List.mem_map.1 hk
            obtain ⟨q1, q2⟩ := (rms_one Kb Sb).1 hq
            obtain ⟨x, hx⟩ := B.tr q.2 q2
            exact ⟨(x, q.2), hx, rfl⟩)
          (fun i j hi hj => by rw [B.men _ _ hi, B.men _ _ hj])
          (fun i j hi hj => by rw [B.men _ _ hi, B.men _ _ hj])
        rw [ea 0 x (Ra h), eb 0 y (Rb h)]
        exact go (x, y) h
  | succ k ih =>
    intro pa pb ca cb x y h
    cases ca with
    | succ Pa ca na =>
      cases cb with
      | succ Pb cb nb => exact B.next oa ob Pa Pb (ih _ _ ca cb) na nb x y h
theorem next_on {n : Nat} {M : Nat → Mch} {W : Nat} {p p' q q' : Nat → Nat → Nat} (h : NextP n M W p p') (e2 : ∀ i x, Rm n M i x → p' i x = q' i x) : NextP n M W p q' := by
  obtain ⟨K, f, h1, h2, h3, h4⟩ := h
  exact ⟨K, f, h1, h2, h3, fun i x r => by rw [← e2 i x r]; exact h4 i x r⟩
theorem cn_stay {n : Nat} {M : Nat → Mch} {W k : Nat} {p p' : Nat → Nat → Nat} (P : PlcP n M p) (c : CnP n M W k p) (nx : NextP n M W p p') (e : ∀ i x, Rm n M i x → p' i x = p i x) : ∀ j, CnP n M W (k + j) p
  | 0 => c
  | j + 1 => .succ P (cn_stay P c nx e j) (next_on (q := p) nx e)
theorem Bi2.can (B : Bi2 Ka Sa Kb Sb E) (Pa : PlcP 1 (one Ka Sa) pa) (Pb : PlcP 1 (one Kb Sb) pb) (ca : CanP 1 (one Ka Sa) pa) (cb : CanP 1 (one Kb Sb) pb) : ∀ x y, E x y → pa 0 x = pb 0 y := by
  obtain ⟨W, k, p', o, c, nx, e⟩ := ca
  obtain ⟨W', k', q', o', c', nx', e'⟩ := cb
  have h1 := cn_stay Pa c nx e k'
  have h2 := cn_stay Pb c' nx' e' k
  rw [Nat.add_comm] at h2
  exact B.cn o o' _ _ _ h1 h2
end
open FM (Bq)
end Far
namespace Pw
open PySem PySem.Spec PyProof.Rows L2
end Pw
namespace Far
open PySem PySem.Spec PyProof.Rows L2 Pw Cg
open FM (Bq)
end Far
namespace Pw
open PySem PySem.Spec PyProof.Rows L2
end Pw
namespace Far
open PySem PySem.Spec PyProof.Rows L2 Pw Cg
inductive Spls (m0 : Nat) (ss0 : List Stp) : Nat → Nat → List Stp → Prop
  | zero : Spls m0 ss0 0 m0 ss0
  | succ {n m : Nat} {ss : List Stp} {o : List Nat} {r c : Nat} : Spls m0 ss0 n m ss → o.Perm (List.range (m + 1)) → ordA o 0 = 0 → r < m → c ≤ 3 → Spls m0 ss0 (n + 1) (m + 1) (mvS o (spS m r c ss))
theorem Quo.same {m : Nat} {ss : List Stp} : Quo m ss m ss (fun _ => True) fun k => k where
  lt := fun k hk _ => hk
  men := fun _ _ _ => rfl
  st := fun _ _ _ _ _ _ _ _ => trivial
  ms := fun k hk _ a ha x hx => by
    rw [sm_congr (g := fun u => if x = u then hpF ss k a x else 0) fun u _ => by
      by_cases e : u = x
      · rw [if_pos e, if_pos e.symm, e]
      · rw [if_neg e, if_neg (fun z => e z.symm)]]
    exact sm_oneW _ hx
section
variable {m0 n m : Nat} {ss0 ss : List Stp}
theorem Spls.rooms (h : Spls m0 ss0 n m ss) : m = m0 + n := by
  induction h with
  | zero => rfl
  | succ _ _ _ _ _ ih => omega
theorem Spls.names (h : Spls m0 ss0 n m ss) {xs : List Str} (hx : ∀ s ∈ ss0, s.2.1 ∈ xs) : ∀ s ∈ ss, s.2.1 ∈ xs := by
  induction h with
  | zero => exact hx
  | succ h _ _ _ _ ih =>
    intro u hu
    obtain ⟨v, hv, rfl⟩ := List.mem_map.1 hu
    obtain ⟨s, hs, e1, _, _⟩ := sp_mem.1 hv
    show v.2.1 ∈ xs
    rw [e1]
    exact ih s hs
theorem Spls.good (h : Spls m0 ss0 n m ss) (hg : Good m0 ss0) (hm : m0 + n ≤ 12) {xs : List Str} (hx : ∀ s ∈ ss0, s.2.1 ∈ xs) (hl : (m0 + n) * xs.length ≤ 63) (hn : n ≤ 4) (hB : ∀ s ∈ ss0, s.2.2.sum < 2 ^ 80) : Good m ss ∧ ∀ u ∈ ss, ∃ s ∈ ss0, u.2.2.sum = 3 ^ n * s.2.2.sum := by
  induction h with
  | zero => exact ⟨hg, fun u hu => ⟨u, hu, by omega⟩⟩
  | @succ n m ss o r c h ho _ hr hc ih =>
    have hle : (m0 + n) * xs.length ≤ (m0 + (n + 1)) * xs.length := Nat.mul_le_mul_right _ (by omega)
    obtain ⟨g, hs⟩ := ih (by omega) (by omega) (by omega)
    have hmn := h.rooms
    have hb : ∀ s ∈ ss, s.2.2.sum < 2 ^ 100 := fun s h1 => by
      obtain ⟨s0, h2, e⟩ := hs s h1
      have h3 := hB s0 h2
      have h4 : 3 ^ n ≤ 3 ^ 4 := Nat.pow_le_pow_right (by decide) (by omega)
      have h5 : 3 ^ n * s0.2.2.sum ≤ 3 ^ 4 * s0.2.2.sum := Nat.mul_le_mul_right _ h4
      have h6 : (2 : Nat) ^ 100 = 2 ^ 20 * 2 ^ 80 := by decide
      omega
    have hrm : ∀ u ∈ spS m r c ss, u.1 < m + 1 := fun u hu => by
      obtain ⟨s, hs, _, _, e3⟩ := sp_mem.1 hu
      have := (g.ok s hs).rm
      omega
    have hnm : ∀ u ∈ spS m r c ss, u.2.1 ∈ xs := fun u hu => by
      obtain ⟨s, hs, e1, _, _⟩ := sp_mem.1 hu
      rw [e1]
      exact h.names hx s hs
    have hlp := len_prod (sp_nd (r := r) (c := c) g) hrm hnm
    have hle2 : (m + 1) * xs.length ≤ 63 := by rw [hmn]; exact hl
    have g2 := good_sp g hr hc (by omega) (Nat.le_trans hlp hle2) hb
    refine ⟨good_mv ho g2, fun u hu => ?_⟩
    obtain ⟨v, hv, rfl⟩ := List.mem_map.1 hu
    obtain ⟨s, h1, _, e2, _⟩ := sp_mem.1 hv
    obtain ⟨s0, h2, e⟩ := hs s h1
    refine ⟨s0, h2, ?_⟩
    show (o.map fun k => v.2.2.getD k 0).sum = _
    rw [mv_sum ho (g2.ok v hv).ln, e2, cutW_sum (g.ok s h1).ln hr hc, e, Nat.pow_succ, Nat.mul_comm (3 ^ n) 3, Nat.mul_assoc]
end
end Far
namespace Pw
open PySem PySem.Spec PyProof.Rows L2
open Evl (Ex ex_l ex_t fresh_back)
section
variable {K : PySem.W.Frag} {H : Hp}
mutual
theorem dp_nodict : ∀ (d : PyData) (v : V), Dp K H v d → d.hasDict = false
  | .none, _, _ => rfl
  | .bool _, _, _ => rfl
  | .int _, _, _ => rfl
  | .str _, _, _ => rfl
  | .list ds, _, h => by
    cases h with
    | lst _ ha =>
      rw [PyData.hasDict]
      exact dp_nodictL ds _ ha
  | .tuple ds, _, h => by
    cases h with
    | tup _ ha =>
      rw [PyData.hasDict]
      exact dp_nodictL ds _ ha
  | .dict _, _, h => by cases h
theorem dp_nodictL : ∀ (ds : List PyData) (vs : List V), DpAll K H vs ds → PyData.hasDictAll ds = false
  | [], _, _ => rfl
  | d :: ds, _, h => by
    cases h with
    | cons h1 h2 =>
      rw [PyData.hasDictAll, dp_nodict d _ h1, dp_nodictL ds _ h2]
      rfl
end
end
structure ShowOk (d : PyData) : Prop where
  seq : ∃ xs, d = .list xs ∨ d = .tuple xs
  sh : d.showable = true
  dep : d.depth ≤ 100
  len : d.shown.length ≤ sizeLine
def rReprD (K : PySem.W.Frag) : List V → Hp → VK → Prop := fun xs H Q => ∃ x d, xs = [x] ∧ Dp K H x d ∧ ShowOk d ∧ Q (.str d.shown) H
theorem call_reprD {X : Cx} {k : Nat} (hg : X.A.guards = some []) (hr : Room k X.A) : CallR X (.builtin "repr") (rReprD X.K) := by
  intro pins s σ H xs us Q I r h
  have hu := hr.un
  obtain ⟨x, d, rfl, hd, ok, q⟩ := h
  have key : ∀ a, x = .ref a → wpAny (model X.prog X.w) X.A (call (.builtin "repr") us) (EP X pins σ Q) X.xe s := fun a e => by
    subst e
    rw [Vals.ref1 r]
    obtain ⟨as, R⟩ := Dp.reads I d _ _ hd rfl
    have dep := ok.dep
    exact repr_of_reads' R ok.sh (PyData.noDict_hsm (dp_nodict d _ hd)) hg (by omega) (fun _ _ e => e) (fun h' u tk hk => ⟨.str _, H, I.kept hk, ⟨u, rfl⟩, q⟩) ok.len
  obtain ⟨xs, e | e⟩ := ok.seq
  · subst e
    cases hd with
    | lst _ _ => exact key _ rfl
  · subst e
    cases hd with
    | tup _ _ => exact key _ rfl
section
variable {T : Cfg} {W : WX} {ρ : List (Option D)} {m0 : Mu} {XP : XW} {P : D → Mu → Prop} {μ : Mu}
theorem cv_repr {d : D} {p : PyData} (hd : DPy d p) (ok : ShowOk p) (k : P (.str p.shown) μ) : CV T (rReprD T.K) [d] μ P := cv_of (fun xs Hb H Q ex r q => by
  obtain ⟨v, rfl, r1⟩ := one_inv r
  exact ⟨v, p, rfl, DPy.dp ex p d v hd r1, ok, q _ (.str _)⟩) k
end
theorem show_of {B : Nat} {d : PyData} (hs : ∃ xs, d = .list xs ∨ d = .tuple xs) (h1 : d.showable = true) (h2 : d.depth ≤ 100) (h3 : d.leavesShort B = true) (h8 : 8 ≤ B) (h4 : (B + 2) * d.weight + B ≤ 16777216) : ShowOk d :=
  ⟨hs, h1, h2, by have := PyData.shown_le B h8 d h3; rw [sizeLine_eq]; omega⟩
structure FnOkG (P : Program) (w : World) (K : PySem.W.Frag) (mg : Str → Option Value) (base : PySem.Heap) (CX : CXT) (k : Nat) (f : Addr) (fd : FuncData) (ps : List Str) (sp : Sp) : Prop where
  len : ∀ vs H Q E, sp vs H Q E → vs.length = ps.length
  run : ∀ (A : Around) (outer : List Env) (s : Shared) (H : Hp) (args : Args) (us : List Value) (vs : List V) (Q : VK) (E : XK), A.guards = some [] → Room k A → Env0 P w K mg base A outer s H → BindsTo s fd args (ps.zip us) → Vals vs us → sp vs H Q E →
    codeAny (model P w) A (.call (.ref f) args) (CR CX outer P w H s Q E) s
theorem FnOkG.imp {P : Program} {w : World} {K : PySem.W.Frag} {mg : Str → Option Value} {base : PySem.Heap} {CX : CXT} {k : Nat} {f : Addr} {fd : FuncData} {ps : List Str} {sp sp' : Sp} (F : FnOkG P w K mg base CX k f fd ps sp)
    (h : ∀ vs H Q E, sp' vs H Q E → sp vs H Q E) : FnOkG P w K mg base CX k f fd ps sp' :=
  ⟨fun vs H Q E q => F.len vs H Q E (h _ _ _ _ q), fun A outer s H args us vs Q E hg hr he hb hv hs => F.run A outer s H args us vs Q E hg hr he hb hv (h _ _ _ _ hs)⟩
section
variable {P : Program} {w : World} {K : PySem.W.Frag} {mg : Str → Option Value} {base : PySem.Heap} {x qual : Str} {params : Arguments} {body : List Stmt} {scope : Scope} {dvs : List V} {kws : List (Str × V)} {f : Addr} {fd : FuncData}
theorem okG {CX : CXT} {N ps : List Str} {k : Nat} {sp : Sp} (F : FunD K x qual params body scope dvs kws f fd) (S : FnScope N ps scope) (len : ∀ vs H Q E, sp vs H Q E → vs.length = ps.length)
    (hbody : ∀ (cdv : Value) (A : Around) (outer : List Env) (s : Shared) (H : Hp) (vs : List V) (Q : VK) (E : XK), A.guards = some [] → Room k (A.deeper (envOfC qual scope s.heap.objs.size f cdv)) → sp vs H Q E →
      ∃ t, PSs (cxOf CX P w K mg base N qual scope f cdv A outer s H E) body t ∧ t { nx := fun _ H' => Q .non H', rt := Q } (start N vs) H) : FnOkG P w K mg base CX (k + 1) f fd ps sp := by
  obtain ⟨oc, od, dV, kV, doc, pm, an, cdv, ct, osl, rfl, lk, hcd, _, _⟩ := F.ex
  refine ⟨len, fun A outer s H args us vs Q E hg hr e0 hb r hsp => ?_⟩
  have KX : K.In s.heap := e0.mod.kin.keeps fun b o e => (e0.bs b o e).1
  have lim : s.heap.NoLimit := e0.mod.nolimit.keeps fun b o e => (e0.bs b o e).1
  have kind : ∀ y ∈ ps.zip us, scope.names.lookup y.1 = some .local ∨ (scope.names.lookup y.1 = some .cell ∧ ((cellsFrom (s.heap.objs.size + 1) scope.names []).lookup y.1).isSome = true) := fun y hy =>
    (S.par y.1 (List.of_mem_zip hy).1).imp id fun q => ⟨q, PySem.W.cellsFrom_some _ _ _ (.inl q)⟩
  refine codeAny_call_function hr.depth (KX _ _ lk) rfl S.co S.gen rfl (PySem.W.codeRec_of KX hcd) (hb _ _ _ _ (wpAny_newFunctionEnv_cells S.kind kind fun env he s1 x => ?_))
  subst he
  refine ⟨lim.keeps x.toInCall.keep, codeAny_func ?_⟩
  obtain ⟨t, ht, hq⟩ := hbody cdv A outer s H vs Q E hg (hr.deeper _) hsp
  have I := inv_start (CX := CX) (E := E) (cd := cdv) (qual := qual) S hr.hd e0 (len _ _ _ _ hsp) r x
  refine wpAny_mono (ht.run [] s1 (start N vs) H _ I hq) (fun fl s' hs => ?_) fun e s' hs => hs
  match fl, hs with
  | .ret u, ⟨v, σ', H', J, rv, q⟩ => exact ⟨v, H', J.os, J.bare, J.base, J.hok, rv, q⟩
  | .next, ⟨σ', H', J, q⟩ => exact ⟨.non, H', J.os, J.bare, J.base, J.hok, rfl, q⟩
  | .brk, ⟨_, _, _, q⟩ => exact q.elim
  | .cont, ⟨_, _, _, q⟩ => exact q.elim
end
end Pw
namespace Far
open PySem PySem.Spec PyProof.Rows L2 Pw Cg
structure Bz (ma : Nat) (sa : List Stp) (mb : Nat) (sb : List Stp) (E : Nat → Nat → Prop) : Prop where
  lt : ∀ x y, E x y → x < ma ∧ y < mb
  men : ∀ x y, E x y → menuS sa x = menuS sb y
  fw : ∀ x y, E x y → ∀ a ∈ menuS sa x, ∀ u, u < ma → hpF sa x a u ≠ 0 → ∃ w, w < mb ∧ hpF sb y a w ≠ 0 ∧ E u w
  bw : ∀ x y, E x y → ∀ a ∈ menuS sa x, ∀ w, w < mb → hpF sb y a w ≠ 0 → ∃ u, u < ma ∧ hpF sa x a u ≠ 0 ∧ E u w
  ms : ∀ x y, E x y → ∀ a ∈ menuS sa x, ∀ g h : Nat → Nat, (∀ u w, u < ma → w < mb → hpF sa x a u ≠ 0 → hpF sb y a w ≠ 0 → E u w → g u = h w) → ∀ c, csum (ma, sa) g x a c = csum (mb, sb) h y a c
section
variable {ma mb mz Ka Kb : Nat} {sa sb sz Sa Sb : List Stp} {E F : Nat → Nat → Prop}
theorem Bz.symm (B : Bz ma sa mb sb E) : Bz mb sb ma sa fun y x => E x y where
  lt := fun y x h => (B.lt x y h).symm
  men := fun y x h => (B.men x y h).symm
  fw := fun y x h a ha => B.bw x y h a (by rw [B.men x y h]; exact ha)
  bw := fun y x h a ha => B.fw x y h a (by rw [B.men x y h]; exact ha)
  ms := fun y x h a ha g k hgk c => (B.ms x y h a (by rw [B.men x y h]; exact ha) k g (fun u w hu hw h1 h2 h3 => (hgk w u hw hu h2 h1 h3).symm) c).symm
theorem Bz.comp (A : Bz ma sa mz sz E) (B : Bz mz sz mb sb F) : Bz ma sa mb sb fun x y => ∃ z, E x z ∧ F z y where
  lt := fun x y ⟨z, h1, h2⟩ => ⟨(A.lt x z h1).1, (B.lt z y h2).2⟩
  men := fun x y ⟨z, h1, h2⟩ => (A.men x z h1).trans (B.men z y h2)
  fw := fun x y ⟨z, h1, h2⟩ a ha u hu hn => by
    obtain ⟨v, hv, nv, ev⟩ := A.fw x z h1 a ha u hu hn
    obtain ⟨w, hw, nw, ew⟩ := B.fw z y h2 a (by rw [← A.men x z h1]; exact ha) v hv nv
    exact ⟨w, hw, nw, v, ev, ew⟩
  bw := fun x y ⟨z, h1, h2⟩ a ha w hw hn => by
    obtain ⟨v, hv, nv, ev⟩ := B.bw z y h2 a (by rw [← A.men x z h1]; exact ha) w hw hn
    obtain ⟨u, hu, nu, eu⟩ := A.bw x z h1 a ha v hv nv
    exact ⟨u, hu, nu, v, eu, ev⟩
  ms := fun x y ⟨z, h1, h2⟩ a ha g h hgh c => by
    have ha2 : a ∈ menuS sz z := by rw [← A.men x z h1]; exact ha
    classical
    let k : Nat → Nat := fun v => if hh : ∃ u, u < ma ∧ hpF sa x a u ≠ 0 ∧ E u v then g hh.choose else 0
    have kv : ∀ v, v < mz → hpF sz z a v ≠ 0 → ∃ u, (u < ma ∧ hpF sa x a u ≠ 0 ∧ E u v) ∧ k v = g u := fun v hv nv => by
      have hh : ∃ u, u < ma ∧ hpF sa x a u ≠ 0 ∧ E u v := A.bw x z h1 a ha v hv nv
      exact ⟨hh.choose, hh.choose_spec, dif_pos hh⟩
    rw [A.ms x z h1 a ha g k (fun u v hu hv nu nv e => by
      obtain ⟨u0, ⟨h0, n0, e0⟩, ek⟩ := kv v hv nv
      obtain ⟨w, hw, nw, ew⟩ := B.fw z y h2 a ha2 v hv nv
      rw [ek, hgh u w hu hw nu nw ⟨v, e, ew⟩, hgh u0 w h0 hw n0 nw ⟨v, e0, ew⟩]) c]
    exact B.ms z y h2 a ha2 k h (fun v w hv hw nv nw e => by
      obtain ⟨u0, ⟨h0, n0, e0⟩, ek⟩ := kv v hv nv
      rw [ek, hgh u0 w h0 hw n0 nw ⟨v, e0, e⟩]) c
end
open PySem PySem.Spec PyProof.Rows L2 Pw
structure BkOk (T : Cfg) : Prop where
  ma : MaOk T
  ec : T.cls 0 = T.cls 1
  sb : ∀ n ∈ bkTys, PySem.W.subIn T.K (.ref (T.cls 1)) (.type n) = some false
theorem shp {ps : List PyData} (l : PyData.canLayAll0 ps = true) (d : PyData.depthAll ps ≤ 8) : SeqAt.shaped (.list ps) = true := by
  have l : PyData.canLay0 (.list ps) = true := by unfold PyData.canLay0; exact l
  have d : PyData.depth (.list ps) ≤ 9 := by rw [PyData.depth]; omega
  unfold SeqAt.shaped
  rw [l, decide_eq_true (by omega)]
  rfl
theorem BkOk.ic {T : Cfg} (h : BkOk T) : InsCls T.K (T.cls 1) := h.ec ▸ h.ma.sh.ic
def scS (c : Nat) (s : Stp) : Stp := (s.1, s.2.1, (s.2.2.map fun w => c * w) ++ [0])
theorem sum_mulL (c : Nat) : ∀ ws : List Nat, (ws.map fun w => c * w).sum = c * ws.sum
  | [] => by simp
  | w :: ws => by rw [List.map_cons, List.sum_cons, sum_mulL c ws, List.sum_cons, Nat.mul_add]
theorem scS_sum (c : Nat) (s : Stp) : (scS c s).2.2.sum = c * s.2.2.sum := by
  show ((s.2.2.map fun w => c * w) ++ [0]).sum = _
  rw [List.sum_append, sum_mulL]
  simp
structure Mor (m : Nat) (us : List Stp) (c : Nat) (xs : List Str) (vs : List Stp) : Prop where
  ex : ∃ ex : List Stp, vs = us.map (scS c) ++ ex ∧ ex.length ≤ 1 ∧ ∀ s ∈ ex, s.1 = m ∧ s.2.1 ∈ xs ∧ s.2.2.length = m + 1 ∧ 0 < s.2.2.sum ∧ s.2.2.sum ≤ 54
section
variable {m c : Nat} {us vs : List Stp} {xs : List Str}
theorem Mor.good (h : Mor m us c xs vs) (hg : Good m us) (hc : 0 < c) (c4 : c ≤ 4) (hm : m ≤ 11) (hl : us.length ≤ 62) (hx : ∀ x ∈ xs, nmB x = true) (hB : ∀ s ∈ us, s.2.2.sum < 2 ^ 100) : Good (m + 1) vs := by
  obtain ⟨ex, rfl, hl1, he⟩ := h.ex
  refine ⟨by omega, by omega, by rw [List.length_append, List.length_map]; omega, ?_, fun s hs => ?_⟩
  · rw [List.map_append, List.map_map]
    refine List.nodup_append.2 ⟨?_, ?_, fun a ha b hb e => ?_⟩
    · have : us.map (keyS ∘ scS c) = us.map keyS := List.map_congr_left fun s _ => rfl
      rw [this]
      exact hg.nd
    · match ex, hl1 with
      | [], _ => exact List.nodup_nil
      | [s], _ => simp
      | _ :: _ :: _, h => exact absurd h (by simp)
    · obtain ⟨s, hs, rfl⟩ := List.mem_map.1 ha
      obtain ⟨t, ht, rfl⟩ := List.mem_map.1 hb
      have h1 := (hg.ok s hs).rm
      have h2 := (he t ht).1
      have h3 : s.1 = t.1 := (Prod.mk.inj e).1
      omega
  · rcases List.mem_append.1 hs with hs | hs
    · obtain ⟨t, ht, rfl⟩ := List.mem_map.1 hs
      have ok := hg.ok t ht
      refine ⟨by show t.1 < m + 1; have := ok.rm; omega, ok.nm, by show ((t.2.2.map _) ++ [0]).length = m + 1; rw [List.length_append, List.length_map, ok.ln]; rfl, by rw [scS_sum]; exact Nat.mul_pos hc ok.ps, fun w hw => ?_⟩
      have h1 := sum_of_mem hw
      rw [scS_sum] at h1
      have h2 := hB t ht
      have h3 : c * t.2.2.sum ≤ 4 * t.2.2.sum := Nat.mul_le_mul_right _ c4
      have h4 : 4 * t.2.2.sum < 2 ^ 102 := by
        have : (2 : Nat) ^ 102 = 4 * 2 ^ 100 := by decide
        omega
      exact Nat.lt_of_le_of_lt h1 (Nat.lt_of_le_of_lt h3 (Nat.lt_trans h4 (Nat.pow_lt_pow_right (by decide) (by decide))))
    · obtain ⟨h1, h2, h3, h4, h5⟩ := he s hs
      refine ⟨by omega, hx _ h2, h3, h4, fun w hw => ?_⟩
      have h6 := sum_of_mem hw
      exact Nat.lt_of_le_of_lt (Nat.le_trans h6 h5) (Nat.lt_trans (show 54 < 2 ^ 10 by decide) (Nat.pow_lt_pow_right (by decide) (by decide)))
end
end Far
namespace Pw
open PySem PySem.Spec PyProof.Rows L2
end Pw
namespace Far
open PySem PySem.Spec PyProof.Rows L2 Pw Cg
structure Fit (d : PyData) (n : Nat) : Prop where
  is : d.intsShort 13 = true
  sh : d.showable = true
  w : d.weight ≤ n
structure FitL (ds : List PyData) (n : Nat) : Prop where
  is : PyData.intsShortAll 13 ds = true
  sh : PyData.showableAll ds = true
  w : PyData.weightAll ds ≤ n
theorem FitL.nil : FitL [] 0 := ⟨rfl, rfl, Nat.le_refl _⟩
theorem FitL.cons {d : PyData} {ds : List PyData} {a b : Nat} (h : Fit d a) (t : FitL ds b) : FitL (d :: ds) (a + 1 + b) :=
  ⟨by rw [PyData.intsShortAll, h.is, t.is]; rfl, by rw [PyData.showableAll, h.sh, t.sh]; rfl, by rw [PyData.weightAll]; have := h.w; have := t.w; omega⟩
theorem FitL.all {α : Type} {enc : α → PyData} {a : Nat} : ∀ {l : List α}, (∀ x ∈ l, Fit (enc x) a) → FitL (l.map enc) (l.length * (a + 1))
  | [], _ => ⟨rfl, rfl, by rw [List.length_nil, Nat.zero_mul]; exact Nat.le_refl _⟩
  | x :: l, h => by
    have t := FitL.all (enc := enc) (a := a) (l := l) fun y hy => h y (List.mem_cons_of_mem _ hy)
    have := FitL.cons (h x (List.mem_cons_self ..)) t
    rw [List.length_cons, Nat.succ_mul, Nat.add_comm]
    exact this
theorem FitL.tup {ds : List PyData} {n : Nat} (h : FitL ds n) : Fit (.tuple ds) n := ⟨by rw [PyData.intsShort]; exact h.is, by rw [PyData.showable]; exact h.sh, by rw [PyData.weight]; exact h.w⟩
theorem FitL.lst {ds : List PyData} {n : Nat} (h : FitL ds n) : Fit (.list ds) n := ⟨by rw [PyData.intsShort]; exact h.is, by rw [PyData.showable]; exact h.sh, by rw [PyData.weight]; exact h.w⟩
structure Sup (ss ss' : List Stp) (t : Nat) : Prop where
  mn : menuS ss t = menuS ss' t
  ln : ∀ x ∈ menuS ss t, (gonW ss t x).length = (gonW ss' t x).length
  ps : ∀ x ∈ menuS ss t, ∀ i, 0 < (gonW ss t x).getD i 0 ↔ 0 < (gonW ss' t x).getD i 0
theorem Trim.of_eq {m K : Nat} {ss ss' : List Stp} (h : Trim m ss K) (hg' : Good m ss') (e : ∀ k, bTm (stS ss') k = bTm (stS ss) k) : Trim m ss' K :=
  ⟨hg', h.km, by rw [e]; exact h.len, fun k hk => by rw [e]; exact h.go k hk, fun t ht => by rw [e] at ht; exact h.lt t ht⟩
theorem low_getD {ws : List Nat} (h : 0 < ws.sum) (i : Nat) : gcdL ws * (low ws).getD i 0 = ws.getD i 0 := by
  unfold low
  rw [List.getD_eq_getElem?_getD, List.getD_eq_getElem?_getD, List.getElem?_map]
  by_cases hy : i < ws.length
  · rw [List.getElem?_eq_getElem hy]
    exact low_get h (List.getElem_mem hy)
  · rw [List.getElem?_eq_none (by omega)]
    simp
theorem gon_mkE {m : Nat} {ss : List Stp} (hg : Good m ss) {t : Nat} {x : Str} (hx : x ∈ menuS ss t) : gonW (mkS ss) t x = low (gonW ss t x) ∧ 0 < (gonW ss t x).sum := by
  obtain ⟨s, hs, _, _, eg, el⟩ := gon_le hg hx
  refine ⟨?_, by rw [eg]; exact (hg.ok s hs).ps⟩
  unfold gonW
  rw [look_mk hg, el]
  rfl
theorem sup_mk {m : Nat} {ss : List Stp} (hg : Good m ss) (t : Nat) : Sup (mkS ss) ss t := by
  have mn : menuS (mkS ss) t = menuS ss t := menu_same hg.made hg fun x => ⟨fun ⟨s, hs, h1, h2⟩ => by
    obtain ⟨z, hz, rfl⟩ := List.mem_map.1 ((mk_perm ss).mem_iff.1 hs)
    exact ⟨z, hz, h1, h2⟩, fun ⟨s, hs, h1, h2⟩ => ⟨lowS s, (mk_perm ss).mem_iff.2 (List.mem_map.2 ⟨s, hs, rfl⟩), h1, h2⟩⟩
  refine ⟨mn, fun x hx => ?_, fun x hx i => ?_⟩
  · rw [(gon_mkE hg (mn ▸ hx)).1, low_len]
  · obtain ⟨e, ps⟩ := gon_mkE hg (mn ▸ hx)
    rw [e]
    have h1 := low_getD ps i
    have g0 := gcdL_pos ps
    constructor
    · intro h
      rw [← h1]
      exact Nat.mul_pos g0 h
    · intro h
      rw [← h1] at h
      exact Nat.pos_of_mul_pos_left h
open PySem PySem.Spec PyProof.Rows L2 Pw
theorem addA_fst : ∀ {l l' : Onw}, l.map Prod.fst = l'.map Prod.fst → ∀ ts, addA ts l = addA ts l' := fun {l l'} h ts => by
  have e : ∀ (l : Onw) (ts : List Nat), addA ts l = (l.map Prod.fst).foldl add1 ts := fun l ts => by
    unfold addA
    rw [List.foldl_map]
  rw [e, e, h]
theorem bT_gen {St St' : Nat → List (Str × Onw)} (h : ∀ t ts, tT (St t) ts = tT (St' t) ts) : ∀ k, bTm St k = bTm St' k
  | 0 => rfl
  | k + 1 => by
    show tT (St ((bTm St k).getD k 0)) (bTm St k) = tT (St' ((bTm St' k).getD k 0)) (bTm St' k)
    rw [bT_gen h k]
    exact h _ _
theorem pos_mul {g : Nat} (h : 0 < g) : ∀ on : Onw, pos (on.map fun y => (y.1, y.2 * g)) = (pos on).map fun y => (y.1, y.2 * g)
  | [] => rfl
  | z :: on => by
    have ih := pos_mul h on
    unfold pos at ih ⊢
    by_cases e : 0 < z.2
    · rw [List.map_cons, List.filter_cons_of_pos (by simpa using Nat.mul_pos e h), List.filter_cons_of_pos (by simpa using e), List.map_cons, ih]
    · have : z.2 = 0 := by omega
      rw [List.map_cons, List.filter_cons_of_neg (by simp [this]), List.filter_cons_of_neg (by simp [this]), ih]
theorem wsOf_mul (g : Nat) (ts : List Nat) (on : Onw) : wsOf ts (on.map fun y => (y.1, y.2 * g)) = (wsOf ts on).map (· * g) := by
  have key : ∀ (on : Onw) (ws : List Nat), (on.map fun y => (y.1, y.2 * g)).foldl (fun ws z => ws.set (ts.idxOf z.1) (ws.getD (ts.idxOf z.1) 0 + z.2)) (ws.map (· * g)) = (on.foldl (fun ws z => ws.set (ts.idxOf z.1) (ws.getD (ts.idxOf z.1) 0 + z.2)) ws).map (· * g) := fun on => by
    induction on with
    | nil => intro ws; rfl
    | cons z on ih =>
      intro ws
      rw [List.map_cons, List.foldl_cons, List.foldl_cons, ← ih]
      congr 1
      rw [List.map_set]
      congr 1
      show _ = (ws.getD (ts.idxOf z.1) 0 + z.2) * g
      rw [Nat.add_mul, List.getD_eq_getElem?_getD, List.getD_eq_getElem?_getD, List.getElem?_map]
      cases ws[ts.idxOf z.1]? with
      | none => simp
      | some v => rfl
  unfold wsOf
  rw [← key, List.map_replicate, Nat.zero_mul]
def lowR (ts : List Nat) (r : FRow) : Stp := (r.1, r.2.1, low (wsOf ts r.2.2))
end Far
namespace MxT
open PySem PySem.Spec PyProof.Rows L2
def tx (e : Int × Value) : Str := match e.2 with | .str x _ => x | _ => ""
section
variable {P : Program} {w : World}
def Te (P : Program) (w : World) (e : Int × Value) : Prop := ∃ x tk, e = ((strKind P w).hash x, Value.str x tk)
theorem Te.tx {e : Int × Value} (h : Te P w e) (x : Str) : (strKind P w).is x e.2 = true ↔ MxT.tx e = x := by
  obtain ⟨y, tk, rfl⟩ := h
  constructor
  · intro i
    obtain ⟨u, e⟩ := Value.isStrOf_shape (show Value.isStrOf x (Value.str y tk) = true from i)
    cases e
    rfl
  · rintro rfl
    exact strKind_is P w y tk
theorem te_el {l : List (Int × Value)} (h : ∀ e ∈ l, Te P w e) : ElemsOf (strKind P w) l := fun e he => by
  obtain ⟨x, tk, rfl⟩ := h e he
  exact ⟨⟨x, strKind_is P w x tk, rfl⟩, rfl⟩
structure St (P : Program) (w : World) (h : Heap) (a : Addr) (es : Array (Int × Value)) (ep : Nat) (t : SetTable) : Prop where
  obj : ∃ o, o.ExactSet ∧ o.data = .set es ep t ∧ h.get? a = some o
  te : ∀ e ∈ es.toList, Te P w e
  one : (es.toList.map tx).Nodup
  ris : Ris t.place.toList
  lead : w.params.followText "set-order" = true ∨ t.led = true
  fit : t.fits es.size = true
theorem St.keep {h h' : Heap} {a : Addr} {es : Array (Int × Value)} {ep : Nat} {t : SetTable} (S : St P w h a es ep t) (k : ∀ o, h.get? a = some o → h'.get? a = some o) : St P w h' a es ep t := by
  obtain ⟨o, h1, h2, h3⟩ := S.obj
  exact ⟨⟨o, h1, h2, k o h3⟩, S.te, S.one, S.ris, S.lead, S.fit⟩
end
section
variable {P : Program} {w : World} {A : Around} {E : Value → Shared → Prop} {s : Shared} {a : Addr} {es : Array (Int × Value)} {ep : Nat} {t : SetTable}
theorem laid {mark : Bool → Sem Unit} (quiet : ∀ (b : Bool) (y : Shared) (Z : Unit → Shared → Prop), Z () y → wpAny (model P w) A (mark b) Z E y) {o : Obj} (ob : s.heap.get? a = some o) (ex : o.ExactSet) (dt : o.data = .set es ep t)
    {es1 : Array (Int × Value)} {t1 : SetTable} (te1 : ∀ e ∈ es1.toList, Te P w e) (one1 : (es1.toList.map tx).Nodup) (few : es1.size < scanBound) (fit1 : t1.fits es1.size = true) (ris1 : Ris t1.place.toList) (lead1 : w.params.followText "set-order" = true ∨ t1.led = true) {dum : Bool} {Z : Option Bool → Shared → Prop}
    (hZ : ∀ h' es' ep' t', Heap.SameBut a s.heap h' → St P w h' a es' ep' t' → es'.toList.Perm es1.toList → Z (some true) { s with heap := h' }) :
    wpAny (model P w) A (do
        storeSet a es1 t1
        if (!dum && t1.tooFull) = true then do
            mark (relayAll t1 es1 (SetTable.grown es1.size)).2.2
            storeSet a (relayAll t1 es1 (SetTable.grown es1.size)).1 (relayAll t1 es1 (SetTable.grown es1.size)).2.1
            pure (some true)
          else pure (some true)) Z E s := by
  refine wpAny_bind (wpAny_storeSet_of ob dt ?_ (fits_of_scanBound few))
  have ob1 := store_at (es' := es1) (t' := t1) ob dt
  have one_ := Heap.SameBut.update s.heap a (Obj.putSet es1 t1)
  by_cases full : (!dum && t1.tooFull) = true
  · refine L2.wp_if_pos full ?_
    have q1 := relayAll_perm t1 es1 (SetTable.grown es1.size)
    have q2 := relayAll_fits t1 es1 (SetTable.grown es1.size)
    have q3 := relayAll_ris t1 es1 (SetTable.grown es1.size)
    have q4 := relayAll_led t1 es1 (SetTable.grown es1.size)
    generalize relayAll t1 es1 (SetTable.grown es1.size) = Y at q1 q2 q3 q4 ⊢
    obtain ⟨es2, t2, gone⟩ := Y
    dsimp only at q1 q2 q3 q4 ⊢
    have sz : es2.size = es1.size := by rw [← Array.length_toList, q1.length_eq, Array.length_toList]
    refine wpAny_bind (quiet _ _ _ (wpAny_bind (wpAny_storeSet_of ob1 rfl ?_ (fits_of_scanBound (by rw [sz]; exact few)))))
    refine wpAny_pure (hZ _ es2 _ t2 (one_.trans (Heap.SameBut.update _ a _)) ⟨⟨_, ?_, rfl, store_at (es' := es2) (t' := t2) ob1 rfl⟩, fun e he => te1 e (q1.mem_iff.mp he), (q1.map tx).nodup_iff.mpr one1, q3, lead1.imp id fun z => q4.trans z, q2⟩ q1)
    exact ⟨ex.1, ex.2.1, ex.2.2⟩
  · refine L2.wp_if_neg full ?_
    exact wpAny_pure (hZ _ es1 _ t1 one_ ⟨⟨{ o with data := .set es1 (ep + 1) t1 }, ⟨ex.1, ex.2.1, ex.2.2⟩, rfl, ob1⟩, te1, one1, ris1, lead1, fit1⟩ (.refl _))
theorem more (S : St P w s.heap a es ep t) (few : es.size + 1 < scanBound) {x : Str} {tk : Tok} {Z : Bool → Shared → Prop}
    (hZ : ∀ b h' es' ep' t', Heap.SameBut a s.heap h' → St P w h' a es' ep' t' → (x ∈ es.toList.map tx → es' = es) → (x ∉ es.toList.map tx → (es'.toList.map tx).Perm (x :: es.toList.map tx)) → Z b { s with heap := h' }) :
    wpAny (model P w) A (setAddHashed a (.str x tk) ((strKind P w).hash x)) Z E s := by
  obtain ⟨o, ex, dt, ob⟩ := S.obj
  have el := te_el S.te
  have few0 : es.size < scanBound := Nat.lt_of_succ_lt few
  have is0 : (strKind P w).is x (.str x tk) = true := strKind_is P w x tk
  have sc : (Value.str x tk).scannable = true := rfl
  unfold setAddHashed setAddHashedIn
  refine wpAny_holding (wpAny_bind (wpAny_setState_of ob dt S.fit ?_))
  dsimp only
  refine L2.wp_if_pos (byScan_of sc few0 el) ?_
  unfold setAddByScan
  refine wpAny_bind (wpAny_bind (wpAny_rule (wpAny_bind (wpAny_setScan_of is0 ob dt S.fit el ?_))))
  cases look : List.findIdx? (fun e => (strKind P w).is x e.2) es.toList with
  | some j =>
    dsimp only
    obtain ⟨lt, at_, _⟩ := List.findIdx?_eq_some_iff_getElem.mp look
    have mem : x ∈ es.toList.map tx := List.mem_map.2 ⟨_, List.getElem_mem lt, ((S.te _ (List.getElem_mem lt)).tx x).1 at_⟩
    exact wpAny_pure (wpAny_pure (hZ _ s.heap es ep t (Heap.SameBut.refl a s.heap) S (fun _ => rfl) fun n => absurd mem n))
  | none =>
    dsimp only
    have new : x ∉ es.toList.map tx := fun mem => by
      obtain ⟨e, he, q⟩ := List.mem_map.1 mem
      have := List.findIdx?_eq_none_iff.mp look e he
      rw [((S.te e he).tx x).2 q] at this
      cases this
    have quiet : ∀ (b : Bool) {y : Shared} {Z' : Unit → Shared → Prop}, Z' () y → wpAny (model P w) A (match b with | true => rule "set.scan.the-table-gave-way" | false => pure ()) Z' E y := fun b y Z' q => by
      cases b
      · exact wpAny_pure q
      · exact wpAny_rule q
    have q1 := layNew_perm t es ((strKind P w).hash x) (.str x tk)
    have q2 := layNew_fits t es ((strKind P w).hash x) (.str x tk)
    have q3 := layNew_ris t es ((strKind P w).hash x) (.str x tk) S.ris
    have q4 := layNew_led t es ((strKind P w).hash x) (.str x tk)
    generalize layNew t es ((strKind P w).hash x) (.str x tk) = Y at q1 q2 q3 q4 ⊢
    obtain ⟨es1, t1, dum, gone⟩ := Y
    dsimp only at q1 q2 q3 q4 ⊢
    rw [Array.toList_push] at q1
    have pm : es1.toList.Perm (((strKind P w).hash x, Value.str x tk) :: es.toList) := q1.trans (List.perm_append_singleton _ _)
    have pt : (es1.toList.map tx).Perm (x :: es.toList.map tx) := pm.map tx
    have te1 : ∀ e ∈ es1.toList, Te P w e := fun e he => by
      rcases List.mem_cons.mp (pm.mem_iff.mp he) with rfl | z
      · exact ⟨x, tk, rfl⟩
      · exact S.te e z
    have one1 : (es1.toList.map tx).Nodup := pt.nodup_iff.mpr (List.nodup_cons.mpr ⟨new, S.one⟩)
    have sz : es1.size = es.size + 1 := by rw [← Array.length_toList, pm.length_eq, List.length_cons, Array.length_toList]
    have few1 : es1.size < scanBound := by rw [sz]; exact few
    have lead1 : w.params.followText "set-order" = true ∨ t1.led = true := S.lead.imp id fun z => q4.trans z
    have fin : ∀ h' es' ep' t', Heap.SameBut a s.heap h' → St P w h' a es' ep' t' → es'.toList.Perm es1.toList → Z true { s with heap := h' } := fun h' es' ep' t' sb S' p => hZ true h' es' ep' t' sb S' (fun m => absurd m new) fun _ => (p.map tx).trans pt
    refine wpAny_bind (quiet _ ?_)
    split
    · refine wpAny_bind ?_
      rw [hashByValue_scannable 8 sc]
      refine wpAny_pure ?_
      refine laid (fun b y Z' q => ?_) ob ex dt te1 one1 few1 ?_ ?_ ?_ (fun h' es' ep' t' sb S' p => ?_)
      · cases b
        · exact wpAny_pure q
        · exact wpAny_rule q
      · first | exact q2 | (split <;> first | exact q2 | exact SetTable.fits_plain_off q2)
      · first | exact q3 | (split <;> exact q3)
      · first | exact lead1 | (split <;> exact lead1)
      · dsimp only
        exact wpAny_pure (fin h' es' ep' t' sb S' p)
    · refine wpAny_bind (wpAny_pure ?_)
      simp only [↓reduceIte]
      refine laid (fun b y Z' q => ?_) ob ex dt te1 one1 few1 q2 q3 lead1 (fun h' es' ep' t' sb S' p => ?_)
      · cases b
        · exact wpAny_pure q
        · exact wpAny_rule q
      · dsimp only
        exact wpAny_pure (fin h' es' ep' t' sb S' p)
end
structure In (xs : List Str) (i : Nat) (l : List Str) : Prop where
  has : ∀ k, k ∈ l ↔ k ∈ xs.take i
  le : l.length ≤ i
theorem taken {A : Around} {P : Program} {w : World} {I : Addr} {fp wr : List Addr} {G : Array GenState → Array GenState → Prop} {n : Nat} {Pv : Nat → Value → Prop} {Sx : Nat → Shared → Prop} {Rs : Result → Shared → Prop} (W : WalksS P w A.in1 I fp wr G n Pv Sx) (S : Addr) (notIn : S ∉ fp) (xs : List Str) (len : n = xs.length) (few : xs.length < 4000)
    (val : ∀ i v, Pv i v → ∃ x tk, xs[i]? = some x ∧ v = .str x tk) (h0 : Heap) (fresh : h0.get? S = none) (wfresh : ∀ b ∈ wr, h0.get? b = none) : ∀ (m i : Nat) (s : Shared), i + m = n → Sx i s → (∀ b o, h0.get? b = some o → s.heap.get? b = some o) →
      (∃ es ep t, St P w s.heap S es ep t ∧ In xs i (es.toList.map tx)) → (∀ s' es ep t, Moved (S :: wr) G s s' → St P w s'.heap S es ep t → In xs n (es.toList.map tx) → (∀ b o, h0.get? b = some o → s'.heap.get? b = some o) → Rs (.ok (.ret .none)) s') → codeAny (model P w) A (.builtin "set.update.loop" ⟨[.ref S, .ref I], []⟩) Rs s := by
  have sw : S ∉ wr := fun h => notIn (W.sub _ h)
  have up : ∀ b ∈ wr, b ∈ S :: wr := fun b hb => List.mem_cons_of_mem _ hb
  have stays : ∀ {y y' : Shared}, Moved wr G y y' → (∀ b o, h0.get? b = some o → y.heap.get? b = some o) → ∀ b o, h0.get? b = some o → y'.heap.get? b = some o := fun mv kp b o e =>
    mv.heap b o (fun hb => by rw [wfresh b hb] at e; cases e) (kp b o e)
  intro m
  induction m with
  | zero =>
    intro i s im st kp ⟨es, ep, t, R, g⟩ done
    obtain rfl : i = n := by omega
    refine codeAny_builtin F.entry_set_update_loop ?_
    rw [Around.under_plainId F.plain_set_update_loop _]
    show wpAny _ A.in1 (pyNext (.ref I) >>= _) _ _ s
    refine wpAny_bind (W.done s _ _ st fun s' mv => ?_)
    exact wpAny_pure (done s' es ep t (mv.mono up) (R.keep fun o e => mv.heap S o sw e) g (stays mv kp))
  | succ m ih =>
    intro i s im st kp ⟨es, ep, t, R, g⟩ done
    have lt : i < n := by omega
    refine codeAny_builtin F.entry_set_update_loop ?_
    rw [Around.under_plainId F.plain_set_update_loop _]
    show wpAny _ A.in1 (pyNext (.ref I) >>= _) _ _ s
    refine wpAny_bind (W.item i s _ _ lt st fun v s' pv st' mv => ?_)
    obtain ⟨x, tk, hp, rfl⟩ := val i v pv
    have kp' := stays mv kp
    have R' : St P w s'.heap S es ep t := R.keep fun o e => mv.heap S o sw e
    show wpAny _ A.in1 (holding [Value.str x tk] (setAdd S (.str x tk)) >>= _) _ _ s'
    refine wpAny_bind (wpAny_holding ?_)
    unfold setAdd
    refine wpAny_holding (wpAny_bind ((strKind P w).pyHash (strKind_is P w x tk) ?_))
    have sz : es.size ≤ i := by
      have := g.le
      rwa [List.length_map, Array.length_toList] at this
    refine more (s := { s' with toks := s'.toks + 1 }) R' (by unfold scanBound; omega) fun b h' es' ep' t' sb R2 c1 c2 => ?_
    have tk' : xs.take (i + 1) = xs.take i ++ [x] := by rw [List.take_succ, hp]; rfl
    have g' : In xs (i + 1) (es'.toList.map tx) := by
      by_cases c : x ∈ es.toList.map tx
      · rw [c1 c]
        refine ⟨fun k => ?_, by have := g.le; omega⟩
        rw [tk', List.mem_append, ← g.has k]
        constructor
        · exact .inl
        · rintro (z | z)
          · exact z
          · rw [List.mem_singleton.1 z]; exact c
      · have pm := c2 c
        refine ⟨fun k => ?_, ?_⟩
        · rw [pm.mem_iff, List.mem_cons, tk', List.mem_append, ← g.has k, List.mem_singleton]
          exact Or.comm
        · rw [pm.length_eq, List.length_cons]
          have := g.le
          omega
    have kp2 : ∀ b o, h0.get? b = some o → h'.get? b = some o := fun b o e => (sb.2 b (fun z => by rw [z, fresh] at e; cases e)).trans (kp' b o e)
    refine wpAny_pure ⟨plainId_quiet F.plain_set_update_loop _, ih (i + 1) _ (by omega) (W.frame _ s' _ _ st' (Nat.le_add_right _ _) fun b hb o e => ?_) kp2 ⟨es', ep', t', R2, g'⟩ fun s'' es2 ep2 t2 mv2 R3 g3 kp3 => ?_⟩
    · rw [sb.2 b (fun z : b = S => notIn (z ▸ hb))]; exact e
    · refine done s'' es2 ep2 t2 (Moved.trans W.gtrans ((mv.mono up).then_heap (Nat.le_add_right _ _) fun b o hb e => ?_) mv2) R3 g3 kp3
      rw [sb.2 b (fun z : b = S => hb (by rw [z]; exact List.mem_cons_self))]; exact e
theorem st_new {P : Program} {w : World} {h : Heap} {a : Addr} (ob : h.get? a = some (MxS.nu w)) : St P w h a #[] 0 (.fresh 0 0 (!w.params.followText "set-order")) where
  obj := ⟨_, ⟨rfl, rfl, rfl⟩, rfl, ob⟩
  te := fun e he => (by cases he)
  one := List.nodup_nil
  ris := List.Pairwise.nil
  lead := by
    show _ ∨ (!w.params.followText "set-order") = true
    cases w.params.followText "set-order"
    · exact .inr rfl
    · exact .inl rfl
  fit := rfl
theorem make_set {P : Program} {w : World} {A : Around} {E : Value → Shared → Prop} {s : Shared} {l : Addr} {xs : Array Value} (ks : List Str) {Z : Value → Shared → Prop} (calm : A.handled = none) (hl : s.heap.IsList l xs) (len : xs.size = ks.length) (val : ∀ (i : Nat) (v : Value), xs[i]? = some v → ∃ x tk, ks[i]? = some x ∧ v = .str x tk) (few : ks.length < 4000)
    (hZ : ∀ (h' : Heap) (tk : Nat) es ep t, St P w h' s.heap.objs.size es ep t → In ks ks.length (es.toList.map tx) → (∀ b o, s.heap.get? b = some o → h'.get? b = some o) → Z (.ref s.heap.objs.size) { s with heap := h', toks := tk }) : wpAny (model P w) A (call (.type "set") [.ref l]) Z E s := by
  obtain ⟨mc, mt, m1⟩ := F.called_set.mro
  have m2 := F.called_set.made
  have m3 := F.called_set.sub
  refine wpAny_call (codeAny_of_tree ?_)
  show wpAny _ _ (callAny (.type "set") _) _ _ _
  refine wpAny_pure ⟨Code.quiet_builtin _ (by decide +kernel), codeAny_builtin F.entry_type_call ?_⟩
  rw [Around.under_plain (weight_type_call_type "set" [.ref l] []) rfl]
  have m4 := F.called_set.notType
  have m5 := F.called_set.canCreate
  have m6 := F.typeCall_set_1 (.ref l)
  repeat (any_goals (first | assumption | wp_step))
  refine codeAny_mono (L2.code_set_led1 (.ref l) (E := E) (Q₁ := fun v z => v = .ref s.heap.objs.size ∧ z = { s with heap := s.heap.push (MxS.nu w) }) ⟨rfl, rfl⟩) fun r z hr => ?_
  cases r with
  | error e => exact hr
  | ok fl =>
    cases fl with
    | ret v =>
      obtain ⟨rfl, rfl⟩ := hr
      have gS : (s.heap.push (MxS.nu w)).get? s.heap.objs.size = some (MxS.nu w) := Heap.get?_push_size _ rfl
      have tS : Shared.TypeIs { s with heap := s.heap.push (MxS.nu w) } (.ref s.heap.objs.size) "set" := ⟨_, gS, rfl⟩
      have i1 := F.called_set.init.lookup
      have i2 := F.called_set.init.bind (.ref s.heap.objs.size)
      repeat (any_goals (first | assumption | wp_step))
      refine codeAny_mono (codeAny_call_builtin (R := wants (fun v y => v = .none ∧ ∃ h' tk es ep t, y = { s with heap := h', toks := tk } ∧ St P w h' s.heap.objs.size es ep t ∧ In ks ks.length (es.toList.map tx) ∧ ∀ b o, s.heap.get? b = some o → h'.get? b = some o) E) F.called_set.init.plain F.entry_set_init (check_set_init_1 tS ?_)) fun r2 y hr2 => ?_
      · obtain ⟨⟨c1, c2, c3, c4⟩, gl, e1, nl, e2⟩ := hl
        simp only at e1 e2
        subst e1 e2
        have gl' : (s.heap.push (MxS.nu w)).get? l = some { cls := .type "list", dict := c2, data := .seq xs nl, slots := c4 } := Heap.get?_push_of_some _ gl
        have n1 := F.sub_list_set
        have n2 := F.sub_list_frozenset
        have n3 : (Value.type "list" == Value.type "dict") = false := by decide
        have il : (s.heap.push (MxS.nu w)).IsList l xs := ⟨_, gl', rfl, nl, rfl⟩
        unfold Builtin.«set.__init__» noKeywords Builtin.Frozenset.updateFrom
        generalize hold : pyIter = it0
        wp_walk
        subst hold
        refine wpAny_pyIter_list il ?_
        refine wpAny_bind (wpAny_runValue ?_)
        have lS : l < s.heap.objs.size := Heap.lt_size gl
        have calm3 : A.in1.in1.in1.handled = none := by simp [calm]
        have lI : l ≠ (s.heap.push (MxS.nu w)).objs.size := by
          rw [Heap.size_push]
          exact Nat.ne_of_lt (Nat.lt_of_lt_of_le lS (Nat.le_succ _))
        have SI : s.heap.objs.size ∉ [(s.heap.push (MxS.nu w)).objs.size, l] := by
          rw [Heap.size_push]
          intro mem
          rcases List.mem_cons.mp mem with e | e
          · exact absurd e (Nat.ne_of_lt (Nat.lt_succ_self _))
          · exact absurd (List.mem_singleton.mp e) (Nat.ne_of_gt lS)
        have gone : ∀ b, s.heap.objs.size ≤ b → s.heap.get? b = none := fun b hb => by
          cases g : s.heap.get? b with
          | none => rfl
          | some o => exact absurd (Nat.lt_of_lt_of_le (Heap.lt_size g) hb) (Nat.lt_irrefl b)
        refine taken ((Walks.list calm3 _ l lI xs).toS) s.heap.objs.size SI ks len few val s.heap (gone _ (Nat.le_refl _)) (fun b hb => gone b (by
          rw [List.mem_singleton.mp hb, Heap.size_push]
          exact Nat.le_add_right _ 1)) xs.size 0 _ (by omega) ⟨⟨_, Heap.get?_push_size _ rfl, rfl, rfl⟩, (il.push _)⟩ (fun b o e => Heap.get?_push_of_some _ (Heap.get?_push_of_some _ e)) ?first ?last
        case first =>
          refine ⟨#[], 0, _, st_new (Heap.get?_push_of_some _ gS), fun k => ?_, Nat.le_refl _⟩
          simp
        case last =>
          intro y es ep t mv R g kp
          obtain ⟨h', g2, d2, tk, os2⟩ := y
          have z1 : g2 = s.gens := mv.gens
          have z2 : d2 = s.drawn := mv.drawn
          have z3 : os2 = s.os := mv.os
          subst z1 z2 z3
          rw [len] at g
          refine wpAny_pure ?_
          exact wpAny_pure ⟨rfl, h', tk, es, ep, t, rfl, R, g, kp⟩
      · cases r2 with
        | error e => exact hr2
        | ok fl2 =>
          cases fl2 with
          | ret v2 =>
            obtain ⟨rfl, h', tk, es, ep, t, rfl, R, g, kp⟩ := hr2
            repeat (any_goals (first | assumption | wp_step))
            exact hZ _ _ _ _ _ R g kp
          | _ => exact hr2.elim
    | _ => exact hr.elim
theorem sorted_set {P : Program} {w : World} {A : Around} {E : Value → Shared → Prop} {s : Shared} {a : Addr} {es : Array (Int × Value)} {ep : Nat} {t : SetTable} (S : St P w s.heap a es ep t) (calm : A.handled = none) (few : es.size < 4000) (hu : A.units + 64 < cLine) {Z : Value → Shared → Prop}
    (hZ : ∀ s' p (out : List Value) (c : Nat) (ls : List Str), (∀ b o, s.heap.get? b = some o → s'.heap.get? b = some o) → s'.gens = s.gens → s'.os = s.os → s.heap.objs.size ≤ p → s'.heap.get? p = some (seqObj "list" out.toArray c) → PySem.W.EachIs (fun v x => ∃ tk, v = Value.str x tk) out ls → ls.Perm (es.toList.map tx) →
      (ls.Pairwise fun x y => PySem.W.dataLe false PyData.str x y = true) → Z (.ref p) s') : wpAny (model P w) A (call (.builtin "sorted") [.ref a]) Z E s := by
  obtain ⟨o, ex, dt, ob⟩ := S.obj
  have few2 : es.size < scanBound := by unfold scanBound; omega
  refine Calls.call_function_entry kind_sorted plain_sorted entry_sorted (args_sorted1 _) ?_
  unfold Builtin.«sorted»
  refine wpAny_bind (m := checkCount "sorted" 1 1 _) (wpAny_pure ?_)
  refine wpAny_bind (collect_set (A := A.in1) calm ⟨o, ob, ex.1, dt⟩ S.fit few2 S.ris S.lead fun s1 vs k1 z1 g1 o1 pm => ?_)
  have vl : vs.length = es.size := by rw [pm.length_eq, List.length_map, Array.length_toList]
  let tv : Value → Str := fun v => match v with | .str x _ => x | _ => ""
  have each : ∀ v ∈ vs, ∃ tk, v = Value.str (tv v) tk := fun v hv => by
    obtain ⟨e, he, rfl⟩ := List.mem_map.1 (pm.mem_iff.1 hv)
    obtain ⟨x, tk, rfl⟩ := S.te e he
    exact ⟨tk, rfl⟩
  have each2 : ∀ (R : Value → Str → Prop) (us : List Value), (∀ v ∈ us, R v (tv v)) → PySem.W.EachIs R us (us.map tv) := fun R us => by
    induction us with
    | nil => exact fun _ => .nil
    | cons v us ih => exact fun h => .cons (h v (by simp)) (ih fun u hu => h u (List.mem_cons_of_mem _ hu))
  have tp : (vs.map tv).Perm (es.toList.map tx) := by
    have := pm.map tv
    rw [List.map_map] at this
    exact this
  refine wpAny_bind (wpAny_newList ?_ (by rw [vl, sizeLine_eq]; omega))
  have at1 : (s1.heap.push (seqObj "list" vs.toArray 0)).get? s1.heap.objs.size = some (seqObj "list" vs.toArray 0) := Heap.get?_push_size _ rfl
  refine wpAny_bind (wpAny_holding (PySem.W.list_sort_data (s := { s1 with heap := s1.heap.push (seqObj "list" vs.toArray 0) }) (enc := PyData.str) (bs := vs.map tv) at1 (each2 (fun v x => ∃ tk, v = Value.str x tk) vs each) ?er (PySem.W.AllAlike.of fun b b' => rfl) (PySem.W.Sortable.others fun b => ⟨fun z => (nomatch z), fun xs z => (nomatch z)⟩) (by rw [List.length_map, vl, sizeLine_eq]; omega) (fun b hb => ?dep) fun out lo eo => ?fin))
  case er =>
    refine each2 _ vs fun v hv => ?_
    obtain ⟨tk, e⟩ := each v hv
    refine ⟨[], ?_, by simp⟩
    rw [e]
    exact .str (tv v) tk
  case dep =>
    show A.in1.units + 1 + 0 < cLine
    have : A.in1.units = A.units + 1 := rfl
    omega
  case fin =>
    obtain ⟨c, hc⟩ := sortedHeap_at (vs := vs) (out := out.toArray) at1
    have ps := List.mergeSort_perm (vs.map tv) (PySem.W.dataLe false PyData.str)
    refine wpAny_pure ⟨_, rfl, hZ _ s1.heap.objs.size out c _ (fun b u e => ?_) g1 o1 z1 (by simpa using hc) eo (ps.trans tp) ?_⟩
    · have q := k1 b u e
      have lt := Heap.lt_size q
      show (sortedHeap (s1.heap.push (seqObj "list" vs.toArray 0)) s1.heap.objs.size vs out.toArray).get? b = some u
      rw [sortedHeap_old (Nat.ne_of_lt lt) (by rw [size_push']; exact Nat.lt_succ_of_lt lt)]
      exact Heap.get?_push_of_some _ q
    · exact PySem.W.sort_pairwise (le := PySem.W.dataLe false PyData.str) (PySem.W.sortLe_total (PyProof.Rows.listOrd PyProof.Rows.itemOrd) false fun z : Str => PySem.W.keyToks (.str z)) _
end MxT
namespace Pw
open PySem PySem.Spec PyProof.Rows L2
open Evl (Ex ex_l ex_t)
section
variable {X : Cx}
theorem txt_vals : ∀ {xs : List Str} {us : List Value}, Vals (xs.map V.str) us → us.length = xs.length ∧ ∀ (i : Nat) (v : Value), us[i]? = some v → ∃ x tk, xs[i]? = some x ∧ v = .str x tk
  | [], _, .nil => ⟨rfl, fun i v h => (by simp at h)⟩
  | x :: xs, _, .cons r h => by
    obtain ⟨tk, rfl⟩ := r
    obtain ⟨l, p⟩ := txt_vals h
    refine ⟨by simp [l], fun i v e => ?_⟩
    cases i with
    | zero => exact ⟨x, tk, rfl, (by simpa using e.symm)⟩
    | succ i => exact p i v (by simpa using e)
theorem txt_rel : ∀ {out : List Value} {ls : List Str}, PySem.W.EachIs (fun v x => ∃ tk, v = Value.str x tk) out ls → Vals (ls.map V.str) out
  | _, _, .nil => .nil
  | _, _, .cons ⟨tk, e⟩ h => .cons (by rw [e]; exact ⟨tk, rfl⟩) (txt_rel h)
def tLenSetT (K : PySem.W.Frag) (ta : TE) : TE := fun σ H Q => ta σ H fun x H1 => ∃ (l : Addr) (xs : List Str), x = V.ref l ∧ SqL K H1 l (xs.map V.str) ∧ xs.length < 4000 ∧
  ∀ L : List Str, L.Nodup → (∀ k, k ∈ L ↔ k ∈ xs) → Q (.int L.length) H1
theorem pe_lenSetT {a : Expr} {ta : TE} {p p2 q pos : Pos} (hc : X.calm = true) (hu : X.A.units + 64 < cLine) (hg : Gl X "len") (hm : X.mg "len" = none) (hg2 : Gl X "set") (hm2 : X.mg "set" = none) (ha : PE X a ta)
    (na : starEach [a] X.env = (false, eval a X.env) :: starEach [] X.env := by rfl) : PE X (.Call (.Name "len" p) [.Call (.Name "set" p2) [a] [] q] [] pos) (tLenSetT X.K ta) := by
  refine ⟨fun pins s σ H Q I h => ?_⟩
  refine Call_ (ld_blt I hg hm PySem.boot_len ?_)
  refine PyProof.Rows.callWith_builtin1 (PyProof.Rows.args_cons ?_ rfl) rfl rfl
  refine Call_ (ld_blt I hg2 hm2 PyProof.Rows.boot_set ?_)
  refine PyProof.Rows.callWith_type1 (PyProof.Rows.args_cons (thn (ha.run pins s σ H _ I h) fun v s1 ⟨x, H1, I1, r1, w1⟩ => PyProof.Rows.args_nil ?_) na) na rfl
  obtain ⟨l, xs, rfl, sq, few, w1⟩ := w1
  cases r1
  obtain ⟨its, r, pl, _⟩ := I1.list sq
  obtain ⟨ln, val⟩ := txt_vals r
  refine MxT.make_set xs (I1.ok.hd hc) pl.isList (by simpa using ln) (fun i v e => val i v (by simpa using e)) few fun h' tk es ep t R g kp => ?_
  refine PyProof.Rows.args_nil ?_
  obtain ⟨o, ex, dt, ob⟩ := R.obj
  have sz : es.size ≤ xs.length := by
    have := g.le
    rwa [List.length_map, Array.length_toList] at this
  have I2 : Inv X pins σ H1 { s1 with heap := h', toks := tk } := I1.kept fun b o e => kp b o e
  refine call_len_set ob ex dt R.fit (by omega) ⟨.int (es.toList.map MxT.tx).length, H1, I2.tok _, ⟨_, by rw [List.length_map, Array.length_toList]⟩, w1 (es.toList.map MxT.tx) R.one fun k => ?_⟩
  rw [g.has k, List.take_length]
theorem inv_new {pins : List (Addr × Obj)} {σ : L2.St} {H : Hp} {s2 s' : Shared} {p : Addr} {o : HO} (I : Inv X pins σ H s2) (k1 : ∀ b u, s2.heap.get? b = some u → s'.heap.get? b = some u) (z1 : s2.heap.objs.size ≤ p) (g1 : s'.gens = s2.gens) (o1 : s'.os = s2.os) (new : ObjOk X.prog X.w (upd H p o) s'.heap p o) : Inv X pins σ (upd H p o) s' := by
  have J : Inv X pins σ (upd H p o) { s2 with heap := s'.heap, gens := s'.gens, drawn := s'.drawn, toks := s'.toks } :=
    I.call (ch := []) (Un.laid k1 z1 (I.hok.fresh z1)) (I.hok.laid k1 z1 new) (by rw [g1]; exact I.bare) (fun _ z => nomatch z)
  obtain ⟨y1, y2, y3, y4, y5⟩ := s'
  have : y5 = s2.os := o1
  subst this
  exact J
def TxtLe (x y : Str) : Prop := PySem.W.dataLe false PyData.str x y = true
def tSortSetT (K : PySem.W.Frag) (ta : TE) : TE := fun σ H Q => ta σ H fun x H1 => ∃ (l : Addr) (xs : List Str), x = V.ref l ∧ SqL K H1 l (xs.map V.str) ∧ xs.length < 4000 ∧
  ∀ (L : List Str) (a : Addr), L.Nodup → (∀ k, k ∈ L ↔ k ∈ xs) → L.Pairwise TxtLe → H1 a = none → Q (.ref a) (upd H1 a (.lst (L.map V.str)))
theorem pe_sortSetT {a : Expr} {ta : TE} {p p2 q pos : Pos} (hc : X.calm = true) (hu : X.A.units + 64 < cLine) (hg : Gl X "sorted") (hm : X.mg "sorted" = none) (hg2 : Gl X "set") (hm2 : X.mg "set" = none) (ha : PE X a ta)
    (na : starEach [a] X.env = (false, eval a X.env) :: starEach [] X.env := by rfl) : PE X (.Call (.Name "sorted" p) [.Call (.Name "set" p2) [a] [] q] [] pos) (tSortSetT X.K ta) := by
  refine ⟨fun pins s σ H Q I h => ?_⟩
  refine Call_ (ld_blt I hg hm PyProof.Rows.boot_sorted ?_)
  refine PyProof.Rows.callWith_builtin1 (PyProof.Rows.args_cons ?_ rfl) rfl rfl
  refine Call_ (ld_blt I hg2 hm2 PyProof.Rows.boot_set ?_)
  refine PyProof.Rows.callWith_type1 (PyProof.Rows.args_cons (thn (ha.run pins s σ H _ I h) fun v s1 ⟨x, H1, I1, r1, w1⟩ => PyProof.Rows.args_nil ?_) na) na rfl
  obtain ⟨l, xs, rfl, sq, few, w1⟩ := w1
  cases r1
  obtain ⟨its, r, pl, _⟩ := I1.list sq
  obtain ⟨ln, val⟩ := txt_vals r
  refine MxT.make_set xs (I1.ok.hd hc) pl.isList (by simpa using ln) (fun i v e => val i v (by simpa using e)) few fun h' tk es ep t R g kp => ?_
  refine PyProof.Rows.args_nil ?_
  have sz : es.size ≤ xs.length := by
    have := g.le
    rwa [List.length_map, Array.length_toList] at this
  have I2 : Inv X pins σ H1 { s1 with heap := h', toks := tk } := I1.kept fun b o e => kp b o e
  refine MxT.sorted_set (s := { s1 with heap := h', toks := tk }) R (I1.ok.hd hc) (by omega) hu fun s' p out c ls k1 g1 o1 z1 hp ev pm so => ?_
  have hn : H1 p = none := I2.hok.fresh z1
  have ll : ls.length = es.size := by rw [pm.length_eq, List.length_map, Array.length_toList]
  have J := inv_new (o := .lst (ls.map V.str)) I2 k1 z1 g1 o1 ⟨by rw [List.length_map, ll, sizeLine_eq]; omega, out, c, txt_rel ev, by simpa using hp⟩
  refine ⟨.ref p, _, J, rfl, w1 ls p (pm.nodup_iff.mpr R.one) (fun k => ?_) so hn⟩
  rw [pm.mem_iff, g.has k, List.take_length]
end
section
variable {T : Cfg} {W : WX} {ρ : List (Option D)} {m0 : Mu} {XP : XW} {te : TE} {P : D → Mu → Prop}
theorem rep_txts {Hb : Hp} : ∀ {xs : List Str} {vs : List V}, RepL T Hb (xs.map D.str) vs → vs = xs.map V.str
  | [], vs, r => r.nil_inv
  | x :: xs, vs, r => by
    obtain ⟨v, ys, rfl, h1, h2⟩ := RepL.cons_inv (d := D.str x) (ds := xs.map D.str) r
    cases h1
    rw [rep_txts h2]
    rfl
theorem txts_rep {Hb : Hp} : ∀ {xs : List Str}, RepL T Hb (xs.map D.str) (xs.map V.str)
  | [] => .nil
  | x :: xs => .cons (.str x) txts_rep
theorem ev_lenSetT (h : EV T te W ⟨ρ, m0⟩ (fun d μ => ∃ xs : List Str, Seqd d (xs.map D.str) ∧ xs.length < 4000 ∧ ∀ L : List Str, L.Nodup → (∀ k, k ∈ L ↔ k ∈ xs) → P (.int L.length) μ) XP) : EV T (tLenSetT T.K te) W ⟨ρ, m0⟩ P XP := fun σ Hb H Q S q x =>
  h σ Hb H _ S (fun d μ v Hb1 H1 g r p => by
    obtain ⟨xs, hd, hl, p⟩ := p
    obtain ⟨a, vs, rfl, hs, rx⟩ := hd.inv r
    obtain rfl := rep_txts rx
    exact ⟨a, xs, rfl, ex_l g.sub hs, hl, fun L hL hm => q _ _ _ _ _ g (.int _) (p L hL hm)⟩) x
theorem ev_sortSetT (h : EV T te W ⟨ρ, m0⟩ (fun d μ => ∃ xs : List Str, Seqd d (xs.map D.str) ∧ xs.length < 4000 ∧ ∀ L : List Str, L.Nodup → (∀ k, k ∈ L ↔ k ∈ xs) → L.Pairwise TxtLe → P (.lst (L.map D.str)) μ) XP) : EV T (tSortSetT T.K te) W ⟨ρ, m0⟩ P XP := fun σ Hb H Q S q x =>
  h σ Hb H _ S (fun d μ v Hb1 H1 g r p => by
    obtain ⟨xs, hd, hl, p⟩ := p
    obtain ⟨a, vs, rfl, hs, rx⟩ := hd.inv r
    obtain rfl := rep_txts rx
    refine ⟨a, xs, rfl, ex_l g.sub hs, hl, fun L b hL hm so hb => ?_⟩
    have gl := Go.lay g.sub g.mu (o := .lst (L.map V.str)) hb
    have r1 : RepL T Hb1 (L.map D.str) (L.map V.str) := txts_rep
    exact q _ _ _ _ _ (g.trans gl) (.lst (by rw [upd_same]) r1.1 (r1.mono gl.ex).2) (p L hL hm so)) x
end
end Pw
namespace Far
open PySem PySem.Spec PyProof.Rows L2 Pw
def cd67 (x y : Nat) : Nat := 12 * x + y
theorem cd7_x {x y : Nat} (h : y < 12) : cd67 x y / 12 = x := by unfold cd67; omega
theorem cd7_y {x y : Nat} (h : y < 12) : cd67 x y % 12 = y := by unfold cd67; omega
def bthG (u v : List Nat) : Onw := ((List.range u.length).map fun i => (List.range v.length).map fun j => (cd67 i j, u.getD i 0 * v.getD j 0)).flatten
def oneG (y : Nat) (u : List Nat) (c : Nat) : Onw := (List.range u.length).map fun i => (cd67 i y, u.getD i 0 * c)
def othG (x : Nat) (v : List Nat) (c : Nat) : Onw := (List.range v.length).map fun j => (cd67 x j, v.getD j 0 * c)
def smG (ss : List Stp) (r : Nat) (a : Str) : Nat := if a ∈ menuS ss r then (gonW ss r a).sum else 1
def goB (sh : List Str) (s1 s2 : List Stp) (x y : Nat) (a : Str) : Onw :=
  if a ∈ sh then bthG (gonW s1 x a) (gonW s2 y a) else oneG y (gonW s1 x a) (smG s2 y a) ++ othG x (gonW s2 y a) (smG s1 x a)
def keepB (sh : List Str) (s1 s2 : List Stp) (x y : Nat) (a : Str) : Bool := !(decide (a ∈ sh)) || (decide (a ∈ menuS s1 x) && decide (a ∈ menuS s2 y))
def unS (s1 s2 : List Stp) (x y : Nat) : List Str := (((menuS s1 x).filter fun a => decide (a ∉ menuS s2 y)) ++ menuS s2 y).mergeSort (PySem.W.dataLe false PyData.str)
def StB (sh : List Str) (s1 s2 : List Stp) (t : Nat) : List (Str × Onw) := ((unS s1 s2 (t / 12) (t % 12)).filter (keepB sh s1 s2 (t / 12) (t % 12))).map fun a => (a, goB sh s1 s2 (t / 12) (t % 12) a)
def AB (m1 m2 t : Nat) : Prop := ∃ x y, t = cd67 x y ∧ x < m1 ∧ y < m2
theorem un_mem {s1 s2 : List Stp} {x y : Nat} {a : Str} : a ∈ unS s1 s2 x y ↔ a ∈ menuS s1 x ∨ a ∈ menuS s2 y := by
  unfold unS
  rw [(List.mergeSort_perm _ _).mem_iff, List.mem_append, List.mem_filter]
  by_cases h : a ∈ menuS s2 y <;> simp [h]
theorem un_nd {m1 m2 : Nat} {s1 s2 : List Stp} (g1 : Good m1 s1) (g2 : Good m2 s2) (x y : Nat) : (unS s1 s2 x y).Nodup := by
  unfold unS
  rw [(List.mergeSort_perm _ _).nodup_iff, List.nodup_append]
  refine ⟨(menu_nd g1 x).sublist List.filter_sublist, menu_nd g2 y, fun a ha b hb e => ?_⟩
  subst e
  have := (List.mem_filter.1 ha).2
  simp only [decide_eq_true_eq] at this
  exact this hb
theorem gon_none {ss : List Stp} {r : Nat} {a : Str} (h : a ∉ menuS ss r) : gonW ss r a = [] := by
  unfold gonW
  cases e : lookS ss r a with
  | none => rfl
  | some ws =>
    obtain ⟨s, hs, h1, h2, _⟩ := look_mem e
    exact absurd (menu_iff.2 ⟨s, hs, h1, h2⟩) h
theorem AB.at {m1 m2 t : Nat} (h : AB m1 m2 t) (m12 : m2 ≤ 12) : t / 12 < m1 ∧ t % 12 < m2 := by
  obtain ⟨x, y, rfl, hx, hy⟩ := h
  rw [cd7_x (by omega), cd7_y (by omega)]
  exact ⟨hx, hy⟩
inductive Scl : List (Str × Onw) → List (Str × Onw) → Prop where
  | nil : Scl [] []
  | cons {a : Str} {on : Onw} {g : Nat} {S S' : List (Str × Onw)} (h : 0 < g) (t : Scl S S') : Scl ((a, on) :: S) ((a, on.map fun y => (y.1, y.2 * g)) :: S')
theorem Scl.of {f f' : Str → Onw} : ∀ {l : List Str}, (∀ a ∈ l, ∃ g, 0 < g ∧ f' a = (f a).map fun y => (y.1, y.2 * g)) → Scl (l.map fun a => (a, f a)) (l.map fun a => (a, f' a))
  | [], _ => .nil
  | a :: l, h => by
    obtain ⟨g, g0, e⟩ := h a (List.mem_cons_self ..)
    rw [List.map_cons, List.map_cons, e]
    exact .cons g0 (Scl.of fun b hb => h b (List.mem_cons_of_mem _ hb))
theorem Scl.tT {S S' : List (Str × Onw)} (h : Scl S S') : ∀ ts, tT S ts = tT S' ts := by
  induction h with
  | nil => exact fun _ => rfl
  | @cons a on g S S' g0 t ih =>
    intro ts
    show Far.tT S (addA ts (pos on)) = Far.tT S' (addA ts (pos (on.map fun y => (y.1, y.2 * g))))
    rw [ih, pos_mul g0, addA_fst (l := pos on) (l' := (pos on).map fun y => (y.1, y.2 * g)) (by rw [List.map_map]; rfl)]
theorem Scl.tR {S S' : List (Str × Onw)} (h : Scl S S') (ts : List Nat) (k : Nat) : (tR k S).map (lowR ts) = (tR k S').map (lowR ts) := by
  induction h with
  | nil => rfl
  | @cons a on g S S' g0 t ih =>
    show lowR ts (k, a, pos on) :: (Far.tR k S).map (lowR ts) = lowR ts (k, a, pos (on.map fun y => (y.1, y.2 * g))) :: (Far.tR k S').map (lowR ts)
    rw [ih]
    congr 1
    show (k, a, low (wsOf ts (pos on))) = (k, a, low (wsOf ts (pos (on.map fun y => (y.1, y.2 * g)))))
    rw [pos_mul g0, wsOf_mul, low_mul g0]
theorem bT_scl {St St' : Nat → List (Str × Onw)} (h : ∀ t, Scl (St t) (St' t)) (k : Nat) : bTm St k = bTm St' k := bT_gen (fun t ts => (h t).tT ts) k
def gcG (ss : List Stp) (r : Nat) (a : Str) : Nat := if a ∈ menuS ss r then gcdL (gonW ss r a) else 1
theorem gc_pos {m : Nat} {ss : List Stp} (hg : Good m ss) (r : Nat) (a : Str) : 0 < gcG ss r a := by
  unfold gcG
  split
  · rename_i h
    exact gcdL_pos (gon_mkE hg h).2
  · exact Nat.one_pos
theorem gon_up {m : Nat} {ss : List Stp} (hg : Good m ss) (r : Nat) (a : Str) : gonW ss r a = (gonW (mkS ss) r a).map (· * gcG ss r a) := by
  by_cases h : a ∈ menuS ss r
  · unfold gcG
    rw [if_pos h, (gon_mkE hg h).1, low_back]
  · have h2 : a ∉ menuS (mkS ss) r := by rw [(sup_mk hg r).mn]; exact h
    rw [gon_none h, gon_none h2]
    rfl
theorem sum_mulN (g : Nat) : ∀ l : List Nat, (l.map (· * g)).sum = l.sum * g
  | [] => by simp
  | a :: l => by
    rw [List.map_cons, List.sum_cons, List.sum_cons, sum_mulN g l, Nat.add_mul]
theorem sm_up {m : Nat} {ss : List Stp} (hg : Good m ss) (r : Nat) (a : Str) : smG ss r a = smG (mkS ss) r a * gcG ss r a := by
  unfold smG
  rw [(sup_mk hg r).mn]
  by_cases h : a ∈ menuS ss r
  · rw [if_pos h, if_pos h, gon_up hg r a, sum_mulN]
  · rw [if_neg h, if_neg h]
    unfold gcG
    rw [if_neg h]
theorem getD_mul (g : Nat) (l : List Nat) (i : Nat) : (l.map (· * g)).getD i 0 = l.getD i 0 * g := by
  rw [List.getD_eq_getElem?_getD, List.getD_eq_getElem?_getD, List.getElem?_map]
  cases l[i]? with
  | none => simp
  | some v => rfl
theorem bth_up (u v : List Nat) (g h : Nat) : bthG (u.map (· * g)) (v.map (· * h)) = (bthG u v).map fun y => (y.1, y.2 * (g * h)) := by
  unfold bthG
  rw [List.map_flatten, List.length_map, List.length_map, List.map_map]
  congr 1
  refine List.map_congr_left fun i _ => ?_
  show _ = List.map _ (List.map _ _)
  rw [List.map_map]
  refine List.map_congr_left fun j _ => ?_
  show (cd67 i j, (u.map (· * g)).getD i 0 * (v.map (· * h)).getD j 0) = (cd67 i j, u.getD i 0 * v.getD j 0 * (g * h))
  rw [getD_mul, getD_mul, Nat.mul_mul_mul_comm]
theorem one_up (y : Nat) (u : List Nat) (c g h : Nat) : oneG y (u.map (· * g)) (c * h) = (oneG y u c).map fun z => (z.1, z.2 * (g * h)) := by
  unfold oneG
  rw [List.map_map, List.length_map]
  refine List.map_congr_left fun i _ => ?_
  show (_, (u.map (· * g)).getD i 0 * (c * h)) = (_, u.getD i 0 * c * (g * h))
  rw [getD_mul, Nat.mul_mul_mul_comm]
theorem oth_up (x : Nat) (v : List Nat) (c g h : Nat) : othG x (v.map (· * h)) (c * g) = (othG x v c).map fun z => (z.1, z.2 * (g * h)) := by
  unfold othG
  rw [List.map_map, List.length_map]
  refine List.map_congr_left fun i _ => ?_
  show (_, (v.map (· * h)).getD i 0 * (c * g)) = (_, v.getD i 0 * c * (g * h))
  rw [getD_mul, Nat.mul_mul_mul_comm, Nat.mul_comm h g]
theorem go_up {m1 m2 : Nat} (sh : List Str) {s1 s2 : List Stp} (g1 : Good m1 s1) (g2 : Good m2 s2) (x y : Nat) (a : Str) : goB sh s1 s2 x y a = (goB sh (mkS s1) (mkS s2) x y a).map fun z => (z.1, z.2 * (gcG s1 x a * gcG s2 y a)) := by
  unfold goB
  split
  · rw [gon_up g1 x a, gon_up g2 y a, bth_up]
  · rw [List.map_append, ← one_up, ← oth_up, ← gon_up g1, ← gon_up g2, ← sm_up g1, ← sm_up g2]
theorem keep_up {m1 m2 : Nat} (sh : List Str) {s1 s2 : List Stp} (g1 : Good m1 s1) (g2 : Good m2 s2) (x y : Nat) : keepB sh (mkS s1) (mkS s2) x y = keepB sh s1 s2 x y := by
  funext a
  unfold keepB
  rw [(sup_mk g1 x).mn, (sup_mk g2 y).mn]
theorem un_up {m1 m2 : Nat} {s1 s2 : List Stp} (g1 : Good m1 s1) (g2 : Good m2 s2) (x y : Nat) : unS (mkS s1) (mkS s2) x y = unS s1 s2 x y := by
  unfold unS
  rw [(sup_mk g1 x).mn, (sup_mk g2 y).mn]
theorem scl_up {m1 m2 : Nat} (sh : List Str) {s1 s2 : List Stp} (g1 : Good m1 s1) (g2 : Good m2 s2) (t : Nat) : Scl (StB sh (mkS s1) (mkS s2) t) (StB sh s1 s2 t) := by
  unfold StB
  rw [un_up g1 g2, keep_up sh g1 g2]
  exact Scl.of fun a _ => ⟨_, Nat.mul_pos (gc_pos g1 _ a) (gc_pos g2 _ a), go_up sh g1 g2 _ _ a⟩
theorem sum_getD (u : List Nat) : ((List.range u.length).map fun i => u.getD i 0).sum = u.sum := getD_sumL u
theorem one_sum (y : Nat) (u : List Nat) (c : Nat) : ((oneG y u c).map Prod.snd).sum = u.sum * c := by
  unfold oneG
  rw [List.map_map, ← sum_getD u, ← sum_mulN, List.map_map]
  rfl
theorem oth_sum (x : Nat) (v : List Nat) (c : Nat) : ((othG x v c).map Prod.snd).sum = v.sum * c := by
  unfold othG
  rw [List.map_map, ← sum_getD v, ← sum_mulN, List.map_map]
  rfl
theorem bth_sum (u v : List Nat) : ((bthG u v).map Prod.snd).sum = u.sum * v.sum := by
  have key : ∀ l : List Nat, ((((l.map fun i => (List.range v.length).map fun j => (cd67 i j, u.getD i 0 * v.getD j 0)).flatten).map Prod.snd).sum) = (l.map fun i => u.getD i 0).sum * v.sum := fun l => by
    induction l with
    | nil => simp
    | cons i l ih =>
      rw [List.map_cons, List.flatten_cons, List.map_append, List.sum_append, ih, List.map_cons, List.sum_cons, Nat.add_mul]
      congr 1
      rw [List.map_map]
      have := oth_sum 0 v (u.getD i 0)
      unfold othG at this
      rw [List.map_map] at this
      rw [Nat.mul_comm (u.getD i 0), ← this]
      refine congrArg List.sum (List.map_congr_left fun j _ => ?_)
      exact Nat.mul_comm ..
  unfold bthG
  rw [key, sum_getD]
theorem go_sum {m1 m2 : Nat} {sh : List Str} {s1 s2 : List Stp} (g1 : Good m1 s1) (g2 : Good m2 s2) {x y B : Nat} (hB : 1 ≤ B) (b1 : ∀ s ∈ s1, s.2.2.sum ≤ B) (b2 : ∀ s ∈ s2, s.2.2.sum ≤ B) {a : Str} (ha : a ∈ unS s1 s2 x y) (hk : keepB sh s1 s2 x y a = true) :
    0 < ((goB sh s1 s2 x y a).map Prod.snd).sum ∧ ((goB sh s1 s2 x y a).map Prod.snd).sum ≤ 2 * (B * B) := by
  have P : ∀ {m : Nat} {ss : List Stp} (hg : Good m ss) (b : ∀ s ∈ ss, s.2.2.sum ≤ B) (r : Nat), (gonW ss r a).sum ≤ B ∧ 1 ≤ smG ss r a ∧ smG ss r a ≤ B ∧ (a ∈ menuS ss r → 0 < (gonW ss r a).sum) := fun {m ss} hg b r => by
    unfold smG
    by_cases h : a ∈ menuS ss r
    · obtain ⟨s, hs, _, _, e, _⟩ := gon_le hg h
      rw [if_pos h, e]
      exact ⟨b s hs, (hg.ok s hs).ps, b s hs, fun _ => (hg.ok s hs).ps⟩
    · rw [if_neg h, gon_none h]
      exact ⟨Nat.zero_le _, Nat.le_refl _, hB, fun z => absurd z h⟩
  obtain ⟨p1, p2, p3, p4⟩ := P g1 b1 x
  obtain ⟨q1, q2, q3, q4⟩ := P g2 b2 y
  unfold goB
  split
  · rename_i hs
    rw [bth_sum]
    unfold keepB at hk
    rw [decide_eq_true hs] at hk
    simp only [Bool.not_true, Bool.false_or, Bool.and_eq_true, decide_eq_true_eq] at hk
    have := Nat.mul_le_mul p1 q1
    exact ⟨Nat.mul_pos (p4 hk.1) (q4 hk.2), by omega⟩
  · rw [List.map_append, List.sum_append, one_sum, oth_sum]
    have := Nat.mul_le_mul p1 q3
    have := Nat.mul_le_mul q1 p3
    refine ⟨?_, by omega⟩
    rcases un_mem.1 ha with h | h
    · have := Nat.mul_pos (p4 h) q2
      omega
    · have := Nat.mul_pos (q4 h) p2
      omega
theorem fo_good5 {St : Nat → List (Str × Onw)} {K : Nat} (h : Res St (some K)) (hnd : ∀ t, ((St t).map Prod.fst).Nodup) (hw : ∀ t ∈ bTm St K, (St t).length ≤ 5)
    (hz : ∀ t ∈ bTm St K, ∀ z ∈ St t, nmB z.1 = true ∧ 0 < (z.2.map Prod.snd).sum ∧ (z.2.map Prod.snd).sum < 2 ^ 8000) : Good K (foS St K) := by
  obtain ⟨h1, h2, h3⟩ := h
  have nd : (bTm St K).Nodup := bT_nd _ K
  refine ⟨?_, h2, ?_, ?_, fun s hs => ?_⟩
  · have := bT_mono St (Nat.zero_le K)
    have : ([0] : List Nat).length ≤ (bTm St K).length := this
    rw [h1] at this
    exact this
  · have key : ∀ n, n ≤ K → (bR St n).length ≤ 5 * n := fun n => by
      induction n with
      | zero => exact fun _ => Nat.le_refl _
      | succ n ih =>
        intro hn
        have := ih (by omega)
        have hl := h3 n (by omega)
        have hm : (bTm St n).getD n 0 ∈ bTm St K := by
          rw [List.getD_eq_getElem?_getD, List.getElem?_eq_getElem hl]
          exact (bT_pre St (by omega)).subset (List.getElem_mem hl)
        have := hw _ hm
        show (bR St n ++ tR n (St ((bTm St n).getD n 0))).length ≤ _
        unfold tR
        rw [List.length_append, List.length_map]
        omega
    have := key K (Nat.le_refl _)
    unfold foS
    rw [List.length_map]
    omega
  · have := bR_nd (St := St) hnd K
    unfold foS
    rw [List.map_map]
    exact this
  · obtain ⟨r, hr, rfl⟩ := List.mem_map.1 hs
    have hmem := mem_bR hr
    obtain ⟨k, hk, hm, z, hzm, rfl⟩ := row_at h3 hr
    obtain ⟨a, b, c⟩ := hz _ hm z hzm
    have hsum : (wsOf (bTm St K) (pos z.2)).sum = (z.2.map Prod.snd).sum := by
      rw [wsOf_map nd _ hmem, sum_wAt nd hmem]
      exact sum_posF z.2
    refine ⟨hk, a, by rw [wsOf_len, h1], by rw [hsum]; exact b, fun w hw => ?_⟩
    have := sum_of_mem hw
    rw [hsum] at this
    exact Nat.lt_of_le_of_lt this c
theorem stB_nd {m1 m2 : Nat} {sh : List Str} {s1 s2 : List Stp} (g1 : Good m1 s1) (g2 : Good m2 s2) (t : Nat) : ((StB sh s1 s2 t).map Prod.fst).Nodup := by
  unfold StB
  rw [List.map_map, show (Prod.fst ∘ fun a => (a, goB sh s1 s2 (t / 12) (t % 12) a)) = (id : Str → Str) from rfl, List.map_id]
  exact (un_nd g1 g2 _ _).sublist List.filter_sublist
structure SdB (xs : List Str) (m : Nat) (ss : List Stp) : Prop where
  gd : Good m ss
  nm : ∀ s ∈ ss, s.2.1 ∈ xs
  sm : ∀ s ∈ ss, s.2.2.sum ≤ 2 ^ 64
theorem stB_few {m1 m2 : Nat} {sh xs : List Str} {s1 s2 : List Stp} (g1 : SdB xs m1 s1) (g2 : SdB xs m2 s2) (hx : xs.length ≤ 4) (t : Nat) : (StB sh s1 s2 t).length ≤ 4 := by
  have := Cg.nodup_len (stB_nd (sh := sh) g1.gd g2.gd t) (ks := xs) fun a ha => by
    obtain ⟨z, hz, rfl⟩ := List.mem_map.1 ha
    obtain ⟨b, hb, rfl⟩ := List.mem_map.1 hz
    have hb := (List.mem_filter.1 hb).1
    rcases un_mem.1 hb with h | h
    · obtain ⟨s, hs, _, e⟩ := menu_iff.1 h
      show b ∈ xs
      rw [← e]
      exact g1.nm s hs
    · obtain ⟨s, hs, _, e⟩ := menu_iff.1 h
      show b ∈ xs
      rw [← e]
      exact g2.nm s hs
  rw [List.length_map] at this
  omega
theorem fo_B {m1 m2 K : Nat} {sh xs : List Str} {s1 s2 : List Stp} (g1 : SdB xs m1 s1) (g2 : SdB xs m2 s2) (hx : xs.length ≤ 4) (hn : ∀ a ∈ xs, nmB a = true) (hR : Res (StB sh s1 s2) (some K)) : Good K (foS (StB sh s1 s2) K) := by
  refine fo_good5 hR (stB_nd g1.gd g2.gd) (fun t _ => by have := stB_few (sh := sh) g1 g2 hx t; omega) fun t _ z hz => ?_
  obtain ⟨a, ha, rfl⟩ := List.mem_map.1 hz
  obtain ⟨ha, hk⟩ := List.mem_filter.1 ha
  obtain ⟨p, q⟩ := go_sum g1.gd g2.gd (B := 2 ^ 64) (by decide) g1.sm g2.sm ha hk
  refine ⟨?_, p, Nat.lt_of_le_of_lt q (Nat.lt_of_lt_of_le (show 2 * (2 ^ 64 * 2 ^ 64) < 2 ^ 130 by decide) (Nat.pow_le_pow_right (by decide) (by decide)))⟩
  rcases un_mem.1 ha with h | h
  · obtain ⟨s, hs, _, e⟩ := menu_iff.1 h
    show nmB a = true
    rw [← e]
    exact hn _ (g1.nm s hs)
  · obtain ⟨s, hs, _, e⟩ := menu_iff.1 h
    show nmB a = true
    rw [← e]
    exact hn _ (g2.nm s hs)
end Far
namespace Pw
open PySem PySem.Spec PyProof.Rows L2
open Evl (Ex ex_l ex_t)
end Pw
namespace Far
open PySem PySem.Spec PyProof.Rows L2 Pw
open PySem PySem.Spec PyProof.Rows L2 Pw Cg
end Far
namespace Pw
open PySem PySem.Spec PyProof.Rows L2
open Evl (Ex ex_l ex_t)
end Pw
namespace Far
open PySem PySem.Spec PyProof.Rows L2 Pw Cg
structure JoOk (T : Cfg) : Prop where
  lb : LbOk T
  mm : PySem.W.exmOne T.K (.ref (He.ga T.K "TooMany")) (.ref (He.ga T.K "TooMany")) = some true
  ec : T.cls 0 = T.cls 1
theorem JoOk.ty {T : Cfg} (h : JoOk T) (m : Nat) (ss : List Stp) : TyD T (maD m ss) (.ref (T.cls 1)) := .ins (h.ec ▸ h.lb.la.ma.sh.ic)
open PySem PySem.Spec PyProof.Rows L2 Pw
structure Wok7 (m : Nat) (xs : List Str) (s : Stp) : Prop where
  sg : s.2.1 ∈ xs
  ln : s.2.2.length = m
  ps : 0 < s.2.2.sum
  le : s.2.2.sum < 2 ^ 39
structure Run7 (m r j : Nat) (xs : List Str) (ss : List Stp) : Prop where
  nd : (ss.map keyS).Nodup
  rm : ∀ s ∈ ss, s.1 < r ∨ (s.1 = r ∧ s.2.1 ∈ xs.take j)
  ok : ∀ s ∈ ss, Wok7 m xs s
theorem Run7.add {m r j : Nat} {xs : List Str} {ss : List Stp} {ws : List Nat} (h : Run7 m r j xs ss) (hn : xs.Nodup) (hj : j < xs.length) (hw : Wok7 m xs (r, xs[j], ws)) : Run7 m r (j + 1) xs (ss ++ [(r, xs[j], ws)]) where
  nd := by
    rw [List.map_append, List.nodup_append]
    refine ⟨h.nd, by simp, fun k hk k' hk' e => ?_⟩
    simp at hk'
    rw [hk'] at e
    obtain ⟨s, hs, rfl⟩ := List.mem_map.1 hk
    rcases h.rm s hs with h1 | ⟨h1, h2⟩
    · have := congrArg Prod.fst e
      simp [keyS] at this
      omega
    · have h3 : s.2.1 = xs[j] := congrArg Prod.snd e
      rw [h3] at h2
      obtain ⟨i, hi⟩ := List.getElem?_of_mem h2
      have hi2 : i < j := by
        have := (List.getElem?_eq_some_iff.1 hi).1
        rw [List.length_take] at this
        omega
      rw [List.getElem?_take_of_lt hi2] at hi
      obtain ⟨b1, e1⟩ := List.getElem?_eq_some_iff.1 hi
      have := (List.getElem_inj hn).1 e1
      omega
  rm := fun s hs => by
    rcases List.mem_append.1 hs with h1 | h1
    · rcases h.rm s h1 with h2 | ⟨h2, h3⟩
      · exact .inl h2
      · exact .inr ⟨h2, by rw [List.take_succ]; exact List.mem_append_left _ h3⟩
    · simp at h1
      subst h1
      exact .inr ⟨rfl, by rw [List.take_succ, List.getElem?_eq_getElem hj]; exact List.mem_append_right _ (List.mem_singleton.2 rfl)⟩
  ok := fun s hs => by
    rcases List.mem_append.1 hs with h1 | h1
    · exact h.ok s h1
    · simp at h1
      subst h1
      exact hw
theorem Run7.next {m r j : Nat} {xs : List Str} {ss : List Stp} (h : Run7 m r j xs ss) : Run7 m (r + 1) 0 xs ss where
  nd := h.nd
  rm := fun s hs => .inl (by rcases h.rm s hs with h1 | ⟨h1, _⟩ <;> omega)
  ok := h.ok
end Far
namespace Pw
open PySem PySem.Spec PyProof.Rows L2
noncomputable def scrH (K : PySem.W.Frag) (a : Addr) (vs : List Value) (ns : List Int) : Hp := fun b => if b = a ∧ K.lookup a = none then some (.frz { cls := .type "list", data := .seq vs.toArray } (.lst (ns.map V.int))) else none
theorem scr_at {K : PySem.W.Frag} {a b : Addr} {vs : List Value} {ns : List Int} {u : HO} (h : scrH K a vs ns b = some u) : b = a ∧ K.lookup a = none ∧ u = .frz { cls := .type "list", data := .seq vs.toArray } (.lst (ns.map V.int)) := by
  unfold scrH at h
  split at h
  · rename_i c
    exact ⟨c.1, c.2, (Option.some.inj h).symm⟩
  · cases h
theorem law_callG {P : Program} {w : World} {K : PySem.W.Frag} {mg mb : Str → Option Value} {CX : CXT} {k : Nat} {fa a : Addr} {fd : FuncData} {x : Str} {sp : Sp} {s₁ : Shared} {vs : List Value} {ns : List Int}
    (KX : K.In s₁.heap) (hns : s₁.heap.Ns mainGlobals mg) (hb : s₁.heap.Ns builtinsNs mb) (hbb : ∀ x : Str, x ≠ "__name__" → mb x = bootBuiltins x) (hlim : s₁.heap.NoLimit) (hg : s₁.gens = #[])
    (ha : s₁.heap.get? a = some { cls := .type "list", data := .seq vs.toArray }) (hi : IntsAre vs ns) (hl : ns.length ≤ sizeLine) (hr : Room k callerA)
    (F : ∀ base : PySem.Heap, K.In base → base.Ns mainGlobals mg → FnOkG P w K mg base CX k fa fd [x] sp) (hbind : ∀ (s : Shared) (u : Value), BindsTo s fd ⟨[u], []⟩ [(x, u)])
    (hsp : ∀ H : Hp, SqL K H a (ns.map V.int) → sp [.ref a] H (fun v _ => v = .bl true) fun _ _ _ => False)
    (hCX : ∀ H e s', CX [] H s₁ (fun _ _ _ => False) e s' → False) :
    codeAny (model P w) callerA (.call (.ref fa) ⟨[.ref a], []⟩) (fun r s' => r = .ok (.ret (.bool true)) ∧ OldK s₁.heap s'.heap ∧ s'.os = s₁.os ∧ AllBare s'.gens) s₁ := by
  have rv := vals_ints hi
  have lenV := hi.length
  have hsq : SqL K (scrH K a vs ns) a (ns.map V.int) := by
    cases hk : K.lookup a with
    | none => exact .inl (.inr ⟨_, if_pos ⟨rfl, hk⟩⟩)
    | some o =>
      have e := KX a o hk
      rw [ha] at e
      cases e
      exact .inr ⟨_, vs.toArray, _, hk, rfl, rfl, rfl, by rw [List.size_toArray, lenV]; exact hl, by simpa using rv⟩
  have hok : HOk P w (scrH K a vs ns) s₁.heap := fun b u z => by
    obtain ⟨rfl, _, rfl⟩ := scr_at z
    exact ⟨ha, by rw [List.length_map]; exact hl, vs, _, rv, ha⟩
  have off : ∀ {b : Addr} {o : Obj}, s₁.heap.get? b = some o → (b = a → K.lookup a ≠ none) → (hidT s₁.heap (scrH K a vs ns)).get? b = some o := fun {b o} e n => hidT_get e (by
    cases q : scrH K a vs ns b with
    | none => rfl
    | some u =>
      obtain ⟨e1, e2, _⟩ := scr_at q
      exact absurd e2 (n e1))
  have nsK : ∀ {b : Addr} {m : Str → Option Value}, s₁.heap.Ns b m → (hidT s₁.heap (scrH K a vs ns)).Ns b m := fun {b m} ⟨o, es, ep, e, d, r⟩ => ⟨o, es, ep, off e (fun q => by
    rw [q, ha] at e
    cases e
    have d' : Data.seq vs.toArray _ = Data.dict es ep := d
    cases d'), d, r⟩
  have hKb : K.In (hidT s₁.heap (scrH K a vs ns)) := fun b o e => off (KX b o e) fun q => by
    rw [q] at e
    rw [e]
    exact nofun
  have e0 : Env0 P w K mg (hidT s₁.heap (scrH K a vs ns)) callerA [] s₁ (scrH K a vs ns) :=
    ⟨rfl, ⟨hKb, nsK hns, ⟨mb, nsK hb, hbb⟩, let ⟨mc, h1, h2⟩ := hlim; ⟨mc, nsK h1, h2⟩⟩, fun b o e => of_hidT e, Nat.le_of_eq (hidT_size _ _), trivial, fun b hb => absurd (show b ∈ ([] : List Addr) from hb) (by simp), hok, .of_eq hg⟩
  refine codeAny_mono ((F _ hKb (nsK hns)).run callerA [] s₁ _ ⟨[.ref a], []⟩ [.ref a] [.ref a] _ _ rfl hr e0 (hbind s₁ (.ref a)) (.cons rfl .nil) (hsp _ hsq)) fun r s' h => ?_
  match r, h with
  | .error e, h => exact (hCX _ e s' h).elim
  | .ok .next, h => exact False.elim h
  | .ok .brk, h => exact False.elim h
  | .ok .cont, h => exact False.elim h
  | .ok (.ret u), ⟨v, H', os, bare, un, hok', r', q⟩ =>
    have q' : v = .bl true := q
    subst q'
    obtain rfl : u = Value.bool true := r'
    refine ⟨rfl, OldK.of_keep fun b o e => ?_, os, bare⟩
    cases q : scrH K a vs ns b with
    | none => exact un.keep b o e q (by intro z; exact absurd (show b ∈ ([] : List Addr) from z) (by simp)) (by simp)
    | some u =>
      obtain ⟨e1, _, e2⟩ := scr_at q
      rw [e2] at q
      obtain ⟨g, _⟩ := hok' b _ (un.frzs b _ _ q)
      rw [e1, ha] at e
      rw [e1] at g
      cases e
      rw [e1]
      exact g
theorem walk_G {l : PySem.W.OpenLaw} {n k : Nat} {q : Program} {loose : List Str} {XP : (Str → Option Value) → PySem.Heap → Prop} {YP : World → PySem.Heap → Prop} {d : DefRec} {CX : CXT} {x : Str}
    (hn : l.most = some n) (hn2 : n ≤ sizeLine) (hdf : d.params.defaults = []) (hr : Room k callerA)
    (F : ∀ (w : World) (mg : Str → Option Value) (fa : Addr) (h : PySem.Heap), YP w h → h.Ns mainGlobals mg → mg d.name = some (.ref fa) →
      ∃ (K : PySem.W.Frag) (fd : FuncData) (sp : Sp), K.In h ∧ (∀ (s : Shared) (u : Value), BindsTo s fd ⟨[u], []⟩ [(x, u)]) ∧
        (∀ (H : Hp) (a : Addr) (ns : List Int), ns.length ≤ n → SqL K H a (ns.map V.int) → sp [.ref a] H (fun v _ => v = .bl true) fun _ _ _ => False) ∧
        ∀ base : PySem.Heap, K.In base → base.Ns mainGlobals mg → FnOkG l.prog w K mg base CX k fa fd [x] sp)
    (hCX : ∀ (H : Hp) (s : Shared) (e : Value) (s' : Shared), CX [] H s (fun _ _ _ => False) e s' → False) :
    PySem.W.WalkO q loose XP YP l.row.toRowW d [] (fun f vs => PySem.call f vs) := by
  refine Att.attach_call hn hdf fun w s₀ s₁ mg mb fa o pm cd doc a vs ns G Y ho hd hcd hmg hobj hints hlen hg => ?_
  obtain ⟨K, fd, sp, KX, hb, hsp, hF⟩ := F w mg fa _ Y G.T.g hmg
  exact law_callG KX G.T.g G.T.b G.T.builtins G.T.nolimit hg hobj hints (Nat.le_trans hlen hn2) hr hF hb (fun H hS => hsp H a ns hlen hS) fun H e s' => hCX H s₁ e s'
section
variable {X : Cx} {CX : CXT} {k : Nat} {f C : Addr} {fd : FuncData} {ps : List Str} {sp : Sp} {dvs : List V} {ds : List Value} {E : XK} {x m : Str} {p pos apos : Pos} {e o : Expr} {es : List Expr} {ta : TE} {t : TA}
theorem run_fnG {pins : List (Addr × Obj)} {σ : L2.St} {H : Hp} {s : Shared} {Q : VK} {us : List Value} {vs : List V} (F : FnOkG X.prog X.w X.K X.mg X.base CX k f fd ps sp) (hg : X.A.guards = some []) (hr : Room k X.A) (hb : Binds X.K fd ps ds) (hd : Vals dvs ds) (hx : Passes CX X E)
    (I : Inv X pins σ H s) (r : Vals vs us) (h : sp (vs ++ dvs) H Q E) : wpAny (model X.prog X.w) X.A (call (.ref f) us) (EP X pins σ Q) X.xe s := by
  have r2 : Vals (vs ++ dvs) (us ++ ds) := r.append hd
  have hl : (us ++ ds).length = ps.length := by rw [← r2.length]; exact F.len _ _ _ _ h
  refine wpAny_call (codeAny_mono (F.run X.A X.stack s H ⟨us, []⟩ (us ++ ds) (vs ++ dvs) Q E hg hr I.env0 (hb s us I.kIn hl) r2 h) fun r s' hq => ?_)
  match r, hq with
  | .error e, hq => exact hx pins σ H s e s' I hq
  | .ok (.ret u), hq => exact I.after hq
  | .ok .next, hq => exact False.elim hq
  | .ok .brk, hq => exact False.elim hq
  | .ok .cont, hq => exact False.elim hq
theorem pe_callG (F : FnOkG X.prog X.w X.K X.mg X.base CX k f fd ps sp) (hgu : X.A.guards = some []) (hr : Room k X.A) (hg : Gl X x) (hm : X.mg x = some (.ref f)) (hk : PySem.W.keepIn X.K (.ref f) = true) (hb : Binds X.K fd ps ds) (hd : Vals dvs ds) (hx : Passes CX X E)
    (ha : PA X (e :: es) t) (hdb : (x == ("__debug__" : Str)) = false := by decide) (he : starEach (e :: es) X.env = (false, eval e X.env) :: starEach es X.env := by rfl) (hpl : (backTo pos (starEach es X.env)).any (·.1) = false := by rfl) :
    PE X (.Call (.Name x p) (e :: es) [] pos) (tCall sp dvs E t) := by
  refine ⟨fun pins s σ H Q I h => ?_⟩
  refine wpAny_Call_Name_kw (ld_glob I hg hm ?_ hdb)
  exact PySem.W.callWith_K (h₀ := X.base) I.ok.mod.kin hk (thn (ha.run pos pins s σ H _ I h) fun us s1 ⟨vs, H1, I1, r, q⟩ => ⟨I1.kIn, run_fnG F hgu hr hb hd hx I1 r q⟩) he hpl
end
end Pw
namespace Far
open PySem PySem.Spec PyProof.Rows L2 Pw
theorem res_scl' {St St' : Nat → List (Str × Onw)} (h : ∀ t, Scl (St t) (St' t)) {o : Option Nat} (hR : Res St' o) : Res St o := by
  cases o with
  | some K =>
    obtain ⟨h1, h2, h3⟩ := hR
    exact ⟨by rw [bT_scl h]; exact h1, h2, fun j hj => by rw [bT_scl h]; exact h3 j hj⟩
  | none =>
    obtain ⟨k, h1, h2, h3⟩ := hR
    exact ⟨k, fun j hj => by rw [bT_scl h]; exact h1 j hj, by rw [bT_scl h]; exact h2, by rw [bT_scl h]; exact h3⟩
structure Sd67 (xs sh : List Str) (m1 m2 : Nat) (s1 s2 : List Stp) (o : Option Nat) : Prop where
  d1 : SdB xs m1 s1
  d2 : SdB xs m2 s2
  few : xs.length ≤ 4
  nm : ∀ a ∈ xs, nmB a = true
  rs : Res (StB sh s1 s2) o
theorem Sd67.gd {xs sh : List Str} {m1 m2 : Nat} {s1 s2 : List Stp} {o : Option Nat} (h : Sd67 xs sh m1 m2 s1 s2 o) (K : Nat) (e : o = some K) : Good K (foS (StB sh s1 s2) K) := by
  subst e
  exact fo_B h.d1 h.d2 h.few h.nm h.rs
theorem Sd67.rs' {xs sh : List Str} {m1 m2 : Nat} {s1 s2 : List Stp} {o : Option Nat} (h : Sd67 xs sh m1 m2 s1 s2 o) : Res (StB sh (mkS s1) (mkS s2)) o := res_scl' (scl_up sh h.d1.gd h.d2.gd) h.rs
end Far
namespace Pw
open PySem PySem.Spec PyProof.Rows L2
end Pw
namespace Far
open PySem PySem.Spec PyProof.Rows L2 Pw
end Far
namespace Pw
open PySem PySem.Spec PySem.Calls PyProof.Rows L2
open Evl (Ex ex_l ex_t fresh_back)
section
open PySem.W
variable {K : PySem.W.Frag} {cl ob : Addr} {oe : Obj} {dd : Option Obj}
end
open PySem PySem.Spec PyProof.Rows L2
mutual
inductive DpZ (K : PySem.W.Frag) (H : Hp) : V → PyData → Prop
  | non : DpZ K H .non .none
  | bl (b : Bool) : DpZ K H (.bl b) (.bool b)
  | int (i : Int) : DpZ K H (.int i) (.int i)
  | str (x : Str) : DpZ K H (.str x) (.str x)
  | lst {a : Addr} {xs : List V} {ds : List PyData} : SqL K H a xs → DpZs K H xs ds → DpZ K H (.ref a) (.list ds)
  | tup {a : Addr} {xs : List V} {ds : List PyData} : SqT K H a xs → DpZs K H xs ds → DpZ K H (.ref a) (.tuple ds)
  | dic {a : Addr} {kvs : List (Key × V)} {ps : List (PyData × PyData)} : Rd H a (.dK kvs) → DpZk K H kvs ps → DpZ K H (.ref a) (.dict ps)
inductive DpZs (K : PySem.W.Frag) (H : Hp) : List V → List PyData → Prop
  | nil : DpZs K H [] []
  | cons {v : V} {vs : List V} {d : PyData} {ds : List PyData} : DpZ K H v d → DpZs K H vs ds → DpZs K H (v :: vs) (d :: ds)
inductive DpZk (K : PySem.W.Frag) (H : Hp) : List (Key × V) → List (PyData × PyData) → Prop
  | nil : DpZk K H [] []
  | cons {x : Str} {v : V} {kvs : List (Key × V)} {d : PyData} {ps : List (PyData × PyData)} : DpZ K H v d → DpZk K H kvs ps → DpZk K H ((.inr x, v) :: kvs) ((.str x, d) :: ps)
end
mutual
inductive DPz : D → PyData → Prop
  | non : DPz .non .none
  | bl (b : Bool) : DPz (.bl b) (.bool b)
  | int (i : Int) : DPz (.int i) (.int i)
  | str (x : Str) : DPz (.str x) (.str x)
  | lst {ds : List D} {ps : List PyData} : DPzs ds ps → DPz (.lst ds) (.list ps)
  | tup {ds : List D} {ps : List PyData} : DPzs ds ps → DPz (.tup ds) (.tuple ps)
  | dic0 : DPz (.dic []) (.dict [])
  | dic1 {x : Str} {d : D} {p : PyData} : DPz d p → DPz (.dic [(.inr x, d)]) (.dict [(.str x, p)])
inductive DPzs : List D → List PyData → Prop
  | nil : DPzs [] []
  | cons {d : D} {ds : List D} {p : PyData} {ps : List PyData} : DPz d p → DPzs ds ps → DPzs (d :: ds) (p :: ps)
end
section
variable {T : Cfg} {Hb H : Hp}
mutual
theorem DPz.dp (ex : Ex Hb H) : ∀ (p : PyData) (d : D) (v : V), DPz d p → Rep T Hb d v → DpZ T.K H v p
  | .none, _, _, h, r => by cases h; cases r; exact .non
  | .bool b, _, _, h, r => by cases h; cases r; exact .bl b
  | .int i, _, _, h, r => by cases h; cases r; exact .int i
  | .str x, _, _, h, r => by cases h; cases r; exact .str x
  | .list ps, _, _, h, r => by
    cases h with
    | lst hl =>
      obtain ⟨a, xs, rfl, ha, rl⟩ := r.lst_inv
      exact .lst (Evl.sq_of (ex _ _ ha)) (DPzs.dp ex ps _ xs hl rl)
  | .tuple ps, _, _, h, r => by
    cases h with
    | tup hl =>
      obtain ⟨a, xs, rfl, ha, rl⟩ := r.tup_inv
      exact .tup (ex_t ex ha) (DPzs.dp ex ps _ xs hl rl)
  | .dict [], _, _, h, r => by
    cases h
    obtain ⟨a, fs, rfl, ha, e, rr⟩ := r.dic_inv
    cases fs with
    | nil => exact .dic (.inl (ex _ _ ha)) .nil
    | cons x l => cases e
  | .dict ((k, p) :: ps), _, _, h, r => by
    cases h with
    | dic1 h1 =>
      obtain ⟨a, fs, rfl, ha, e, rr⟩ := r.dic_inv
      match fs, e with
      | [(k, v)], e =>
        have ek : _ = k := List.cons.inj e |>.1
        have ek : Sum.inr _ = k := ek
        subst ek
        exact .dic (.inl (ex _ _ ha)) (.cons (DPz.dp ex p _ v h1 (rr 0 _ _ rfl rfl)) .nil)
theorem DPzs.dp (ex : Ex Hb H) : ∀ (ps : List PyData) (ds : List D) (vs : List V), DPzs ds ps → RepL T Hb ds vs → DpZs T.K H vs ps
  | [], _, _, h, r => by
    cases h
    obtain rfl := r.nil_inv
    exact .nil
  | p :: ps, _, _, h, r => by
    cases h with
    | cons h1 h2 =>
      obtain ⟨v, ys, rfl, r1, r2⟩ := r.cons_inv
      exact .cons (DPz.dp ex p _ v h1 r1) (DPzs.dp ex ps _ ys h2 r2)
end
variable {P : D → Mu → Prop} {μ : Mu}
end
end Pw
namespace Far
open PySem PySem.Spec PyProof.Rows L2 Pw Cg
inductive Any9 (T : Cfg) : D → Prop
  | of {d : D} (h : Th0 T d) (h1 : kindOf d "list" = false) (h2 : kindOf d "tuple" = false) : Any9 T d
  | lst {ds : List D} (h : Th0 T (.lst ds)) (l : ds.length ≤ 100) (k : ∀ e ∈ ds, Any9 T e) : Any9 T (.lst ds)
  | tup {ds : List D} (h : Th0 T (.tup ds)) (l : ds.length ≤ 100) (k : ∀ e ∈ ds, Any9 T e) : Any9 T (.tup ds)
theorem Any9.th {T : Cfg} {d : D} (h : Any9 T d) : Th0 T d := by
  cases h <;> assumption
theorem Any9.li {T : Cfg} {ds : List D} (h : Any9 T (.lst ds)) : ds.length ≤ 100 ∧ ∀ e ∈ ds, Any9 T e := by
  cases h with
  | of _ h1 _ => cases h1
  | lst _ l k => exact ⟨l, k⟩
theorem Any9.ti {T : Cfg} {ds : List D} (h : Any9 T (.tup ds)) : ds.length ≤ 100 ∧ ∀ e ∈ ds, Any9 T e := by
  cases h with
  | of _ _ h1 => cases h1
  | tup _ l k => exact ⟨l, k⟩
def strOf : D → Str
  | .str x => x
  | _ => ""
theorem strs_of : ∀ ds : List D, ds.all nameB = true → ds = (ds.map strOf).map D.str
  | [], _ => rfl
  | d :: ds, h => by
    rw [List.all_cons, Bool.and_eq_true] at h
    rw [List.map_cons, List.map_cons, ← strs_of ds h.2]
    cases d <;> first | rfl | (cases h.1)
def signsB : D → Bool
  | .lst ds => ds.all nameB && decide (ds.map strOf).Nodup
  | _ => false
def pairB : D → Bool
  | .tup ds => decide (ds.length = 2) && ds.all nameB
  | _ => false
def fstS : D → Str
  | .tup (a :: _) => strOf a
  | _ => ""
def sndS : D → Str
  | .tup (_ :: b :: _) => strOf b
  | _ => ""
def pairsB : D → Bool
  | .lst ds => ds.all pairB && (decide (ds.map fstS).Nodup && decide (ds.map sndS).Nodup)
  | _ => false
theorem pair_of {d : D} (h : pairB d = true) : ∃ x y, d = .tup [.str x, .str y] ∧ fstS d = x ∧ sndS d = y := by
  cases d with
  | tup ds =>
    have h : (decide (ds.length = 2) && ds.all nameB) = true := h
    rw [Bool.and_eq_true] at h
    have l := of_decide_eq_true h.1
    have e := strs_of ds h.2
    match ds, l, e with
    | [a, b], _, e =>
      injection e with e1 e2
      injection e2 with e2 _
      exact ⟨strOf a, strOf b, by rw [← e1, ← e2], rfl, rfl⟩
  | _ => cases h
def c_are_unlike9 (T : Cfg) : PC := fun ds P _ => ∃ xs : List Str, ds = [.lst (xs.map D.str)] ∧ xs.length ≤ 100 ∧ P (.bl (decide xs.Nodup))
def c_are_signs9 (T : Cfg) : PC := fun ds P _ => ∃ d, ds = [d] ∧ Any9 T d ∧ P (.bl (signsB d))
def c_is_pair9 (T : Cfg) : PC := fun ds P _ => ∃ d, ds = [d] ∧ Any9 T d ∧ P (.bl (pairB d))
def c_are_pairs9 (T : Cfg) : PC := fun ds P _ => ∃ d, ds = [d] ∧ Any9 T d ∧ P (.bl (pairsB d))
theorem len_are_unlike9 {T : Cfg} : ∀ ds μ P XP, pu (c_are_unlike9 T) ds μ P XP → ds.length = 1 := by
  rintro ds μ P XP ⟨rfl, Pf, Xf, ⟨xs, rfl, _⟩, _⟩; rfl
theorem len_are_signs9 {T : Cfg} : ∀ ds μ P XP, pu (c_are_signs9 T) ds μ P XP → ds.length = 1 := by
  rintro ds μ P XP ⟨rfl, Pf, Xf, ⟨d, rfl, _⟩, _⟩; rfl
theorem len_is_pair9 {T : Cfg} : ∀ ds μ P XP, pu (c_is_pair9 T) ds μ P XP → ds.length = 1 := by
  rintro ds μ P XP ⟨rfl, Pf, Xf, ⟨d, rfl, _⟩, _⟩; rfl
theorem len_are_pairs9 {T : Cfg} : ∀ ds μ P XP, pu (c_are_pairs9 T) ds μ P XP → ds.length = 1 := by
  rintro ds μ P XP ⟨rfl, Pf, Xf, ⟨d, rfl, _⟩, _⟩; rfl
def t_are_unlike9 (T : Cfg) (E : XK) : TS := (tRet (tOp rEq (tLenSetT T.K (tVar 0)) (tCB (Pw.rLen T.K) (tCons (tVar 0) tNil))))
def t_are_signs9 (T : Cfg) (E : XK) : TS := (tRet (tAndV (tCB (rIsi T.K) (tCons (tVar 0) (tCons (tC (.ty "list")) tNil))) (tAndV (tCB (rAll T.K) (tCons (tLc (iList T.K (tVar 0)) (gName 1) tYes (tCall (spOf T (pu (c_is_name T))) [] E0 (tCons (tVar 1) tNil)) [1]) tNil)) (tCall (spOf T (pu (c_are_unlike9 T))) [] E0 (tCons (tVar 0) tNil)))))
def t_is_pair9 (T : Cfg) (E : XK) : TS := (tRet (tAndV (tCB (rIsi T.K) (tCons (tVar 0) (tCons (tC (.ty "tuple")) tNil))) (tAndV (tOp rEq (tCB (Pw.rLen T.K) (tCons (tVar 0) tNil)) (tC (.int 2))) (tCB (rAll T.K) (tCons (tLc (iTup T.K (tVar 0)) (gName 1) tYes (tCall (spOf T (pu (c_is_name T))) [] E0 (tCons (tVar 1) tNil)) [1]) tNil)))))
def t_are_pairs9 (T : Cfg) (E : XK) : TS := (tSeq (tIfS (tOr (tNot (tB (tCB (rIsi T.K) (tCons (tVar 0) (tCons (tC (.ty "list")) tNil))))) (tNot (tB (tCB (rAll T.K) (tCons (tLc (iList T.K (tVar 0)) (gName 1) tYes (tCall (spOf T (pu (c_is_pair9 T))) [] E0 (tCons (tVar 1) tNil)) [1]) tNil))))) (tRet (tC (.bl false))) tNext)
    (tRet (tAndV (tCall (spOf T (pu (c_are_unlike9 T))) [] E0 (tCons (tLc (iList T.K (tVar 0)) (gTup T.K 2 (gCons (gName 2) (gCons (gName 3) gNil))) tYes (tVar 2) [2, 3]) tNil)) (tCall (spOf T (pu (c_are_unlike9 T))) [] E0 (tCons (tLc (iList T.K (tVar 0)) (gTup T.K 2 (gCons (gName 2) (gCons (gName 3) gNil))) tYes (tVar 3) [2, 3]) tNil)))))
theorem dup_short {α : Type} : ∀ {xs : List α}, ¬ xs.Nodup → ∃ ys : List α, ys.length < xs.length ∧ ∀ x ∈ xs, x ∈ ys := by
  classical
  intro xs
  induction xs with
  | nil => exact fun h => absurd .nil h
  | cons a l ih =>
    intro h
    by_cases ha : a ∈ l
    · exact ⟨l, Nat.lt_succ_self _, fun x hx => (List.mem_cons.1 hx).elim (fun e => e ▸ ha) id⟩
    · have hl : ¬ l.Nodup := fun n => h (List.nodup_cons.2 ⟨ha, n⟩)
      obtain ⟨ys, h1, h2⟩ := ih hl
      exact ⟨a :: ys, Nat.succ_lt_succ h1, fun x hx => (List.mem_cons.1 hx).elim (fun e => by rw [e]; exact List.mem_cons_self) fun h => List.mem_cons_of_mem _ (h2 x h)⟩
theorem pure_are_unlike9 {T : Cfg} (hT : ShOk T) : ∀ E ds μ P XP, pu (c_are_unlike9 T) ds μ P XP → SV T (t_are_unlike9 T E) (fun cls dd _ H => E cls dd H) ⟨slots 1 ds, μ⟩ (fnK P XP) := Hd.o (by
 simp (disch :=
 with_unfolding_all
 exact by
  rintro E ds μ P XP ⟨rfl, Pf, Xf, ⟨xs, rfl, hl, p⟩, hP, hX⟩
  unfold t_are_unlike9
  refine sv_ret (ev_op (ev_lenSetT (ev_var rfl ⟨xs, .inl rfl, by omega, fun L hL hm => ?_⟩)))
  walk_at "pks"
  refine cv_len (.inl rfl) ?_
  have e : decide (((L.length : Nat) : Int) = ((xs.map D.str).length : Nat)) = decide xs.Nodup := by
    rw [List.length_map]
    by_cases hn : xs.Nodup
    · have a := nodup_len hL fun k hk => (hm k).1 hk
      have b := nodup_len hn fun k hk => (hm k).2 hk
      rw [decide_eq_true hn, decide_eq_true (by omega)]
    · rw [decide_eq_false hn]
      refine decide_eq_false fun h => hn ?_
      have h : L.length = xs.length := by omega
      refine Classical.byContradiction fun hn => ?_
      obtain ⟨ys, h1, h2⟩ := dup_short hn
      have := nodup_len hL fun k hk => h2 k ((hm k).1 hk)
      omega
  refine ov_eqI ?_
  rw [e]
  exact hP _ p
 ) only [↓hE])
theorem pure_are_signs9 {T : Cfg} (hT : ShOk T) : ∀ E ds μ P XP, pu (c_are_signs9 T) ds μ P XP → SV T (t_are_signs9 T E) (fun cls dd _ H => E cls dd H) ⟨slots 2 ds, μ⟩ (fnK P XP) := Hd.o (by
 simp (disch :=
 with_unfolding_all
 exact by
  rintro E ds μ P XP ⟨rfl, Pf, Xf, ⟨d, rfl, hd, p⟩, hP, hX⟩
  obtain ⟨⟨t, ht⟩, _⟩ := hd.th
  unfold t_are_signs9
  walk_at "pks"
  refine cv_isiT ht.ty (ht.kd "list" (by decide)) ?_
  cases hk : kindOf d "list" with
  | false =>
    have e : signsB d = false := by
      cases d <;> first | rfl | (simp [kindOf, tagOf, kk] at hk)
    rw [e] at p
    walk_at "pks"
    exact hP _ p
  | true =>
    obtain ⟨es, rfl⟩ := lst_of hk
    obtain ⟨hl, he⟩ := hd.li
    walk_at "pks"
    refine ev_lcF ?_
    walk_at "pks"
    refine ⟨es, fun e => .bl (nameB e), .inl rfl, by omega, fun e h => ?_, ?_⟩
    · obtain ⟨⟨u, hu⟩, hs⟩ := (he e h).th
      walk_at "pks"
      exact ⟨e, u, rfl, hu, hs, rfl, rfl⟩
    · walk_at "pks"
      refine cv_all (bs := es.map nameB) (.inl (by simp)) ?_
      have ea : (es.map nameB).all id = es.all nameB := by rw [List.all_map]; rfl
      rw [ea]
      refine ⟨_, rfl, fun h => ?_, fun h => ?_⟩
      · have e := strs_of es h
        walk_at "pks"
        refine ⟨es.map strOf, by rw [← e], by simp; omega, hP _ ?_⟩
        have e2 : signsB (.lst es) = decide (es.map strOf).Nodup := by
          show (es.all nameB && _) = _
          rw [h]
          rfl
        rw [← e2]
        exact p
      · have e2 : signsB (.lst es) = false := by
          show (es.all nameB && _) = _
          rw [h]
          rfl
        rw [e2] at p
        exact hP _ p
 ) only [↓hE])
theorem pure_is_pair9 {T : Cfg} (hT : ShOk T) : ∀ E ds μ P XP, pu (c_is_pair9 T) ds μ P XP → SV T (t_is_pair9 T E) (fun cls dd _ H => E cls dd H) ⟨slots 2 ds, μ⟩ (fnK P XP) := Hd.o (by
 simp (disch :=
 with_unfolding_all
 exact by
  rintro E ds μ P XP ⟨rfl, Pf, Xf, ⟨d, rfl, hd, p⟩, hP, hX⟩
  obtain ⟨⟨t, ht⟩, _⟩ := hd.th
  unfold t_is_pair9
  walk_at "pks"
  refine cv_isiT ht.ty (ht.kd "tuple" (by decide)) ?_
  cases hk : kindOf d "tuple" with
  | false =>
    have e : pairB d = false := by
      cases d <;> first | rfl | (simp [kindOf, tagOf, kk] at hk)
    rw [e] at p
    walk_at "pks"
    exact hP _ p
  | true =>
    obtain ⟨es, rfl⟩ := tup_of hk
    obtain ⟨hl, he⟩ := hd.ti
    walk_at "pks"
    refine cv_lenT ?_
    walk_at "pks"
    refine ⟨fun h => ?_, fun h => ?_⟩
    · have h2 : (es.length : Int) = 2 := by simpa using h
      walk_at "pks"
      refine ev_lcU ?_
      walk_at "pks"
      refine ⟨es, fun e => .bl (nameB e), rfl, by omega, fun e h => ?_, ?_⟩
      · obtain ⟨⟨u, hu⟩, hs⟩ := (he e h).th
        walk_at "pks"
        exact ⟨e, u, rfl, hu, hs, rfl, rfl⟩
      · walk_at "pks"
        refine cv_all (bs := es.map nameB) (.inl (by simp)) ?_
        have ea : (es.map nameB).all id = es.all nameB := by rw [List.all_map]; rfl
        rw [ea]
        have e2 : pairB (.tup es) = es.all nameB := by
          show (decide (es.length = 2) && _) = _
          rw [decide_eq_true (by omega)]
          rfl
        rw [← e2]
        exact hP _ p
    · have h2 : ¬ (es.length : Int) = 2 := by simpa using h
      have e2 : pairB (.tup es) = false := by
        show (decide (es.length = 2) && _) = _
        rw [decide_eq_false (by omega)]
        rfl
      rw [e2] at p
      exact hP _ p
 ) only [↓hE])
theorem pure_are_pairs9 {T : Cfg} (hT : ShOk T) : ∀ E ds μ P XP, pu (c_are_pairs9 T) ds μ P XP → SV T (t_are_pairs9 T E) (fun cls dd _ H => E cls dd H) ⟨slots 4 ds, μ⟩ (fnK P XP) := Hd.o (by
 simp (disch :=
 with_unfolding_all
 exact by
  rintro E ds μ P XP ⟨rfl, Pf, Xf, ⟨d, rfl, hd, p⟩, hP, hX⟩
  obtain ⟨⟨t, ht⟩, _⟩ := hd.th
  unfold t_are_pairs9
  walk_at "pks"
  refine cv_isiT ht.ty (ht.kd "list" (by decide)) ?_
  cases hk : kindOf d "list" with
  | false =>
    have e : pairsB d = false := by
      cases d <;> first | rfl | (simp [kindOf, tagOf, kk] at hk)
    rw [e] at p
    walk_at "pks"
    exact hP _ p
  | true =>
    obtain ⟨es, rfl⟩ := lst_of hk
    obtain ⟨hl, he⟩ := hd.li
    walk_at "pks"
    refine ev_lcF ?_
    walk_at "pks"
    refine ⟨es, fun e => .bl (pairB e), .inl rfl, by omega, fun e h => ?_, ?_⟩
    · walk_at "pks"
      exact ⟨e, rfl, he e h, rfl, rfl⟩
    · walk_at "pks"
      refine cv_all (bs := es.map pairB) (.inl (by simp)) ?_
      have ea : (es.map pairB).all id = es.all pairB := by rw [List.all_map]; rfl
      rw [ea]
      cases ha : es.all pairB with
      | false =>
        have e2 : pairsB (.lst es) = false := by
          show (es.all pairB && _) = _
          rw [ha]
          rfl
        rw [e2] at p
        walk_at "pks"
        exact hP _ p
      | true =>
        have e2 : pairsB (.lst es) = (decide (es.map fstS).Nodup && decide (es.map sndS).Nodup) := by
          show (es.all pairB && _) = _
          rw [ha]
          rfl
        rw [e2] at p
        walk_at "pks"
        refine ev_lcF2 ?_
        walk_at "pks"
        refine ⟨es, fun e => .str (fstS e), .inl rfl, by omega, fun e h => ?_, ?_⟩
        · obtain ⟨x, y, rfl, e1, e2⟩ := pair_of (List.all_eq_true.1 ha e h)
          refine ⟨_, _, rfl, ?_⟩
          walk_at "pks"
          exact ⟨rfl, rfl⟩
        · walk_at "pks"
          refine ⟨es.map fstS, by rw [List.map_map]; rfl, by simp; omega, ?_⟩
          refine ⟨_, rfl, fun n1 => ?_, fun n1 => ?_⟩
          · walk_at "pks"
            refine ev_lcF2 ?_
            walk_at "pks"
            refine ⟨es, fun e => .str (sndS e), .inl rfl, by omega, fun e h => ?_, ?_⟩
            · obtain ⟨x, y, rfl, e1, e2⟩ := pair_of (List.all_eq_true.1 ha e h)
              refine ⟨_, _, rfl, ?_⟩
              walk_at "pks"
              exact ⟨rfl, rfl⟩
            · walk_at "pks"
              refine ⟨es.map sndS, by rw [List.map_map]; rfl, by simp; omega, hP _ ?_⟩
              rw [n1, Bool.true_and] at p
              exact p
          · rw [n1, Bool.false_and] at p
            exact hP _ p
 ) only [↓hE])
open PySem PySem.Spec PyProof.Rows L2 Pw
def cutS (x : Str) (c : Str) : List Str := if x = "-" then [] else Txt.split x c
def sgO (x : Str) : D := if signsB (.lst ((cutS x ",").map D.str)) = true then strsT (cutS x ",") else .non
def prLs (x : Str) : List D := (cutS x ",").map fun y => .tup ((Txt.split y ">").map D.str)
def prO (x : Str) : D := if pairsB (.lst (prLs x)) = true then .tup (prLs x) else .non
structure RcOk (T : Cfg) : Prop where
  sh : ShOk T
  kt : KtS T.K (He.ga T.K "WORDS") sevens
def c_is_part_name (T : Cfg) : PC := fun ds P _ => ∃ x : Str, ds = [.str x] ∧ x.length ≤ 100000 ∧ P (.bl (nmB x && !decide (x ∈ sevens)))
def c_sign_in (T : Cfg) : PC := fun ds P _ => ∃ x : Str, ds = [.str x] ∧ x.length ≤ 100000 ∧ P (if nmB x = true then .str x else .non)
def c_signs_in (T : Cfg) : PC := fun ds P _ => ∃ x : Str, ds = [.str x] ∧ x.length ≤ 10000 ∧ (cutS x ",").length ≤ 100 ∧ (∀ y ∈ cutS x ",", y.length ≤ 10000) ∧ P (sgO x)
def c_pairs_in (T : Cfg) : PC := fun ds P _ => ∃ x : Str, ds = [.str x] ∧ x.length ≤ 10000 ∧ (cutS x ",").length ≤ 100 ∧ (∀ y ∈ cutS x ",", y.length ≤ 10000 ∧ (Txt.split y ">").length ≤ 100 ∧ ∀ z ∈ Txt.split y ">", z.length ≤ 10000) ∧ P (prO x)
def c_weight_in (T : Cfg) : PC := fun ds P _ => ∃ k : Nat, ds = [.str (nuS k)] ∧ (1 ≤ k ∧ k ≤ 1000) ∧ P (.int (k : Int))
theorem len_weight_in {T : Cfg} : ∀ ds μ P XP, pu (c_weight_in T) ds μ P XP → ds.length = 1 := by
  rintro ds μ P XP ⟨rfl, Pf, Xf, ⟨k, rfl, _⟩, _⟩; rfl
theorem len_is_part_name {T : Cfg} : ∀ ds μ P XP, pu (c_is_part_name T) ds μ P XP → ds.length = 1 := by
  rintro ds μ P XP ⟨rfl, Pf, Xf, ⟨x, rfl, _⟩, _⟩; rfl
theorem len_sign_in {T : Cfg} : ∀ ds μ P XP, pu (c_sign_in T) ds μ P XP → ds.length = 1 := by
  rintro ds μ P XP ⟨rfl, Pf, Xf, ⟨x, rfl, _⟩, _⟩; rfl
theorem len_signs_in {T : Cfg} : ∀ ds μ P XP, pu (c_signs_in T) ds μ P XP → ds.length = 1 := by
  rintro ds μ P XP ⟨rfl, Pf, Xf, ⟨x, rfl, _⟩, _⟩; rfl
theorem len_pairs_in {T : Cfg} : ∀ ds μ P XP, pu (c_pairs_in T) ds μ P XP → ds.length = 1 := by
  rintro ds μ P XP ⟨rfl, Pf, Xf, ⟨x, rfl, _⟩, _⟩; rfl
def t_is_part_name (T : Cfg) (E : XK) : TS := (tRet (tAndV (tCall (spOf T (pu (c_is_name T))) [] E0 (tCons (tVar 0) tNil)) (tOp (rIn T.K true) (tVar 0) (tC (.ref (He.ga T.K "WORDS"))))))
def t_sign_in (T : Cfg) (E : XK) : TS := (tRet (tIf (tB (tCall (spOf T (pu (c_is_name T))) [] E0 (tCons (tVar 0) tNil))) (tVar 0) (tC .non)))
def t_signs_in (T : Cfg) (E : XK) : TS := (tSeq (tAsg (tIf (tTest (tOp rEq (tVar 0) (tC (.str "-")))) (tLst tNil) (tSplitS (tVar 0) (tC (.str ",")))) (gName 1))
    (tRet (tIf (tB (tCall (spOf T (pu (c_are_signs9 T))) [] E0 (tCons (tVar 1) tNil))) (tCB (rTupOf T.K) (tCons (tVar 1) tNil)) (tC .non))))
def t_pairs_in (T : Cfg) (E : XK) : TS := (tSeq (tAsg (tIf (tTest (tOp rEq (tVar 0) (tC (.str "-")))) (tLst tNil) (tLc (iList T.K (tSplitS (tVar 0) (tC (.str ",")))) (gName 2) tYes (tCB (rTupOf T.K) (tCons (tSplitS (tVar 2) (tC (.str ">"))) tNil)) [2])) (gName 1))
    (tRet (tIf (tB (tCall (spOf T (pu (c_are_pairs9 T))) [] E0 (tCons (tVar 1) tNil))) (tCB (rTupOf T.K) (tCons (tVar 1) tNil)) (tC .non))))
def t_weight_in (T : Cfg) (E : XK) : TS := (tSeq (tIfS (tOr (tNot (tTest (tChain (rI0 fun i j => .bl (decide (i ≤ j))) (rI0 fun i j => .bl (decide (i ≤ j))) (tC (.int 1)) (tCB (Pw.rLen T.K) (tCons (tVar 0) tNil)) (tC (.int 4))))) (tOr (tNot (tB (tCB (rAll T.K) (tCons (tLc (iStr (tVar 0)) (gName 1) tYes (tOp rInC (tVar 1) (tC (.str "0123456789"))) [1]) tNil)))) (tTest (tOp rEq (tOp rIxS (tVar 0) (tC (.int 0))) (tC (.str "0")))))) (tRet (tC .non)) tNext)
    (tRet (tIf (tTest (tOp (rI0 fun i j => .bl (decide (i ≤ j))) (tCB rIntS (tCons (tVar 0) tNil)) (tC (.int 1000)))) (tCB rIntS (tCons (tVar 0) tNil)) (tC .non))))
theorem name_s {T : Cfg} (hS : ShOk T) {x : Str} {P : D → Prop} {X : XD → Prop} (hl : x.length ≤ 100000) (p : P (.bl (nmB x))) : c_is_name T [.str x] P X := ⟨.str x, _, rfl, th_str hS x, fun y e => by cases e; exact hl, p⟩
theorem pure_is_part_name {T : Cfg} (hC : RcOk T) : ∀ E ds μ P XP, pu (c_is_part_name T) ds μ P XP → SV T (t_is_part_name T E) (fun cls dd _ H => E cls dd H) ⟨slots 1 ds, μ⟩ (fnK P XP) := Hd.o (by
 simp (disch :=
 with_unfolding_all
 exact by
  rintro E ds μ P XP ⟨rfl, Pf, Xf, ⟨x, rfl, hl, p⟩, hP, hX⟩
  have hS := hC.sh
  unfold t_is_part_name
  walk_at "pks"
  refine name_s hS hl ?_
  refine ⟨_, rfl, fun h => ?_, fun h => ?_⟩
  · rw [h, Bool.true_and] at p
    refine ev_op (ev_var rfl (ev_ktS hC.kt (ov_ninT ?_)))
    walk_at "pks"
    exact hP _ p
  · rw [h, Bool.false_and] at p
    walk_at "pks"
    exact hP _ p
 ) only [↓hE])
theorem pure_sign_in {T : Cfg} (hS : ShOk T) : ∀ E ds μ P XP, pu (c_sign_in T) ds μ P XP → SV T (t_sign_in T E) (fun cls dd _ H => E cls dd H) ⟨slots 1 ds, μ⟩ (fnK P XP) := Hd.o (by
 simp (disch :=
 with_unfolding_all
 exact by
  rintro E ds μ P XP ⟨rfl, Pf, Xf, ⟨x, rfl, hl, p⟩, hP, hX⟩
  unfold t_sign_in
  walk_at "pks"
  refine name_s hS hl ?_
  refine ⟨_, rfl, fun h => ?_, fun h => ?_⟩
  · rw [if_pos h] at p
    walk_at "pks"
    exact hP _ p
  · rw [if_neg (by rw [h]; decide)] at p
    walk_at "pks"
    exact hP _ p
 ) only [↓hE])
theorem strs_map_nm {xs : List Str} : (xs.map D.str).all nameB = xs.all nmB := by
  induction xs with
  | nil => rfl
  | cons a l ih => rw [List.map_cons, List.all_cons, List.all_cons, ih]; rfl
theorem any_strs {T : Cfg} (hS : ShOk T) {xs : List Str} (hl : xs.length ≤ 100) (hx : ∀ x ∈ xs, x.length ≤ 10000) : ∀ e ∈ xs.map D.str, Any9 T e := by
  intro e he
  obtain ⟨x, hm, rfl⟩ := List.mem_map.1 he
  exact .of (th0_str hS (by have := hx x hm; omega)) rfl rfl
theorem pure_signs_in {T : Cfg} (hS : ShOk T) : ∀ E ds μ P XP, pu (c_signs_in T) ds μ P XP → SV T (t_signs_in T E) (fun cls dd _ H => E cls dd H) ⟨slots 2 ds, μ⟩ (fnK P XP) := Hd.o (by
 simp (disch :=
 with_unfolding_all
 exact by
  rintro E ds μ P XP ⟨rfl, Pf, Xf, ⟨x, rfl, hl, hn, hy, p⟩, hP, hX⟩
  have tail : SV T (tRet (tIf (tB (tCall (spOf T (pu (c_are_signs9 T))) [] E0 (tCons (tVar 1) tNil))) (tCB (rTupOf T.K) (tCons (tVar 1) tNil)) (tC .non))) (fun cls dd _ H => E cls dd H) ⟨(slots 2 [D.str x]).set 1 (some (.lst ((cutS x ",").map D.str))), mu0⟩ (fnK P XP) := by
    walk_at "pks"
    refine ⟨_, rfl, Any9.lst (th0_lst hS _) (by simpa using hn) (any_strs hS hn hy), ?_⟩
    refine ⟨_, rfl, fun h => ?_, fun h => ?_⟩
    · unfold sgO at p
      rw [if_pos h] at p
      walk_at "pks"
      exact cv_tupI (.inl rfl) (hP _ p)
    · unfold sgO at p
      rw [if_neg (by rw [h]; decide)] at p
      walk_at "pks"
      exact hP _ p
  unfold t_signs_in
  refine sv_seq (sv_asg (ev_if (tv_test (ev_op (ev_var rfl (ev_str (ov_eqS ?_)))))))
  refine ⟨_, rfl, fun h => ?_, fun h => ?_⟩
  · have e : cutS x "," = [] := by
      unfold cutS
      exact if_pos (of_decide_eq_true h)
    rw [e] at tail
    exact ev_lst (ea_nil ⟨by decide, tail⟩)
  · have e : cutS x "," = Txt.split x "," := by
      unfold cutS
      exact if_neg (of_decide_eq_false h)
    rw [e] at tail
    refine ev_split ?_
    walk_at "pks"
    refine ⟨_, rfl, ?_⟩
    refine ev_str ⟨_, rfl, by decide, by have : sizeLine = 16777216 := by decide
                                         omega, tail⟩
 ) only [↓hE])
theorem pure_pairs_in {T : Cfg} (hS : ShOk T) : ∀ E ds μ P XP, pu (c_pairs_in T) ds μ P XP → SV T (t_pairs_in T E) (fun cls dd _ H => E cls dd H) ⟨slots 3 ds, μ⟩ (fnK P XP) := Hd.o (by
 simp (disch :=
 with_unfolding_all
 exact by
  rintro E ds μ P XP ⟨rfl, Pf, Xf, ⟨x, rfl, hl, hn, hy, p⟩, hP, hX⟩
  have hsl : sizeLine = 16777216 := by decide
  have tail : SV T (tRet (tIf (tB (tCall (spOf T (pu (c_are_pairs9 T))) [] E0 (tCons (tVar 1) tNil))) (tCB (rTupOf T.K) (tCons (tVar 1) tNil)) (tC .non))) (fun cls dd _ H => E cls dd H) ⟨(slots 3 [D.str x]).set 1 (some (.lst (prLs x))), mu0⟩ (fnK P XP) := by
    walk_at "pks"
    refine ⟨_, rfl, Any9.lst (th0_lst hS _) (by unfold prLs; simpa using hn) (fun e he => ?_), ?_⟩
    · unfold prLs at he
      obtain ⟨y, hm, rfl⟩ := List.mem_map.1 he
      have := hy y hm
      exact .tup (th0_tup hS _) (by simpa using this.2.1) (any_strs hS this.2.1 this.2.2)
    refine ⟨_, rfl, fun h => ?_, fun h => ?_⟩
    · unfold prO at p
      rw [if_pos h] at p
      walk_at "pks"
      exact cv_tupI (.inl rfl) (hP _ p)
    · unfold prO at p
      rw [if_neg (by rw [h]; decide)] at p
      walk_at "pks"
      exact hP _ p
  unfold t_pairs_in
  refine sv_seq (sv_asg (ev_if (tv_test (ev_op (ev_var rfl (ev_str (ov_eqS ?_)))))))
  refine ⟨_, rfl, fun h => ?_, fun h => ?_⟩
  · have e : prLs x = [] := by
      unfold prLs cutS
      rw [if_pos (of_decide_eq_true h)]
      rfl
    rw [e] at tail
    exact ev_lst (ea_nil ⟨by decide, tail⟩)
  · have e : prLs x = ((Txt.split x ",").map D.str).map fun d => .tup ((Txt.split (strOf d) ">").map D.str) := by
      unfold prLs cutS
      rw [if_neg (of_decide_eq_false h), List.map_map]
      rfl
    have ec : cutS x "," = Txt.split x "," := by
      unfold cutS
      exact if_neg (of_decide_eq_false h)
    rw [e] at tail
    rw [ec] at hn hy
    refine ev_lcF (ev_split ?_)
    walk_at "pks"
    refine ⟨_, rfl, ?_⟩
    refine ev_str ⟨_, rfl, by decide, by omega, ?_⟩
    refine ⟨_, fun d => .tup ((Txt.split (strOf d) ">").map D.str), .inl rfl, by rw [List.length_map]; omega, fun e he => ?_, tail⟩
    obtain ⟨y, hm, rfl⟩ := List.mem_map.1 he
    have := hy y hm
    refine ev_cb (ea_cons (ev_split ?_))
    walk_at "pks"
    refine ⟨_, rfl, ?_⟩
    refine ev_str ⟨_, rfl, by decide, by omega, ?_⟩
    exact ea_nil (cv_tupI (.inl rfl) ⟨rfl, rfl⟩)
 ) only [↓hE])
theorem numL_four {k : Nat} (h : k ≤ 1000) : (TL.numL k).length ≤ 4 := TL.numL_len (n := k) (k := 4) (by decide) (by omega)
theorem pure_weight_in {T : Cfg} (hS : ShOk T) : ∀ E ds μ P XP, pu (c_weight_in T) ds μ P XP → SV T (t_weight_in T E) (fun cls dd _ H => E cls dd H) ⟨slots 2 ds, μ⟩ (fnK P XP) := Hd.o (by
 simp (disch :=
 with_unfolding_all
 exact by
  rintro E ds μ P XP ⟨rfl, Pf, Xf, ⟨n, rfl, hk, p⟩, hP, hX⟩
  have hl := numL_four hk.2
  have hl2 := numL_pos n
  have ln : (nuS n).length = (TL.numL n).length := nuS_len n
  unfold t_weight_in
  refine sv_seq (sv_if (tv_or (tv_not (tv_test (ev_chain ?_)))))
  walk_at "pks"
  refine cv_lenS (by omega) ?_
  walk_at "pks"
  refine ⟨fun _ => ?_, fun h => ?_⟩
  rotate_left
  · have := of_decide_eq_false h
    omega
  walk_at "pks"
  refine ⟨fun _ => ?_, fun h => ?_⟩
  rotate_left
  · have h : ¬ ((nuS n).length : Int) ≤ 4 := by simpa using h
    omega
  refine tv_or (tv_not (tv_B (ev_cb (ea_cons (ev_lcSB (f := fun c => decide (c ∈ figS.cps.toList)) ?_)))))
  walk_at "pks"
  refine ⟨nuS n, rfl, (by show (nuS n).length ≤ 100000; omega), fun c hc => ?_, ?_⟩
  · walk_at "pks"
    exact ov_inC ⟨rfl, rfl⟩
  walk_at "pks"
  refine cv_all (bs := (nuS n).cps.toList.map fun c => decide (c ∈ figS.cps.toList)) (.inl rfl) ?_
  have all : ((nuS n).cps.toList.map fun c => decide (c ∈ figS.cps.toList)).all id = true := by
    rw [List.all_map, List.all_eq_true]
    intro c hc
    rw [nuS_tl] at hc
    have := TL.numL_digits n c hc
    exact decide_eq_true (fig_abc c this.1 this.2)
  rw [all]
  have n0 : n ≠ 0 := by omega
  cases hc : TL.numL n with
  | nil => exact absurd hc (TL.numL_ne n)
  | cons c l =>
    have c48 := numL_head n0 c l hc
    have ne : ¬ (⟨#[c]⟩ : Str) = Str.ofString "0" := fun e => by
      have e2 : ((⟨#[c]⟩ : Str)).cps.toList = (Str.ofString "0").cps.toList := by rw [e]
      have e3 : (Str.ofString "0").cps.toList = [48] := by decide +kernel
      rw [e3] at e2
      exact c48 (by simpa using e2)
    refine ⟨_, rfl, fun h => ?_, fun h => by cases h⟩
    refine tv_test ?_
    walk_at "pks"
    refine ov_ixS (c := c) (by show (nuS n).length ≤ 100000; omega) (by rw [nuS_tl, hc]; exact at_nat (k := 0) rfl) ?_
    walk_at "pks"
    rw [decide_eq_false ne]
    refine ⟨fun h => (by cases h), fun _ => ?_⟩
    have e640 : (nuS n).length ≤ 640 := by omega
    walk_at "pks"
    refine cv_intS (nuS_int (by omega)) e640 ?_
    walk_at "pks"
    refine ⟨fun _ => ?_, fun h => ?_⟩
    · walk_at "pks"
      exact cv_intS (nuS_int (by omega)) e640 (hP _ p)
    · have := of_decide_eq_false h
      omega
 ) only [↓hE])
theorem dash_no {as : List Str} (h : SgsOk as) : as ≠ [] → Txt.join "," as ≠ "-" := fun hne e => by
  have h2 := split_sg hne h.nm
  rw [e] at h2
  have h3 : Txt.split "-" "," = [("-" : Str)] := by decide +kernel
  rw [h3] at h2
  have := h.nm "-" (by rw [← h2]; simp)
  exact absurd this (by decide +kernel)
theorem cut_sg {as : List Str} (h : SgsOk as) : cutS (sgW as) "," = as := by
  unfold sgW cutS
  by_cases hne : as = []
  · rw [if_pos hne, if_pos rfl, hne]
  · rw [if_neg hne, if_neg (dash_no h hne)]
    exact split_sg hne h.nm
theorem sg_read {as : List Str} (h : SgsOk as) : sgO (sgW as) = strsT as := by
  unfold sgO
  rw [cut_sg h]
  refine if_pos ?_
  show ((as.map D.str).all nameB && decide ((as.map D.str).map strOf).Nodup) = true
  rw [strs_map_nm, List.map_map, show strOf ∘ D.str = id from rfl, List.map_id, decide_eq_true h.nd, Bool.and_true]
  exact List.all_eq_true.2 h.nm
theorem dash_no2 {ps : List (Str × Str)} (h : PrsOk ps) : ps ≠ [] → Txt.join "," (ps.map arrW) ≠ "-" := fun hne e => by
  have h2 := split_prs hne h.nm
  rw [e] at h2
  have h3 : Txt.split "-" "," = [("-" : Str)] := by decide +kernel
  rw [h3] at h2
  cases ps with
  | nil => exact hne rfl
  | cons p l =>
    injection h2 with h4 _
    have h5 := arr_tl p
    rw [← h4] at h5
    have h6 : ("-" : Str).cps.toList = [45] := by decide +kernel
    rw [h6] at h5
    cases he : p.1.cps.toList with
    | nil => rw [he] at h5; simp at h5
    | cons a t => rw [he] at h5; simp at h5
theorem cut_pr {ps : List (Str × Str)} (h : PrsOk ps) : cutS (prW ps) "," = ps.map arrW := by
  unfold prW cutS
  by_cases hne : ps = []
  · rw [if_pos hne, if_pos rfl, hne]
    rfl
  · rw [if_neg hne, if_neg (dash_no2 h hne)]
    exact split_prs hne h.nm
theorem prL_eq {ps : List (Str × Str)} (h : PrsOk ps) : prLs (prW ps) = ps.map rpT := by
  unfold prLs
  rw [cut_pr h, List.map_map]
  refine List.map_congr_left fun p hp => ?_
  show D.tup ((Txt.split (arrW p) ">").map D.str) = _
  rw [split_arr (h.nm p hp)]
  rfl
theorem pr_read {ps : List (Str × Str)} (h : PrsOk ps) : prO (prW ps) = .tup (ps.map rpT) := by
  unfold prO
  rw [prL_eq h]
  refine if_pos ?_
  show ((ps.map rpT).all pairB && (decide ((ps.map rpT).map fstS).Nodup && decide ((ps.map rpT).map sndS).Nodup)) = true
  rw [List.map_map, List.map_map, show fstS ∘ rpT = (·.1) from rfl, show sndS ∘ rpT = (·.2) from rfl, decide_eq_true h.n1, decide_eq_true h.n2, Bool.and_true, Bool.and_true]
  refine List.all_eq_true.2 fun d hd => ?_
  obtain ⟨p, hp, rfl⟩ := List.mem_map.1 hd
  have := h.nm p hp
  show (decide ([D.str p.1, D.str p.2].length = 2) && (nmB p.1 && (nmB p.2 && true))) = true
  rw [this.1, this.2]
  rfl
theorem join_len8 {b : Nat} {ys : List Str} (hn : ys.length ≤ 100) (h : ∀ y ∈ ys, y.length ≤ b) : (Txt.join "," ys).length ≤ 100 * b + 100 := by
  have h0 := StrLaws.join_length_le "," ys
  have h1 : (ys.map (·.length)).sum ≤ ys.length * b := by
    clear h0 hn
    induction ys with
    | nil => simp
    | cons y ys ih =>
      have h1 := h y (by simp)
      have h2 := ih fun z hz => h z (by simp [hz])
      rw [List.map_cons, List.sum_cons, List.length_cons, Nat.add_mul]
      omega
  have h2 : ys.length * b ≤ 100 * b := Nat.mul_le_mul_right _ hn
  have h3 : ("," : Str).length = 1 := by decide
  rw [TL.join_eq]
  rw [h3] at h0
  omega
theorem sg_len {as : List Str} (h : SgsOk as) : (sgW as).length ≤ 1000 := by
  unfold sgW
  split
  · decide
  · have := join_len8 (b := 8) h.ln fun y hy => (nm_len8 (h.nm y hy)).2
    omega
theorem arr_len {p : Str × Str} (h : nmB p.1 = true ∧ nmB p.2 = true) : (arrW p).length ≤ 17 := by
  have h1 := nm_len8 h.1
  have h2 := nm_len8 h.2
  have e : (arrW p).length = (arrW p).cps.toList.length := by rw [Array.length_toList]; rfl
  have e1 : p.1.length = p.1.cps.toList.length := by rw [Array.length_toList]; rfl
  have e2 : p.2.length = p.2.cps.toList.length := by rw [Array.length_toList]; rfl
  rw [e, arr_tl, List.length_append, List.length_cons]
  omega
theorem pr_len {ps : List (Str × Str)} (h : PrsOk ps) : (prW ps).length ≤ 2000 := by
  unfold prW
  split
  · decide
  · have := join_len8 (b := 17) (ys := ps.map arrW) (by simpa using h.ln) fun y hy => by
      obtain ⟨p, hp, rfl⟩ := List.mem_map.1 hy
      exact arr_len (h.nm p hp)
    omega
structure RdOk (T : Cfg) : Prop extends RcOk T where
  cl : Cls T.K (T.cls 3)
  nw : NoAttr T.K (T.cls 3) "words"
  na : NoAttr T.K (T.cls 3) "at"
def rdO (ws : List Str) (k : Nat) : MO := .ins 3 [("words", .lst (ws.map D.str)), ("at", .int (k : Int))]
inductive Tells (T : Cfg) : Addr → Str → D → Prop
  | sign {x : Str} (h : nmB x = true) : Tells T (He.ga T.K "sign_in") x (.str x)
  | signs {as : List Str} (h : SgsOk as) : Tells T (He.ga T.K "signs_in") (sgW as) (strsT as)
  | pairs {ps : List (Str × Str)} (h : PrsOk ps) : Tells T (He.ga T.K "pairs_in") (prW ps) (.tup (ps.map rpT))
  | weight {k : Nat} (h : 1 ≤ k ∧ k ≤ 1000) : Tells T (He.ga T.K "weight_in") (nuS k) (.int (k : Int))
def c_Reading___init__ (T : Cfg) : Ct := fun ds μ P _ => ∃ (s : Addr) (ws : List Str), ds = [.ptr s, .lst (ws.map D.str)] ∧ μ s = some (.ins 3 []) ∧ P .non (put μ s (rdO ws 0))
def c_Reading_word (T : Cfg) : Ct := fun ds μ P _ => ∃ (s : Addr) (ws : List Str) (k : Nat) (x : Str), ds = [.ptr s] ∧ μ s = some (rdO ws k) ∧ ws.length ≤ 100000 ∧ k < 30 ∧ ws[k]? = some x ∧ P (.str x) (put μ s (rdO ws (k + 1)))
def c_Reading_told (T : Cfg) : Ct := fun ds μ P _ => ∃ (s b : Addr) (ws : List Str) (k : Nat) (x : Str) (d : D), ds = [.ptr s, .ptr b] ∧ μ s = some (rdO ws k) ∧ ws.length ≤ 100000 ∧ k < 30 ∧ ws[k]? = some x ∧ Tells T b x d ∧ P d (put μ s (rdO ws (k + 1)))
def c_Reading_next_recipe (T : Cfg) (n : Nat) : Ct := fun ds μ P _ => ∃ (s : Addr) (ws rest : List Str) (k : Nat) (r : Rcp), ds = [.ptr s] ∧ μ s = some (rdO ws k) ∧ ws.length ≤ 100000 ∧ ws.drop k = wdsR r ++ rest ∧ okR r ∧ htR r ≤ n ∧ k + (wdsR r).length ≤ 30 ∧ P (rcD r) (put μ s (rdO ws (k + (wdsR r).length)))
def c_read_recipe (T : Cfg) : PC := fun ds P _ => ∃ (x : Str) (r : Rcp), ds = [.str x] ∧ x.length ≤ 100000 ∧ Txt.split x " " = wdsR r ∧ okR r ∧ (wdsR r).length ≤ 30 ∧ P (rcD r)
theorem len_Reading___init__ {T : Cfg} : ∀ ds μ P XP, c_Reading___init__ T ds μ P XP → ds.length = 2 := by
  rintro ds μ P XP ⟨s, ws, rfl, _⟩; rfl
theorem len_Reading_word {T : Cfg} : ∀ ds μ P XP, c_Reading_word T ds μ P XP → ds.length = 1 := by
  rintro ds μ P XP ⟨s, ws, k, x, rfl, _⟩; rfl
theorem len_Reading_told {T : Cfg} : ∀ ds μ P XP, c_Reading_told T ds μ P XP → ds.length = 2 := by
  rintro ds μ P XP ⟨s, b, ws, k, x, d, rfl, _⟩; rfl
theorem len_Reading_next_recipe {T : Cfg} {n : Nat} : ∀ ds μ P XP, c_Reading_next_recipe T n ds μ P XP → ds.length = 1 := by
  rintro ds μ P XP ⟨s, ws, rest, k, r, rfl, _⟩; rfl
theorem len_read_recipe {T : Cfg} : ∀ ds μ P XP, pu (c_read_recipe T) ds μ P XP → ds.length = 1 := by
  rintro ds μ P XP ⟨rfl, Pf, Xf, ⟨x, r, rfl, _⟩, _⟩; rfl
theorem no_Reading_next_recipe {T : Cfg} : ∀ ds μ P XP, c_Reading_next_recipe T 0 ds μ P XP → False := by
  rintro ds μ P XP ⟨s, ws, rest, k, r, rfl, _, _, _, _, h, _⟩
  have := ht_pos r
  omega
def t_Reading___init__ (T : Cfg) (E : XK) : TS := (tSeq (sFld T.K (tVar 0) (tVar 1) "words")
    (sFld T.K (tVar 0) (tC (.int 0)) "at"))
def t_Reading_word (T : Cfg) (E : XK) : TS := (tSeq (tIfS (tOr (tTest (tOp rEq (tFld T.K (tVar 0) "at") (tC (.int 30)))) (tTest (tOp rEq (tFld T.K (tVar 0) "at") (tCB (Pw.rLen T.K) (tCons (tFld T.K (tVar 0) "words") tNil))))) tNevS tNext)
    (tSeq (sFldAug T.K (tVar 0) (tC (.int 1)) rAdd "at")
    (tRet (tOp (rIxL T.K) (tFld T.K (tVar 0) "words") (tOp (rI0 fun i j => .int (i - j)) (tFld T.K (tVar 0) "at") (tC (.int 1)))))))
def t_Reading_told (T : Cfg) (E : XK) : TS := (tSeq (tAsg (tEith (tCallL 1 (He.ga T.K "sign_in") (spOf T (pu (c_sign_in T))) [] E0 (tCons (tMeth (T.cls 3) "word" (spOf T (c_Reading_word T)) [] E0 (tVar 0) tNil) tNil)) (tEith (tCallL 1 (He.ga T.K "signs_in") (spOf T (pu (c_signs_in T))) [] E0 (tCons (tMeth (T.cls 3) "word" (spOf T (c_Reading_word T)) [] E0 (tVar 0) tNil) tNil)) (tEith (tCallL 1 (He.ga T.K "pairs_in") (spOf T (pu (c_pairs_in T))) [] E0 (tCons (tMeth (T.cls 3) "word" (spOf T (c_Reading_word T)) [] E0 (tVar 0) tNil) tNil)) (tCallL 1 (He.ga T.K "weight_in") (spOf T (pu (c_weight_in T))) [] E0 (tCons (tMeth (T.cls 3) "word" (spOf T (c_Reading_word T)) [] E0 (tVar 0) tNil) tNil))))) (gName 2))
    (tSeq (tIfS (tTest (tOp rIsN (tVar 2) (tC .non))) tNevS tNext)
    (tRet (tVar 2))))
def t_Reading_next_recipe (T : Cfg) (n : Nat) (E : XK) : TS := (tSeq (tAsg (tMeth (T.cls 3) "word" (spOf T (c_Reading_word T)) [] E0 (tVar 0) tNil) (gName 1))
    (tSeq (tIfS (tTest (tOp rEq (tVar 1) (tC (.str "stop")))) (tRet (tTup (tCons (tVar 1) tNil))) tNext)
    (tSeq (tIfS (tTest (tOp rEq (tVar 1) (tC (.str "ahead")))) (tRet (tTup (tCons (tVar 1) (tCons (tMeth (T.cls 3) "told" (spOf T (c_Reading_told T)) [] E0 (tVar 0) (tCons (tC (.ref (He.ga T.K "sign_in"))) tNil)) (tCons (tMeth (T.cls 3) "next_recipe" (spOf T (c_Reading_next_recipe T n)) [] E0 (tVar 0) tNil) tNil))))) tNext)
    (tSeq (tIfS (tTest (tOp rEq (tVar 1) (tC (.str "toss")))) (tSeq (tAsg (tMeth (T.cls 3) "told" (spOf T (c_Reading_told T)) [] E0 (tVar 0) (tCons (tC (.ref (He.ga T.K "sign_in"))) tNil)) (gName 2))
    (tSeq (tAsg (tTup (tCons (tMeth (T.cls 3) "told" (spOf T (c_Reading_told T)) [] E0 (tVar 0) (tCons (tC (.ref (He.ga T.K "weight_in"))) tNil)) (tCons (tMeth (T.cls 3) "told" (spOf T (c_Reading_told T)) [] E0 (tVar 0) (tCons (tC (.ref (He.ga T.K "weight_in"))) tNil)) tNil))) (gName 3))
    (tRet (tTup (tCons (tVar 1) (tCons (tVar 2) (tCons (tVar 3) (tCons (tMeth (T.cls 3) "next_recipe" (spOf T (c_Reading_next_recipe T n)) [] E0 (tVar 0) tNil) (tCons (tMeth (T.cls 3) "next_recipe" (spOf T (c_Reading_next_recipe T n)) [] E0 (tVar 0) tNil) tNil))))))))) tNext)
    (tSeq (tIfS (tTest (tOp rEq (tVar 1) (tC (.str "beside")))) (tRet (tTup (tCons (tVar 1) (tCons (tMeth (T.cls 3) "told" (spOf T (c_Reading_told T)) [] E0 (tVar 0) (tCons (tC (.ref (He.ga T.K "signs_in"))) tNil)) (tCons (tMeth (T.cls 3) "next_recipe" (spOf T (c_Reading_next_recipe T n)) [] E0 (tVar 0) tNil) (tCons (tMeth (T.cls 3) "next_recipe" (spOf T (c_Reading_next_recipe T n)) [] E0 (tVar 0) tNil) tNil)))))) tNext)
    (tSeq (tIfS (tTest (tOp rEq (tVar 1) (tC (.str "only")))) (tRet (tTup (tCons (tVar 1) (tCons (tMeth (T.cls 3) "told" (spOf T (c_Reading_told T)) [] E0 (tVar 0) (tCons (tC (.ref (He.ga T.K "signs_in"))) tNil)) (tCons (tMeth (T.cls 3) "next_recipe" (spOf T (c_Reading_next_recipe T n)) [] E0 (tVar 0) tNil) tNil))))) tNext)
    (tSeq (tIfS (tTest (tOp rEq (tVar 1) (tC (.str "rename")))) (tRet (tTup (tCons (tVar 1) (tCons (tMeth (T.cls 3) "told" (spOf T (c_Reading_told T)) [] E0 (tVar 0) (tCons (tC (.ref (He.ga T.K "pairs_in"))) tNil)) (tCons (tMeth (T.cls 3) "next_recipe" (spOf T (c_Reading_next_recipe T n)) [] E0 (tVar 0) tNil) tNil))))) tNext)
    (tSeq (tIfS (tNot (tB (tCall (spOf T (pu (c_is_part_name T))) [] E0 (tCons (tVar 1) tNil)))) tNevS tNext)
    (tRet (tTup (tCons (tC (.str "part")) (tCons (tVar 1) tNil))))))))))))
def t_read_recipe (T : Cfg) (E : XK) : TS := (tSeq (tIfS (tNot (tB (tCB (rIsi T.K) (tCons (tVar 0) (tCons (tC (.ty "str")) tNil))))) tNevS tNext)
    (tSeq (tAsg (tMake (T.cls 3) (spOf T (c_Reading___init__ T)) [] E0 (tCons (tSplitS (tVar 0) (tC (.str " "))) tNil)) (gName 1))
    (tSeq (tAsg (tMeth (T.cls 3) "next_recipe" (spOf T (c_Reading_next_recipe T 31)) [] E0 (tVar 1) tNil) (gName 2))
    (tSeq (tIfS (tTest (tOp (rI0 fun i j => .bl (decide (i < j))) (tFld T.K (tVar 1) "at") (tCB (Pw.rLen T.K) (tCons (tFld T.K (tVar 1) "words") tNil)))) tNevS tNext)
    (tRet (tVar 2))))))
theorem pure_Reading___init__ {T : Cfg} (hG : RdOk T) : ∀ E ds μ P XP, c_Reading___init__ T ds μ P XP → SV T (t_Reading___init__ T E) (fun cls dd _ H => E cls dd H) ⟨slots 2 ds, μ⟩ (fnK P XP) := Hd.o (by
 simp (disch :=
 with_unfolding_all
 exact by
  rintro E ds μ P XP ⟨s, ws, rfl, hs, p⟩
  unfold t_Reading___init__
  walk_at "pks"
  refine ⟨s, 3, _, rfl, hs, hG.cl, hG.nw, by simp, ?_⟩
  rw [show putG "words" (D.lst (ws.map D.str)) [] = ([("words", .lst (ws.map D.str))] : List (Str × D)) from rfl]
  walk_at "pks"
  refine ⟨s, 3, _, rfl, put_same, hG.cl, hG.na, by simp, ?_⟩
  rw [put_put]
  exact p
 ) only [↓hE])
section
variable {T : Cfg} {W : WX} {ρ : List (Option D)} {m0 : Mu} {P : D → Mu → Prop} {XP : XW}
theorem ev_at (hG : RdOk T) {s : Addr} {ws : List Str} {k i : Nat} (hi : ρ[i]? = some (some (.ptr s))) (hm : m0 s = some (rdO ws k)) (p : P (.int (k : Int)) m0) : EV T (tFld T.K (tVar i) "at") W ⟨ρ, m0⟩ P XP :=
  ev_fldM (ev_var hi ⟨s, 3, _, _, rfl, hm, hG.cl, hG.na, rfl, p⟩)
theorem ev_wds (hG : RdOk T) {s : Addr} {ws : List Str} {k i : Nat} (hi : ρ[i]? = some (some (.ptr s))) (hm : m0 s = some (rdO ws k)) (p : P (.lst (ws.map D.str)) m0) : EV T (tFld T.K (tVar i) "words") W ⟨ρ, m0⟩ P XP :=
  ev_fldM (ev_var hi ⟨s, 3, _, _, rfl, hm, hG.cl, hG.nw, rfl, p⟩)
end
theorem pure_Reading_word {T : Cfg} (hG : RdOk T) : ∀ E ds μ P XP, c_Reading_word T ds μ P XP → SV T (t_Reading_word T E) (fun cls dd _ H => E cls dd H) ⟨slots 1 ds, μ⟩ (fnK P XP) := Hd.o (by
 simp (disch :=
 with_unfolding_all
 exact by
  rintro E ds μ P XP ⟨s, ws, k, x, rfl, hm, hl, hk, hx, p⟩
  have hk2 : k < ws.length := (List.getElem?_eq_some_iff.1 hx).1
  unfold t_Reading_word
  refine sv_seq (sv_if (tv_or (tv_test (ev_op (ev_at hG rfl hm ?_)))))
  walk_at "pks"
  refine ⟨fun _ => ?_, fun h => ?_⟩
  rotate_left
  · have := of_decide_eq_true h
    omega
  refine tv_test (ev_op (ev_at hG rfl hm (ev_cb (ea_cons (ev_wds hG rfl hm (ea_nil (cv_len (.inl rfl) ?_)))))))
  walk_at "pks"
  refine ⟨fun h => ?_, fun _ => ?_⟩
  · have : (k : Int) = ((ws.map D.str).length : Nat) := of_decide_eq_true h
    rw [List.length_map] at this
    omega
  refine sv_next (seqK_nx (sv_seq (sv_faug (ev_var rfl ⟨s, 3, _, _, rfl, hm, hG.cl, hG.na, rfl, ev_int (ov_add ⟨_, hm, by simp, ?_⟩)⟩))))
  have e : MO.ins 3 (putG "at" (.int ((k : Int) + 1)) [("words", .lst (ws.map D.str)), ("at", .int (k : Int))]) = rdO ws (k + 1) := by
    unfold rdO
    rw [show ((k : Int) + 1) = ((k + 1 : Nat) : Int) by omega]
    rfl
  rw [e]
  have hm2 : (put μ s (rdO ws (k + 1))) s = some (rdO ws (k + 1)) := put_same
  refine seqK_nx (sv_ret (ev_op (ev_wds hG rfl hm2 (ev_op (ev_at hG rfl hm2 (ev_int ?_))))))
  walk_at "pks"
  rw [show (((k + 1 : Nat) : Int) - 1) = (k : Nat) by omega]
  exact ov_ixL (.inl rfl) (at_nat (by rw [List.getElem?_map, hx]; rfl)) p
 ) only [↓hE])
theorem ov_isNS {T : Cfg} {P : D → Mu → Prop} {μ : Mu} {x : Str} (p : P (.bl false) μ) : OV T rIsN (.str x) .non μ P := ov_of (fun x y Hb H Q ex rx ry q => by
  cases rx; cases ry
  refine ⟨rfl, q _ ?_⟩
  rw [decide_eq_false (by simp)]
  exact .bl _) p
theorem ov_isNI {T : Cfg} {P : D → Mu → Prop} {μ : Mu} {x : Int} (p : P (.bl false) μ) : OV T rIsN (.int x) .non μ P := ov_of (fun x y Hb H Q ex rx ry q => by
  cases rx; cases ry
  refine ⟨rfl, q _ ?_⟩
  rw [decide_eq_false (by simp)]
  exact .bl _) p
theorem pure_Reading_told {T : Cfg} (hG : RdOk T) : ∀ E ds μ P XP, c_Reading_told T ds μ P XP → SV T (t_Reading_told T E) (fun cls dd _ H => E cls dd H) ⟨slots 3 ds, μ⟩ (fnK P XP) := by
  rintro E ds μ P XP ⟨s, b, ws, k, x, d, rfl, hm, hl, hk, hx, ht, p⟩
  unfold t_Reading_told
  have tail : ∀ {P' : D → Mu → Prop} {μ' : Mu}, P' (.bl false) μ' → OV T rIsN d .non μ' P' := by
    intro P' μ' q
    cases ht with
    | sign h => exact ov_isNS q
    | signs h => exact ov_isNT q
    | pairs h => exact ov_isNT q
    | weight h => exact ov_isNI q
  have fin : ∀ μ', μ' = put μ s (rdO ws (k + 1)) → seqK T (tSeq (tIfS (tTest (tOp rIsN (tVar 2) (tC V.non))) tNevS tNext) (tRet (tVar 2))) (fun cls dd _ H => E cls dd H) (fnK P XP) (Out.nx ⟨(slots 3 [D.ptr s, D.ptr b]).set 2 (some d), μ'⟩) := by
    rintro μ' rfl
    refine seqK_nx (sv_seq (sv_if (tv_test (ev_op (ev_var rfl (ev_non (tail ⟨_, rfl, fun h => (nomatch h), fun _ => ?_⟩)))))))
    exact sv_next (seqK_nx (sv_ret (ev_var rfl p)))
  have arg : ∀ {P' : List D → Mu → Prop} {XP' : XW}, P' [.str x] (put μ s (rdO ws (k + 1))) → EA T (tCons (tMeth (T.cls 3) "word" (spOf T (c_Reading_word T)) [] E0 (tVar 0) tNil) tNil) (fun cls dd _ H => E cls dd H) ⟨slots 3 [D.ptr s, D.ptr b], μ⟩ P' XP' := by
    intro P' XP' q
    refine ea_cons (ev_meth (ev_var rfl ⟨s, _, rfl, hm, rfl, ea_nil ⟨s, ws, k, x, rfl, hm, hl, hk, hx, ?_⟩⟩))
    exact ea_nil q
  refine sv_seq (sv_asg ?_)
  cases ht with
  | sign h =>
    refine ev_eithL (ev_held rfl (ev_cal0 (arg ⟨x, rfl, by have := nm_len8 h; omega, ?_⟩)))
    rw [if_pos h]
    exact fin _ rfl
  | signs h =>
    rename_i as
    refine ev_eithR (ev_eithL (ev_held rfl (ev_cal0 (arg ⟨_, rfl, by have := sg_len h; omega, ?_, ?_, ?_⟩))))
    · rw [cut_sg h]
      exact h.ln
    · rw [cut_sg h]
      intro y hy
      have := nm_len8 (h.nm y hy)
      omega
    · rw [sg_read h]
      exact fin _ rfl
  | pairs h =>
    rename_i ps
    refine ev_eithR (ev_eithR (ev_eithL (ev_held rfl (ev_cal0 (arg ⟨_, rfl, by have := pr_len h; omega, ?_, ?_, ?_⟩)))))
    · rw [cut_pr h, List.length_map]
      exact h.ln
    · rw [cut_pr h]
      intro y hy
      obtain ⟨q, hq, rfl⟩ := List.mem_map.1 hy
      have h1 := arr_len (h.nm q hq)
      refine ⟨by omega, by rw [split_arr (h.nm q hq)]; simp, fun z hz => ?_⟩
      rw [split_arr (h.nm q hq)] at hz
      simp only [List.mem_cons, List.not_mem_nil, or_false] at hz
      rcases hz with rfl | rfl
      · have := nm_len8 (h.nm q hq).1
        omega
      · have := nm_len8 (h.nm q hq).2
        omega
    · rw [pr_read h]
      exact fin _ rfl
  | weight h =>
    rename_i j
    exact ev_eithR (ev_eithR (ev_eithR (ev_held rfl (ev_cal0 (arg ⟨j, rfl, h, fin _ rfl⟩)))))
section
variable {T : Cfg} {W : WX} {ρ : List (Option D)} {μ : Mu} {P : D → Mu → Prop} {XP : XW} {K : Out → Prop}
theorem put_self9 {s : Addr} {o : MO} (h : μ s = some o) : put μ s o = μ := by
  funext a
  unfold put
  split
  · rename_i e
    rw [e, h]
  · rfl
theorem ev_word {i : Nat} {s : Addr} {ws : List Str} {k : Nat} {x : Str} (hi : ρ[i]? = some (some (.ptr s))) (hl : ws.length ≤ 100000) (hk : k < 30) (hx : ws[k]? = some x) (p : P (.str x) (put μ s (rdO ws (k + 1)))) :
    EV T (tMeth (T.cls 3) "word" (spOf T (c_Reading_word T)) [] E0 (tVar i) tNil) W ⟨ρ, put μ s (rdO ws k)⟩ P XP :=
  ev_meth (ev_var hi ⟨s, _, rfl, put_same, rfl, ea_nil ⟨s, ws, k, x, rfl, put_same, hl, hk, hx, by rw [put_put]; exact p⟩⟩)
theorem ev_told {i : Nat} {s : Addr} {b : Str} {ws : List Str} {k : Nat} {x : Str} {d : D} (hi : ρ[i]? = some (some (.ptr s))) (hl : ws.length ≤ 100000) (hk : k < 30) (hx : ws[k]? = some x) (ht : Tells T (He.ga T.K b) x d) (p : P d (put μ s (rdO ws (k + 1)))) :
    EV T (tMeth (T.cls 3) "told" (spOf T (c_Reading_told T)) [] E0 (tVar i) (tCons (tC (.ref (He.ga T.K b))) tNil)) W ⟨ρ, put μ s (rdO ws k)⟩ P XP :=
  ev_meth (ev_var hi ⟨s, _, rfl, put_same, rfl, ea_cons (ev_ref (ea_nil ⟨s, _, ws, k, x, d, rfl, put_same, hl, hk, hx, ht, by rw [put_put]; exact p⟩))⟩)
theorem ev_next {i n : Nat} {s : Addr} {ws rest : List Str} {k : Nat} {r : Rcp} (hi : ρ[i]? = some (some (.ptr s))) (hl : ws.length ≤ 100000) (hd : ws.drop k = wdsR r ++ rest) (hr : okR r) (hh : htR r ≤ n) (hk : k + (wdsR r).length ≤ 30) (p : P (rcD r) (put μ s (rdO ws (k + (wdsR r).length)))) :
    EV T (tMeth (T.cls 3) "next_recipe" (spOf T (c_Reading_next_recipe T n)) [] E0 (tVar i) tNil) W ⟨ρ, put μ s (rdO ws k)⟩ P XP :=
  ev_meth (ev_var hi ⟨s, _, rfl, put_same, rfl, ea_nil ⟨s, ws, rest, k, r, rfl, put_same, hl, hd, hr, hh, hk, by rw [put_put]; exact p⟩⟩)
theorem sv_ifeq {i : Nat} {x y : Str} {t1 : TS} (hi : ρ[i]? = some (some (.str x))) (h : x = y) (b : SV T t1 W ⟨ρ, μ⟩ K) : SV T (tIfS (tTest (tOp rEq (tVar i) (tC (.str y)))) t1 tNext) W ⟨ρ, μ⟩ K :=
  sv_if (tv_test (ev_op (ev_var hi (ev_str (ov_eqS ⟨_, rfl, fun _ => b, fun e => absurd h (of_decide_eq_false e)⟩)))))
theorem sv_ifne {i : Nat} {x y : Str} {t1 : TS} (hi : ρ[i]? = some (some (.str x))) (h : ¬ x = y) (b : K (.nx ⟨ρ, μ⟩)) : SV T (tIfS (tTest (tOp rEq (tVar i) (tC (.str y)))) t1 tNext) W ⟨ρ, μ⟩ K :=
  sv_if (tv_test (ev_op (ev_var hi (ev_str (ov_eqS ⟨_, rfl, fun e => absurd (of_decide_eq_true e) h, fun _ => sv_next b⟩)))))
end
theorem at_of {ws l : List Str} {k : Nat} (h : ws.drop k = l) (j : Nat) : ws[k + j]? = l[j]? := by rw [← h, List.getElem?_drop]
theorem dr_of {ws l : List Str} {k : Nat} (h : ws.drop k = l) (j : Nat) : ws.drop (k + j) = l.drop j := by rw [← h, List.drop_drop]
theorem pure_Reading_next_recipe {T : Cfg} (hG : RdOk T) (n : Nat) : ∀ E ds μ P XP, c_Reading_next_recipe T (n + 1) ds μ P XP → SV T (t_Reading_next_recipe T n E) (fun cls dd _ H => E cls dd H) ⟨slots 4 ds, μ⟩ (fnK P XP) := by
  rintro E ds μ P XP ⟨s, ws, rest, k, r, rfl, hm, hl, hd, hr, hh, hk, p⟩
  unfold t_Reading_next_recipe
  rw [← put_self9 hm]
  cases r with
  | stop =>
    have h0 := at_of hd 0
    simp only [wdsR, List.length_cons, List.length_nil] at hk p
    refine sv_seq (sv_asg (ev_word rfl hl (by omega) h0 ?_))
    refine seqK_nx (sv_seq (sv_ifeq rfl rfl (sv_ret (ev_tup (ea_cons (ev_var rfl (ea_nil ⟨by simp, p⟩)))))))
  | ahead a r =>
    have h0 := at_of hd 0
    have h1 := at_of hd 1
    have h2 := dr_of hd 2
    simp only [wdsR, List.length_cons] at hk p
    simp only [htR] at hh
    refine sv_seq (sv_asg (ev_word rfl hl (by omega) h0 ?_))
    refine seqK_nx (sv_seq (sv_ifne rfl (by decide) (seqK_nx (sv_seq (sv_ifeq rfl rfl (sv_ret (ev_tup (ea_cons (ev_var rfl (ea_cons (ev_told rfl hl (by omega) h1 (.sign hr.1) (ea_cons (ev_next rfl hl h2 hr.2 (by omega) (by omega) (ea_nil ⟨by simp, ?_⟩))))))))))))))
    rw [show k + 0 + 1 + 1 + (wdsR r).length = k + ((wdsR r).length + 1 + 1) by omega]
    exact p
  | toss a u v r q =>
    have h0 := at_of hd 0
    have h1 := at_of hd 1
    have h2 := at_of hd 2
    have h3 := at_of hd 3
    have h4 := dr_of hd 4
    have h5 : ws.drop (k + 0 + 1 + 1 + 1 + 1 + (wdsR r).length) = wdsR q ++ rest := by
      have h6 := dr_of h4 (wdsR r).length
      rw [show k + 0 + 1 + 1 + 1 + 1 + (wdsR r).length = k + 4 + (wdsR r).length by omega, h6]
      show (((wdsR r ++ wdsR q) ++ rest).drop (wdsR r).length) = _
      rw [List.append_assoc, List.drop_left]
    have h4 : ws.drop (k + 4) = wdsR r ++ (wdsR q ++ rest) := by
      rw [h4]
      show ((wdsR r ++ wdsR q) ++ rest) = _
      rw [List.append_assoc]
    simp only [wdsR, List.length_cons, List.length_append] at hk p
    simp only [htR] at hh
    obtain ⟨o1, o2, o3, o4, o5⟩ := hr
    refine sv_seq (sv_asg (ev_word rfl hl (by omega) h0 ?_))
    refine seqK_nx (sv_seq (sv_ifne rfl (by decide) (seqK_nx (sv_seq (sv_ifne rfl (by decide) (seqK_nx (sv_seq (sv_ifeq rfl rfl (sv_seq (sv_asg (ev_told rfl hl (by omega) h1 (.sign o1) (seqK_nx (sv_seq (sv_asg (ev_tup (ea_cons (ev_told rfl hl (by omega) h2 (.weight o2) (ea_cons (ev_told rfl hl (by omega) h3 (.weight o3) (ea_nil ⟨by simp, ?_⟩))))))))))))))))))))
    refine seqK_nx (sv_ret (ev_tup (ea_cons (ev_var rfl (ea_cons (ev_var rfl (ea_cons (ev_var rfl (ea_cons (ev_next rfl hl h4 o4 (by omega) (by omega) (ea_cons (ev_next rfl hl h5 o5 (by omega) (by omega) (ea_nil ⟨by simp, ?_⟩)))))))))))))
    rw [show k + 0 + 1 + 1 + 1 + 1 + (wdsR r).length + (wdsR q).length = k + ((wdsR r).length + (wdsR q).length + 1 + 1 + 1 + 1) by omega]
    exact p
  | beside as r q =>
    have h0 := at_of hd 0
    have h1 := at_of hd 1
    have h4 := dr_of hd 2
    have h5 : ws.drop (k + 0 + 1 + 1 + (wdsR r).length) = wdsR q ++ rest := by
      have h6 := dr_of h4 (wdsR r).length
      rw [show k + 0 + 1 + 1 + (wdsR r).length = k + 2 + (wdsR r).length by omega, h6]
      show (((wdsR r ++ wdsR q) ++ rest).drop (wdsR r).length) = _
      rw [List.append_assoc, List.drop_left]
    have h4 : ws.drop (k + 2) = wdsR r ++ (wdsR q ++ rest) := by
      rw [h4]
      show ((wdsR r ++ wdsR q) ++ rest) = _
      rw [List.append_assoc]
    simp only [wdsR, List.length_cons, List.length_append] at hk p
    simp only [htR] at hh
    obtain ⟨o1, o4, o5⟩ := hr
    refine sv_seq (sv_asg (ev_word rfl hl (by omega) h0 ?_))
    refine seqK_nx (sv_seq (sv_ifne rfl (by decide) (seqK_nx (sv_seq (sv_ifne rfl (by decide) (seqK_nx (sv_seq (sv_ifne rfl (by decide) (seqK_nx (sv_seq (sv_ifeq rfl rfl (sv_ret (ev_tup (ea_cons (ev_var rfl (ea_cons (ev_told rfl hl (by omega) h1 (.signs o1) (ea_cons (ev_next rfl hl h4 o4 (by omega) (by omega) (ea_cons (ev_next rfl hl h5 o5 (by omega) (by omega) (ea_nil ⟨by simp, ?_⟩))))))))))))))))))))))
    rw [show k + 0 + 1 + 1 + (wdsR r).length + (wdsR q).length = k + ((wdsR r).length + (wdsR q).length + 1 + 1) by omega]
    exact p
  | only as r =>
    have h0 := at_of hd 0
    have h1 := at_of hd 1
    have h2 := dr_of hd 2
    simp only [wdsR, List.length_cons] at hk p
    simp only [htR] at hh
    refine sv_seq (sv_asg (ev_word rfl hl (by omega) h0 ?_))
    refine seqK_nx (sv_seq (sv_ifne rfl (by decide) (seqK_nx (sv_seq (sv_ifne rfl (by decide) (seqK_nx (sv_seq (sv_ifne rfl (by decide) (seqK_nx (sv_seq (sv_ifne rfl (by decide) (seqK_nx (sv_seq (sv_ifeq rfl rfl (sv_ret (ev_tup (ea_cons (ev_var rfl (ea_cons (ev_told rfl hl (by omega) h1 (.signs hr.1) (ea_cons (ev_next rfl hl h2 hr.2 (by omega) (by omega) (ea_nil ⟨by simp, ?_⟩)))))))))))))))))))))))
    rw [show k + 0 + 1 + 1 + (wdsR r).length = k + ((wdsR r).length + 1 + 1) by omega]
    exact p
  | rename ps r =>
    have h0 := at_of hd 0
    have h1 := at_of hd 1
    have h2 := dr_of hd 2
    simp only [wdsR, List.length_cons] at hk p
    simp only [htR] at hh
    refine sv_seq (sv_asg (ev_word rfl hl (by omega) h0 ?_))
    refine seqK_nx (sv_seq (sv_ifne rfl (by decide) (seqK_nx (sv_seq (sv_ifne rfl (by decide) (seqK_nx (sv_seq (sv_ifne rfl (by decide) (seqK_nx (sv_seq (sv_ifne rfl (by decide) (seqK_nx (sv_seq (sv_ifne rfl (by decide) (seqK_nx (sv_seq (sv_ifeq rfl rfl (sv_ret (ev_tup (ea_cons (ev_var rfl (ea_cons (ev_told rfl hl (by omega) h1 (.pairs hr.1) (ea_cons (ev_next rfl hl h2 hr.2 (by omega) (by omega) (ea_nil ⟨by simp, ?_⟩))))))))))))))))))))))))))
    rw [show k + 0 + 1 + 1 + (wdsR r).length = k + ((wdsR r).length + 1 + 1) by omega]
    exact p
  | part x =>
    have h0 := at_of hd 0
    simp only [wdsR, List.length_cons, List.length_nil] at hk p
    have hn : ∀ y : Str, y ∈ sevens → ¬ x = y := fun y hy e => hr.2 (by rw [e]; exact hy)
    refine sv_seq (sv_asg (ev_word rfl hl (by omega) h0 ?_))
    refine seqK_nx (sv_seq (sv_ifne rfl (hn _ (by simp [sevens])) (seqK_nx (sv_seq (sv_ifne rfl (hn _ (by simp [sevens])) (seqK_nx (sv_seq (sv_ifne rfl (hn _ (by simp [sevens])) (seqK_nx (sv_seq (sv_ifne rfl (hn _ (by simp [sevens])) (seqK_nx (sv_seq (sv_ifne rfl (hn _ (by simp [sevens])) (seqK_nx (sv_seq (sv_ifne rfl (hn _ (by simp [sevens])) (seqK_nx (sv_seq (sv_if (tv_not (tv_B (ev_cal0 (ea_cons (ev_var rfl (ea_nil ⟨x, rfl, by have := nm_len8 hr.1; omega, ?_⟩))))))))))))))))))))))))))
    rw [hr.1, decide_eq_false hr.2]
    refine ⟨_, rfl, fun h => (nomatch h), fun _ => ?_⟩
    exact sv_next (seqK_nx (sv_ret (ev_tup (ea_cons (ev_str (ea_cons (ev_var rfl (ea_nil ⟨by simp, p⟩))))))))
theorem pure_read_recipe {T : Cfg} (hG : RdOk T) : ∀ E ds μ P XP, pu (c_read_recipe T) ds μ P XP → SV T (t_read_recipe T E) (fun cls dd _ H => E cls dd H) ⟨slots 3 ds, μ⟩ (fnK P XP) := Hd.o (by
 simp (disch :=
 with_unfolding_all
 exact by
  rintro E ds μ P XP ⟨rfl, Pf, Xf, ⟨x, r, rfl, hl, hs, hr, hn, p⟩, hP, hX⟩
  have hS := hG.sh
  unfold t_read_recipe
  have hsl : sizeLine = 16777216 := by decide
  walk_at "pks"
  refine cv_isiT (th_str hS x).ty ((th_str hS x).kd "str" (by decide)) ⟨_, rfl, fun h => (nomatch h), fun _ => ?_⟩
  have hlen : (Txt.split x " ").length ≤ 100000 := by rw [hs]; omega
  refine sv_next (seqK_nx (sv_seq (sv_asg (ev_makA (ea_cons (ev_split (ev_var rfl ⟨x, rfl, ev_str ⟨_, rfl, by decide, by omega, ea_nil fun a ha => ?_⟩⟩)))))))
  refine ⟨a, Txt.split x " ", rfl, put_same, rfl, ?_⟩
  rw [put_put]
  refine seqK_nx (sv_seq (sv_asg (ev_next (rest := []) rfl hlen (by rw [hs, List.append_nil]; rfl) hr (by have := ht_le r; omega) (by omega) ?_)))
  refine seqK_nx (sv_seq (sv_if (tv_test (ev_op (ev_at hG rfl put_same (ev_cb (ea_cons (ev_wds hG rfl put_same (ea_nil (cv_len (.inl rfl) ?_))))))))))
  walk_at "pks"
  refine ⟨fun h => ?_, fun _ => ?_⟩
  · have h := of_decide_eq_true h
    rw [List.length_map, hs] at h
    omega
  · refine sv_next (seqK_nx (sv_ret (ev_fgt0 (ev_var rfl (hP _ p)))))
 ) only [↓hE])
section
variable {T : Cfg} {W : WX} {ρ : List (Option D)} {m0 : Mu} {μ : Mu} {P : D → Mu → Prop} {XP : XW} {K : Out → Prop}
theorem ov_eqDS {x y : Str} (hx : SeqAt.shaped (.str x) = true) (hy : SeqAt.shaped (.str y) = true) (k : P (.bl (decide (x = y))) μ) : OV T (rEqD T.K) (.str x) (.str y) μ P := ov_eqD (.str x) (.str y) hx hy (by
  rw [show PyData.eqv (.str x) (.str y) = decide (x = y) from rfl]
  exact k)
theorem ev_orS {ta tb : TE} (h : EV T ta W ⟨ρ, m0⟩ (fun d μ => ∃ x : Str, d = .str x ∧ x.length ≤ 100000 ∧ (x.length = 0 → EV T tb W ⟨ρ, μ⟩ P XP) ∧ (x.length ≠ 0 → P (.str x) μ)) XP) : EV T (tOrT T.K ta tb) W ⟨ρ, m0⟩ P XP := fun σ Hb H Q S q x =>
  h σ Hb H _ S (fun d μ1 v Hb1 H1 g1 r1 p1 => by
    obtain ⟨z, rfl, hl, p2, p3⟩ := p1
    cases r1
    refine ⟨_, ⟨by rw [show sizeLine = 16777216 by decide]; omega, rfl⟩, ?_⟩
    by_cases h0 : z.length = 0
    · rw [h0]
      exact p2 h0 σ Hb1 H1 Q (S.go g1) (fun d μ' v Hb' H' g r p => q d μ' v Hb' H' (g1.trans g) r p) (fun y μ' cls dd Hb' H' g r p => x y μ' cls dd Hb' H' (g1.trans g) r p)
    · rw [show ((z.length : Int) != 0) = true by simpa using h0]
      exact q _ _ _ _ _ g1 (.str z) (p3 h0)) x
theorem ev_joinT {ta te : TE} (h : EV T ta W ⟨ρ, m0⟩ (fun d μ1 => ∃ a, d = .str a ∧ EV T te W ⟨ρ, μ1⟩ (fun e μ2 => ∃ ys : List Str, e = .tup (ys.map D.str) ∧ (ys.map (·.length)).sum + ys.length * a.length ≤ 16777216 ∧ P (.str (Txt.join a ys)) μ2) XP) XP) : EV T (tJoinS T.K ta te) W ⟨ρ, m0⟩ P XP := fun σ Hb H Q S q x =>
  h σ Hb H _ S (fun d μ1 v Hb1 H1 g1 r1 p1 => by
    obtain ⟨a, rfl, p1⟩ := p1
    cases r1
    exact ⟨⟨a, rfl⟩, p1 σ Hb1 H1 _ (S.go g1) (fun e μ2 w Hb2 H2 g2 r2 p2 => by
      obtain ⟨ys, rfl, hl, p⟩ := p2
      obtain ⟨l, xs, rfl, hx, rx⟩ := r2.tup_inv
      rw [strs_inv rx] at hx
      exact ⟨a, l, ys, rfl, rfl, .inr (Evl.ex_t g2.sub hx), hl, q _ _ _ _ _ (g1.trans g2) (.str _) p⟩)
      (fun y μ' cls dd Hb' H' g r p => x y μ' cls dd Hb' H' (g1.trans g) r p)⟩) x
theorem ev_sortSetM {te : TE} (h : EV T te W ⟨ρ, m0⟩ (fun d μ => ∃ xs : List Str, Seqd d (xs.map D.str) ∧ xs.length < 4000 ∧ ∀ L : List Str, L.Nodup → (∀ k, k ∈ L ↔ k ∈ xs) → L.Pairwise TxtLe → ∀ a, μ a = none → P (.ptr a) (put μ a (.lst (L.map D.str)))) XP) : EV T (tSortSetT T.K te) W ⟨ρ, m0⟩ P XP := fun σ Hb H Q S q x =>
  h σ Hb H _ S (fun d μ v Hb1 H1 g r p => by
    obtain ⟨xs, hd, hl, p⟩ := p
    obtain ⟨a, vs, rfl, hs, rx⟩ := hd.inv r
    obtain rfl := rep_txts rx
    refine ⟨a, xs, rfl, Evl.ex_l g.sub hs, hl, fun L b hL hm so hb => ?_⟩
    have r1 : RepL T Hb1 (L.map D.str) (L.map V.str) := txts_rep
    have gl := Go.own g.sub g.mu (o := .lst (L.map V.str)) (z := .lst (L.map D.str)) hb r1
    refine q _ _ _ _ _ (g.trans gl) (.ptr b) (p L hL hm so b ?_)
    cases e : μ b with
    | none => rfl
    | some m =>
      obtain ⟨_, o, ho, _⟩ := g.mu b m e
      rw [hb] at ho; cases ho) x
end
def c_inner_of (T : Cfg) : PC := fun ds P _ => ∃ r : Rcp, ds = [rcD r] ∧ P (.lst ((innR r).map rcD))
def c_head_of (T : Cfg) : PC := fun ds P _ => ∃ r : Rcp, ds = [rcD r] ∧ okR r ∧ P (.lst ((hdW r).map D.str))
def c_words_of (T : Cfg) (n : Nat) : PC := fun ds P _ => ∃ r : Rcp, ds = [rcD r] ∧ okR r ∧ htR r ≤ n ∧ (wdsR r).length ≤ 1000 ∧ P (.lst ((wdsR r).map D.str))
def c_show_recipe (T : Cfg) : PC := fun ds P _ => ∃ r : Rcp, ds = [rcD r] ∧ okR r ∧ htR r ≤ 31 ∧ (wdsR r).length ≤ 1000 ∧ ((wdsR r).map (·.length)).sum + (wdsR r).length * (" " : Str).length ≤ 16777216 ∧ P (.str (Txt.join " " (wdsR r)))
def c_names_of (T : Cfg) (n : Nat) : PC := fun ds P _ => ∃ r : Rcp, ds = [rcD r] ∧ htR r ≤ n ∧ (wdsR r).length ≤ 1000 ∧ P (.lst ((nmsR r).map D.str))
def c_parts_of (T : Cfg) : PC := fun ds P _ => ∃ r : Rcp, ds = [rcD r] ∧ htR r ≤ 31 ∧ (wdsR r).length ≤ 1000 ∧ ∀ L : List Str, L.Nodup → (∀ k, k ∈ L ↔ k ∈ nmsR r) → L.Pairwise TxtLe → P (.lst (L.map D.str))
theorem len_inner_of {T : Cfg} : ∀ ds μ P XP, pu (c_inner_of T) ds μ P XP → ds.length = 1 := by
  rintro ds μ P XP ⟨rfl, Pf, Xf, ⟨x, rfl, _⟩, _⟩; rfl
theorem len_head_of {T : Cfg} : ∀ ds μ P XP, pu (c_head_of T) ds μ P XP → ds.length = 1 := by
  rintro ds μ P XP ⟨rfl, Pf, Xf, ⟨x, rfl, _⟩, _⟩; rfl
theorem len_words_of {T : Cfg} {n : Nat} : ∀ ds μ P XP, pu (c_words_of T n) ds μ P XP → ds.length = 1 := by
  rintro ds μ P XP ⟨rfl, Pf, Xf, ⟨x, rfl, _⟩, _⟩; rfl
theorem len_show_recipe {T : Cfg} : ∀ ds μ P XP, pu (c_show_recipe T) ds μ P XP → ds.length = 1 := by
  rintro ds μ P XP ⟨rfl, Pf, Xf, ⟨x, rfl, _⟩, _⟩; rfl
theorem len_names_of {T : Cfg} {n : Nat} : ∀ ds μ P XP, pu (c_names_of T n) ds μ P XP → ds.length = 1 := by
  rintro ds μ P XP ⟨rfl, Pf, Xf, ⟨x, rfl, _⟩, _⟩; rfl
theorem len_parts_of {T : Cfg} : ∀ ds μ P XP, nw (c_parts_of T) ds μ P XP → ds.length = 1 := by
  rintro ds μ P XP ⟨rfl, Pf, Xf, ⟨x, rfl, _⟩, _⟩; rfl
theorem no_words_of {T : Cfg} : ∀ ds μ P XP, pu (c_words_of T 0) ds μ P XP → False := by
  rintro ds μ P XP ⟨rfl, Pf, Xf, ⟨r, rfl, _, h, _⟩, _⟩
  have := ht_pos r
  omega
theorem no_names_of {T : Cfg} : ∀ ds μ P XP, pu (c_names_of T 0) ds μ P XP → False := by
  rintro ds μ P XP ⟨rfl, Pf, Xf, ⟨r, rfl, h, _⟩, _⟩
  have := ht_pos r
  omega
def t_inner_of (T : Cfg) (E : XK) : TS := (tSeq (tIfS (tTest (tOp (rIn T.K false) (tOp (rIxT T.K) (tVar 0) (tC (.int 0))) (tTup (tCons (tC (.str "stop")) (tCons (tC (.str "part")) tNil))))) (tRet (tLst tNil)) tNext)
    (tRet (tCB (rListOf T.K) (tCons (tSl (rSlA T.K) (tVar 0) (tPart (tOp (rI0 fun i j => .int (i + j)) (tC (.int 2)) (tCB rInt1 (tCons (tOp (rEqD T.K) (tOp (rIxT T.K) (tVar 0) (tC (.int 0))) (tC (.str "toss"))) tNil)))) tNoPart) tNil))))
def t_head_of (T : Cfg) (E : XK) : TS := (tSeq (tIfS (tTest (tOp (rEqD T.K) (tOp (rIxT T.K) (tVar 0) (tC (.int 0))) (tC (.str "stop")))) (tRet (tLst (tCons (tC (.str "stop")) tNil))) tNext)
    (tSeq (tIfS (tTest (tOp (rEqD T.K) (tOp (rIxT T.K) (tVar 0) (tC (.int 0))) (tC (.str "part")))) (tRet (tLst (tCons (tOp (rIxT T.K) (tVar 0) (tC (.int 1))) tNil))) tNext)
    (tSeq (tIfS (tTest (tOp (rEqD T.K) (tOp (rIxT T.K) (tVar 0) (tC (.int 0))) (tC (.str "ahead")))) (tRet (tLst (tCons (tC (.str "ahead")) (tCons (tOp (rIxT T.K) (tVar 0) (tC (.int 1))) tNil)))) tNext)
    (tSeq (tIfS (tTest (tOp (rEqD T.K) (tOp (rIxT T.K) (tVar 0) (tC (.int 0))) (tC (.str "toss")))) (tRet (tOp rCat (tLst (tCons (tC (.str "toss")) (tCons (tOp (rIxT T.K) (tVar 0) (tC (.int 1))) tNil))) (tLc (iTup T.K (tOp (rIxT T.K) (tVar 0) (tC (.int 2)))) (gName 1) tYes (tCB rStrI (tCons (tVar 1) tNil)) [1]))) tNext)
    (tSeq (tIfS (tTest (tOp (rEqD T.K) (tOp (rIxT T.K) (tVar 0) (tC (.int 0))) (tC (.str "rename")))) (tRet (tLst (tCons (tC (.str "rename")) (tCons (tOrT T.K (tJoinS T.K (tC (.str ",")) (tLc (iTup T.K (tOp (rIxT T.K) (tVar 0) (tC (.int 1)))) (gName 2) tYes (tJoinS T.K (tC (.str ">")) (tVar 2)) [2])) (tC (.str "-"))) tNil)))) tNext)
    (tRet (tLst (tCons (tOp (rIxT T.K) (tVar 0) (tC (.int 0))) (tCons (tOrT T.K (tJoinS T.K (tC (.str ",")) (tOp (rIxT T.K) (tVar 0) (tC (.int 1)))) (tC (.str "-"))) tNil)))))))))
def t_words_of (T : Cfg) (n : Nat) (E : XK) : TS := (tSeq (tAsg (tCall (spOf T (pu (c_head_of T))) [] E0 (tCons (tVar 0) tNil)) (gName 1))
    (tSeq (tFor (iList T.K (tCall (spOf T (pu (c_inner_of T))) [] E0 (tCons (tVar 0) tNil))) (gName 2) (tAsg (tOp rCat (tVar 1) (tCall (spOf T (pu (c_words_of T n))) [] E0 (tCons (tVar 2) tNil))) (gName 1)))
    (tRet (tVar 1))))
def t_show_recipe (T : Cfg) (E : XK) : TS := (tRet (tJoinS T.K (tC (.str " ")) (tCall (spOf T (pu (c_words_of T 31))) [] E0 (tCons (tVar 0) tNil))))
def t_names_of (T : Cfg) (n : Nat) (E : XK) : TS := (tSeq (tAsg (tIf (tTest (tOp (rEqD T.K) (tOp (rIxT T.K) (tVar 0) (tC (.int 0))) (tC (.str "part")))) (tLst (tCons (tOp (rIxT T.K) (tVar 0) (tC (.int 1))) tNil)) (tLst tNil)) (gName 1))
    (tSeq (tFor (iList T.K (tCall (spOf T (pu (c_inner_of T))) [] E0 (tCons (tVar 0) tNil))) (gName 2) (tAsg (tOp rCat (tVar 1) (tCall (spOf T (pu (c_names_of T n))) [] E0 (tCons (tVar 2) tNil))) (gName 1)))
    (tRet (tVar 1))))
def t_parts_of (T : Cfg) (E : XK) : TS := (tRet (tSortSetT T.K (tCall (spOf T (pu (c_names_of T 31))) [] E0 (tCons (tVar 0) tNil))))
def kdR : Rcp → Str
  | .stop => "stop"
  | .part _ => "part"
  | .ahead _ _ => "ahead"
  | .toss _ _ _ _ _ => "toss"
  | .beside _ _ _ => "beside"
  | .only _ _ => "only"
  | .rename _ _ => "rename"
def bhR : Rcp → List D
  | .stop => []
  | .part x => [.str x]
  | .ahead a r => [.str a, rcD r]
  | .toss a k l r s => [.str a, .tup [.int (k : Int), .int (l : Int)], rcD r, rcD s]
  | .beside as r s => [strsT as, rcD r, rcD s]
  | .only as r => [strsT as, rcD r]
  | .rename ps r => [.tup (ps.map rpT), rcD r]
theorem sev_sh : ∀ x ∈ sevens, SeqAt.shaped (.str x) = true := by decide +kernel
theorem sh_kd (r : Rcp) : SeqAt.shaped (.str (kdR r)) = true := sev_sh _ (by cases r <;> simp [kdR, sevens])
theorem rcD_eq (r : Rcp) : rcD r = .tup (.str (kdR r) :: bhR r) := by cases r <;> rfl
section
variable {T : Cfg} {W : WX} {ρ : List (Option D)} {m0 : Mu} {μ : Mu} {P : D → Mu → Prop} {XP : XW} {K : Out → Prop}
theorem ev_kd {r : Rcp} {i : Nat} (hi : ρ[i]? = some (some (rcD r))) (p : P (.str (kdR r)) m0) : EV T (tOp (rIxT T.K) (tVar i) (tC (.int 0))) W ⟨ρ, m0⟩ P XP :=
  ev_op (ev_var hi (ev_int (by rw [rcD_eq]; exact ov_ixT (at_nat (k := 0) rfl) p)))
theorem ev_bh {r : Rcp} {i : Nat} {d : D} (hi : ρ[i]? = some (some (rcD r))) (h : (bhR r)[0]? = some d) (p : P d m0) : EV T (tOp (rIxT T.K) (tVar i) (tC (.int 1))) W ⟨ρ, m0⟩ P XP :=
  ev_op (ev_var hi (ev_int (by rw [rcD_eq]; exact ov_ixT (at_nat (k := 1) (by rw [List.getElem?_cons_succ]; exact h)) p)))
theorem ev_bh2 {r : Rcp} {i : Nat} {d : D} (hi : ρ[i]? = some (some (rcD r))) (h : (bhR r)[1]? = some d) (p : P d m0) : EV T (tOp (rIxT T.K) (tVar i) (tC (.int 2))) W ⟨ρ, m0⟩ P XP :=
  ev_op (ev_var hi (ev_int (by rw [rcD_eq]; exact ov_ixT (at_nat (k := 2) (by rw [List.getElem?_cons_succ]; exact h)) p)))
theorem sv_kdy {r : Rcp} {i : Nat} {y : Str} {t1 : TS} (hi : ρ[i]? = some (some (rcD r))) (hy : SeqAt.shaped (.str y) = true) (h : kdR r = y) (b : SV T t1 W ⟨ρ, m0⟩ K) : SV T (tIfS (tTest (tOp (rEqD T.K) (tOp (rIxT T.K) (tVar i) (tC (.int 0))) (tC (.str y)))) t1 tNext) W ⟨ρ, m0⟩ K :=
  sv_if (tv_test (ev_op (ev_kd hi (ev_str (ov_eqDS (sh_kd r) hy ⟨_, rfl, fun _ => b, fun e => absurd h (of_decide_eq_false e)⟩)))))
theorem sv_kdn {r : Rcp} {i : Nat} {y : Str} {t1 : TS} (hi : ρ[i]? = some (some (rcD r))) (hy : SeqAt.shaped (.str y) = true) (h : ¬ kdR r = y) (b : K (.nx ⟨ρ, m0⟩)) : SV T (tIfS (tTest (tOp (rEqD T.K) (tOp (rIxT T.K) (tVar i) (tC (.int 0))) (tC (.str y)))) t1 tNext) W ⟨ρ, m0⟩ K :=
  sv_if (tv_test (ev_op (ev_kd hi (ev_str (ov_eqDS (sh_kd r) hy ⟨_, rfl, fun e => absurd (of_decide_eq_true e) h, fun _ => sv_next b⟩)))))
end
theorem pure_inner_of {T : Cfg} (hS : ShOk T) : ∀ E ds μ P XP, pu (c_inner_of T) ds μ P XP → SV T (t_inner_of T E) (fun cls dd _ H => E cls dd H) ⟨slots 1 ds, μ⟩ (fnK P XP) := by
  rintro E ds μ P XP ⟨rfl, Pf, Xf, ⟨r, rfl, p⟩, hP, hX⟩
  unfold t_inner_of
  refine sv_seq (sv_if (tv_test (ev_op (ev_kd rfl (ev_tup (ea_cons (ev_str (ea_cons (ev_str (ea_nil ⟨by simp, ov_inT (zs := ["stop", "part"]) ?_⟩))))))))))
  refine ⟨_, rfl, fun h => ?_, fun h => ?_⟩
  · have e : innR r = [] := by
      cases r <;> first | rfl | exact absurd (of_decide_eq_true h) (by show ¬ _ ∈ _; simp only [kdR]; decide)
    rw [e] at p
    exact sv_ret (ev_lst (ea_nil ⟨by simp, hP _ p⟩))
  · have e : innR r = [] ∨ (cutD (.str (kdR r) :: bhR r) (some (2 + (if decide (kdR r = "toss") then 1 else 0))) none) = (innR r).map rcD := by
      cases r <;> first | exact .inl rfl | exact .inr rfl
    have e : (cutD (.str (kdR r) :: bhR r) (some (2 + (if decide (kdR r = "toss") then 1 else 0))) none) = (innR r).map rcD := by
      cases r <;> first | exact absurd (of_decide_eq_false h) (by simp only [kdR]; decide) | rfl
    refine sv_next (seqK_nx (sv_ret (ev_cb (ea_cons (ev_slT (ev_var rfl (po_so (ev_op (ev_int (ev_cb (ea_cons (ev_op (ev_kd rfl (ev_str (ov_eqDS (sh_kd r) (sev_sh _ (by simp [sevens])) (ea_nil (cv_intB (ov_add ⟨_, rfl, po_no ⟨_, rcD_eq r, ea_nil (cv_lstI (.inr rfl) ?_)⟩⟩))))))))))))))))))
    rw [e]
    exact hP _ p
theorem len_tl9 (x : Str) : x.length = (TL.tl x).length := by
  show _ = x.cps.toList.length
  rw [Array.length_toList]
  rfl
theorem join_pos {ws : List Str} (hne : ws ≠ []) (h : ∀ w ∈ ws, 1 ≤ w.length) : 1 ≤ (Txt.join "," ws).length := by
  rw [TL.join_eq, len_tl9, TL.tl_join]
  match ws, hne, h with
  | [x], _, h =>
    have := h x (by simp)
    rw [len_tl9] at this
    exact this
  | x :: z :: r, _, h =>
    have := h x (by simp)
    rw [len_tl9] at this
    show 1 ≤ (TL.tl x ++ _).length
    rw [List.length_append]
    omega
theorem sum_b9 {b : Nat} : ∀ {ys : List Str}, (∀ y ∈ ys, y.length ≤ b) → (ys.map (·.length)).sum ≤ ys.length * b := by
  intro ys h
  induction ys with
  | nil => simp
  | cons y ys ih =>
    have h1 := h y (by simp)
    have h2 := ih fun z hz => h z (by simp [hz])
    rw [List.map_cons, List.sum_cons, List.length_cons, Nat.add_mul]
    omega
def jnW (ws : List Str) : Str := if ws = [] then "-" else Txt.join "," ws
theorem prW_jn (ps : List (Str × Str)) : prW ps = jnW (ps.map arrW) := by
  unfold prW jnW
  cases ps <;> simp
theorem ev_jn {T : Cfg} {W : WX} {ρ : List (Option D)} {m0 : Mu} {P : D → Mu → Prop} {XP : XW} {te : TE} {ws : List Str} (hl : ws.length ≤ 100) (hw : ∀ w ∈ ws, 1 ≤ w.length ∧ w.length ≤ 17)
    (h : ∀ {P' : D → Mu → Prop} {XP' : XW}, ((ws.map (·.length)).sum + ws.length * (("," : Str)).length ≤ 16777216 → P' (.str (Txt.join "," ws)) m0) → EV T (tJoinS T.K (tC (.str ",")) te) W ⟨ρ, m0⟩ P' XP') (p : P (.str (jnW ws)) m0) :
    EV T (tOrT T.K (tJoinS T.K (tC (.str ",")) te) (tC (.str "-"))) W ⟨ρ, m0⟩ P XP := by
  have h1 := sum_b9 fun w hh => (hw w hh).2
  have h2 : ws.length * 17 ≤ 100 * 17 := Nat.mul_le_mul_right _ hl
  have h3 : ("," : Str).length = 1 := by decide
  refine ev_orS (h fun _ => ⟨_, rfl, ?_, fun h0 => ?_, fun h0 => ?_⟩)
  · have := join_len8 hl fun w hh => (hw w hh).2
    omega
  · have e : ws = [] := Classical.byContradiction fun hne => by
      have := join_pos hne fun w hh => (hw w hh).1
      omega
    refine ev_str ?_
    unfold jnW at p
    rw [if_pos e] at p
    exact p
  · have e : ¬ ws = [] := fun e => h0 (by rw [e]; decide)
    unfold jnW at p
    rw [if_neg e] at p
    exact p
theorem jn_fit {ws : List Str} (hl : ws.length ≤ 100) (hw : ∀ w ∈ ws, 1 ≤ w.length ∧ w.length ≤ 17) : (ws.map (·.length)).sum + ws.length * (("," : Str)).length ≤ 16777216 := by
  have h1 := sum_b9 fun w hh => (hw w hh).2
  have h2 : ws.length * 17 ≤ 100 * 17 := Nat.mul_le_mul_right _ hl
  have h3 : ("," : Str).length = 1 := by decide
  rw [h3]
  omega
theorem hn {r : Rcp} {y : Str} (h : kdR r ≠ y) : ¬ kdR r = y := h
theorem pure_head_of {T : Cfg} (hS : ShOk T) : ∀ E ds μ P XP, pu (c_head_of T) ds μ P XP → SV T (t_head_of T E) (fun cls dd _ H => E cls dd H) ⟨slots 3 ds, μ⟩ (fnK P XP) := by
  rintro E ds μ P XP ⟨rfl, Pf, Xf, ⟨r, rfl, hr, p⟩, hP, hX⟩
  have sh : ∀ y ∈ sevens, SeqAt.shaped (.str y) = true := sev_sh
  unfold t_head_of
  have st : ∀ (a : Str), a ∈ sevens → a ≠ kdR r → ∀ {t1 : TS} {K : Out → Prop}, K (.nx ⟨slots 3 [rcD r], mu0⟩) → SV T (tIfS (tTest (tOp (rEqD T.K) (tOp (rIxT T.K) (tVar 0) (tC (.int 0))) (tC (.str a)))) t1 tNext) (fun cls dd _ H => E cls dd H) ⟨slots 3 [rcD r], mu0⟩ K :=
    fun a ha hne t1 K k => sv_kdn rfl (sh a ha) (fun e => hne e.symm) k
  have go : ∀ (a : Str), a ∈ sevens → kdR r = a → ∀ {t1 : TS} {K : Out → Prop}, SV T t1 (fun cls dd _ H => E cls dd H) ⟨slots 3 [rcD r], mu0⟩ K → SV T (tIfS (tTest (tOp (rEqD T.K) (tOp (rIxT T.K) (tVar 0) (tC (.int 0))) (tC (.str a)))) t1 tNext) (fun cls dd _ H => E cls dd H) ⟨slots 3 [rcD r], mu0⟩ K :=
    fun a ha e t1 K k => sv_kdy rfl (sh a ha) e k
  cases r with
  | stop => exact sv_seq (go _ (by simp [kdR, sevens]) rfl (sv_ret (ev_lst (ea_cons (ev_str (ea_nil ⟨by simp, hP _ p⟩))))))
  | part x =>
    refine sv_seq (st _ (by simp [sevens]) (by simp [kdR]; decide) (seqK_nx (sv_seq (go _ (by simp [kdR, sevens]) rfl ?_))))
    exact sv_ret (ev_lst (ea_cons (ev_bh rfl rfl (ea_nil ⟨by simp, hP _ p⟩))))
  | ahead a r =>
    refine sv_seq (st _ (by simp [sevens]) (by simp [kdR]; decide) (seqK_nx (sv_seq (st _ (by simp [sevens]) (by simp [kdR]; decide) (seqK_nx (sv_seq (go _ (by simp [kdR, sevens]) rfl ?_)))))))
    exact sv_ret (ev_lst (ea_cons (ev_str (ea_cons (ev_bh rfl rfl (ea_nil ⟨by simp, hP _ p⟩))))))
  | toss a k l r q =>
    refine sv_seq (st _ (by simp [sevens]) (by simp [kdR]; decide) (seqK_nx (sv_seq (st _ (by simp [sevens]) (by simp [kdR]; decide) (seqK_nx (sv_seq (st _ (by simp [sevens]) (by simp [kdR]; decide) (seqK_nx (sv_seq (go _ (by simp [kdR, sevens]) rfl ?_))))))))))
    refine sv_ret (ev_op (ev_lst (ea_cons (ev_str (ea_cons (ev_bh rfl rfl (ea_nil ⟨by simp, ?_⟩)))))))
    refine ev_lcU (ev_bh2 rfl rfl ⟨[.int (k : Int), .int (l : Int)], fun d => (match d with | .int i => .str (toString i) | _ => .non), rfl, by simp, fun e he => ?_, ?_⟩)
    · simp only [List.mem_cons, List.not_mem_nil, or_false] at he
      obtain ⟨o1, o2, o3, o4, o5⟩ := hr
      have lg : ∀ j : Nat, j ≤ 1000 → (j : Int).natAbs.log2 < 1920 := fun j hj => by
        have := Nat.log2_le_self (j : Int).natAbs
        omega
      rcases he with rfl | rfl
      · exact ev_cb (ea_cons (ev_var rfl (ea_nil (cv_strI (lg k o2.2) ⟨rfl, rfl⟩))))
      · exact ev_cb (ea_cons (ev_var rfl (ea_nil (cv_strI (lg l o3.2) ⟨rfl, rfl⟩))))
    · exact ov_cat (by simp) (hP _ p)
  | rename ps r =>
    refine sv_seq (st _ (by simp [sevens]) (by simp [kdR]; decide) (seqK_nx (sv_seq (st _ (by simp [sevens]) (by simp [kdR]; decide) (seqK_nx (sv_seq (st _ (by simp [sevens]) (by simp [kdR]; decide) (seqK_nx (sv_seq (st _ (by simp [sevens]) (by simp [kdR]; decide) (seqK_nx (sv_seq (go _ (by simp [kdR, sevens]) rfl ?_)))))))))))))
    have hw : ∀ w ∈ ps.map arrW, 1 ≤ w.length ∧ w.length ≤ 17 := fun w hh => by
      obtain ⟨p, hp, rfl⟩ := List.mem_map.1 hh
      refine ⟨?_, arr_len (hr.1.nm p hp)⟩
      have := nm_len8 (hr.1.nm p hp).1
      rw [len_tl9] at this ⊢
      show 1 ≤ (arrW p).cps.toList.length
      rw [arr_tl, List.length_append]
      have e : (TL.tl p.1).length = p.1.cps.toList.length := rfl
      omega
    have hl : (ps.map arrW).length ≤ 100 := by simpa using hr.1.ln
    refine sv_ret (ev_lst (ea_cons (ev_str (ea_cons (ev_jn hl hw (fun {P' XP'} k => ?_) (ea_nil ⟨by simp, ?_⟩))))))
    · refine ev_joinS (ev_str ⟨_, rfl, ev_lcU (ev_bh rfl rfl ⟨_, fun d => .str (Txt.join ">" [fstS d, sndS d]), rfl, by simpa using Nat.le_trans hr.1.ln (by decide), fun e he => ?_, ps.map arrW, .inl (by rw [List.map_map, List.map_map]; rfl), jn_fit hl hw, k (jn_fit hl hw)⟩)⟩)
      obtain ⟨p, hp, rfl⟩ := List.mem_map.1 he
      have h1 := nm_len8 (hr.1.nm p hp).1
      have h2 := nm_len8 (hr.1.nm p hp).2
      have h3 : (">" : Str).length = 1 := by decide
      exact ev_joinT (ev_str ⟨_, rfl, ev_var rfl ⟨[p.1, p.2], rfl, by simp [h3]; omega, rfl, rfl⟩⟩)
    · show P (.lst [.str "rename", .str (jnW (ps.map arrW))]) mu0
      rw [← prW_jn]
      exact hP _ p
  | beside as r q =>
    refine sv_seq (st _ (by simp [sevens]) (by simp [kdR]; decide) (seqK_nx (sv_seq (st _ (by simp [sevens]) (by simp [kdR]; decide) (seqK_nx (sv_seq (st _ (by simp [sevens]) (by simp [kdR]; decide) (seqK_nx (sv_seq (st _ (by simp [sevens]) (by simp [kdR]; decide) (seqK_nx (sv_seq (st _ (by simp [sevens]) (by simp [kdR]; decide) (seqK_nx ?_))))))))))))))
    have hw : ∀ w ∈ as, 1 ≤ w.length ∧ w.length ≤ 17 := fun w hh => by
      have := nm_len8 (hr.1.nm w hh)
      omega
    refine sv_ret (ev_lst (ea_cons (ev_kd rfl (ea_cons (ev_jn hr.1.ln hw (fun {P' XP'} k => ?_) (ea_nil ⟨by simp, hP _ p⟩))))))
    exact ev_joinT (ev_str ⟨_, rfl, ev_bh rfl rfl ⟨as, rfl, jn_fit hr.1.ln hw, k (jn_fit hr.1.ln hw)⟩⟩)
  | only as r =>
    refine sv_seq (st _ (by simp [sevens]) (by simp [kdR]; decide) (seqK_nx (sv_seq (st _ (by simp [sevens]) (by simp [kdR]; decide) (seqK_nx (sv_seq (st _ (by simp [sevens]) (by simp [kdR]; decide) (seqK_nx (sv_seq (st _ (by simp [sevens]) (by simp [kdR]; decide) (seqK_nx (sv_seq (st _ (by simp [sevens]) (by simp [kdR]; decide) (seqK_nx ?_))))))))))))))
    have hw : ∀ w ∈ as, 1 ≤ w.length ∧ w.length ≤ 17 := fun w hh => by
      have := nm_len8 (hr.1.nm w hh)
      omega
    refine sv_ret (ev_lst (ea_cons (ev_kd rfl (ea_cons (ev_jn hr.1.ln hw (fun {P' XP'} k => ?_) (ea_nil ⟨by simp, hP _ p⟩))))))
    exact ev_joinT (ev_str ⟨_, rfl, ev_bh rfl rfl ⟨as, rfl, jn_fit hr.1.ln hw, k (jn_fit hr.1.ln hw)⟩⟩)
theorem flat_le {α β : Type} {l : List α} {f : α → List β} (k : Nat) : ((l.take k).flatMap f).length ≤ (l.flatMap f).length := by
  have e : l.flatMap f = (l.take k).flatMap f ++ (l.drop k).flatMap f := by rw [← List.flatMap_append, List.take_append_drop]
  rw [e, List.length_append]
  omega
theorem flat_succ {α β : Type} {l : List α} {f : α → List β} {k : Nat} {x : α} (h : l[k]? = some x) : (l.take (k + 1)).flatMap f = (l.take k).flatMap f ++ f x := by
  obtain ⟨hk, rfl⟩ := List.getElem?_eq_some_iff.1 h
  rw [List.take_succ_eq_append_getElem hk, List.flatMap_append]
  simp
theorem pure_words_of {T : Cfg} (hS : ShOk T) (n : Nat) : ∀ E ds μ P XP, pu (c_words_of T (n + 1)) ds μ P XP → SV T (t_words_of T n E) (fun cls dd _ H => E cls dd H) ⟨slots 3 ds, μ⟩ (fnK P XP) := Hd.o (by
 simp (disch :=
 with_unfolding_all
 exact by
  rintro E ds μ P XP ⟨rfl, Pf, Xf, ⟨r, rfl, hr, hh, hl, p⟩, hP, hX⟩
  unfold t_words_of
  walk_at "pks"
  refine ⟨r, rfl, hr, ?_⟩
  have len : ∀ k, (hdW r ++ ((innR r).take k).flatMap wdsR).length ≤ 1000 := fun k => by
    rw [wds_eq, List.length_append] at hl
    have := flat_le (l := innR r) (f := wdsR) k
    rw [List.length_append]
    omega
  refine seqK_nx (sv_seq (sv_forNI (ev_cal0 (ea_cons (ev_var rfl (ea_nil ⟨r, rfl, ?_⟩))))))
  refine ⟨_, fun k => [some (rcD r), some (.lst ((hdW r ++ ((innR r).take k).flatMap wdsR).map D.str)), none], fun _ μ => μ = mu0, .inl rfl, ?_, rfl, fun k e μ' he em => ?_, fun s' hs' em => ?_⟩
  · exact ⟨rfl, by simp, trivial⟩
  · subst em
    rw [List.getElem?_map, Option.map_eq_some_iff] at he
    obtain ⟨q, hq, rfl⟩ := he
    have hm : q ∈ innR r := List.mem_of_getElem? hq
    have l1 := len k
    have l2 := len (k + 1)
    rw [flat_succ hq, ← List.append_assoc, List.length_append] at l2
    have l3 := inn_wds hm
    have l4 := inn_ht hm
    refine sv_asg (ev_op (ev_var rfl (ev_cal0 (ea_cons (ev_var rfl (ea_nil ⟨q, rfl, inn_ok hr hm, by omega, by omega, ?_⟩))))))
    refine ov_cat (by simp only [List.length_map]; omega) ?_
    rw [← List.map_append, List.append_assoc, ← flat_succ hq]
    exact ⟨⟨rfl, rfl, trivial⟩, rfl⟩
  · obtain ⟨rho, m⟩ := s'
    subst em
    dsimp only at hs' ⊢
    rw [List.length_map, List.take_length, ← wds_eq] at hs'
    refine seqK_nx (sv_wk hs' sub_refl (sv_ret (ev_var rfl (hP _ p))))
 ) only [↓hE])
theorem pure_show_recipe {T : Cfg} (hS : ShOk T) : ∀ E ds μ P XP, pu (c_show_recipe T) ds μ P XP → SV T (t_show_recipe T E) (fun cls dd _ H => E cls dd H) ⟨slots 1 ds, μ⟩ (fnK P XP) := by
  rintro E ds μ P XP ⟨rfl, Pf, Xf, ⟨r, rfl, hr, hh, hl, hw, p⟩, hP, hX⟩
  unfold t_show_recipe
  refine sv_ret (ev_joinS (ev_str ⟨_, rfl, ev_cal0 (ea_cons (ev_var rfl (ea_nil ⟨r, rfl, hr, hh, hl, wdsR r, .inl rfl, hw, hP _ p⟩)))⟩))
def nm0 : Rcp → List Str
  | .part x => [x]
  | _ => []
theorem nms_eq' (r : Rcp) : nmsR r = nm0 r ++ (innR r).flatMap nmsR := by
  rw [nms_eq]
  cases r <;> rfl
theorem nms_le : ∀ r : Rcp, (nmsR r).length ≤ (wdsR r).length
  | .stop => by simp [nmsR]
  | .part _ => by simp [nmsR, wdsR]
  | .ahead _ r => by have := nms_le r; simp only [nmsR, wdsR, List.length_cons]; omega
  | .toss _ _ _ r s => by have := nms_le r; have := nms_le s; simp only [nmsR, wdsR, List.length_cons, List.length_append]; omega
  | .beside _ r s => by have := nms_le r; have := nms_le s; simp only [nmsR, wdsR, List.length_cons, List.length_append]; omega
  | .only _ r => by have := nms_le r; simp only [nmsR, wdsR, List.length_cons]; omega
  | .rename _ r => by have := nms_le r; simp only [nmsR, wdsR, List.length_cons]; omega
theorem pure_names_of {T : Cfg} (hS : ShOk T) (n : Nat) : ∀ E ds μ P XP, pu (c_names_of T (n + 1)) ds μ P XP → SV T (t_names_of T n E) (fun cls dd _ H => E cls dd H) ⟨slots 3 ds, μ⟩ (fnK P XP) := by
  rintro E ds μ P XP ⟨rfl, Pf, Xf, ⟨r, rfl, hh, hl, p⟩, hP, hX⟩
  unfold t_names_of
  have len : ∀ k, (nm0 r ++ ((innR r).take k).flatMap nmsR).length ≤ 1000 := fun k => by
    have h0 := nms_le r
    rw [nms_eq', List.length_append] at h0
    have := flat_le (l := innR r) (f := nmsR) k
    rw [List.length_append]
    omega
  have loop : seqK T (tSeq (tFor (iList T.K (tCall (spOf T (pu (c_inner_of T))) [] E0 (tCons (tVar 0) tNil))) (gName 2) (tAsg (tOp rCat (tVar 1) (tCall (spOf T (pu (c_names_of T n))) [] E0 (tCons (tVar 2) tNil))) (gName 1))) (tRet (tVar 1))) (fun cls dd _ H => E cls dd H) (fnK P XP) (Out.nx ⟨(slots 3 [rcD r]).set 1 (some (.lst ((nm0 r).map D.str))), mu0⟩) := by
    refine seqK_nx (sv_seq (sv_forNI (ev_cal0 (ea_cons (ev_var rfl (ea_nil ⟨r, rfl, ?_⟩))))))
    refine ⟨_, fun k => [some (rcD r), some (.lst ((nm0 r ++ ((innR r).take k).flatMap nmsR).map D.str)), none], fun _ μ => μ = mu0, .inl rfl, ?_, rfl, fun k e μ' he em => ?_, fun s' hs' em => ?_⟩
    · exact ⟨rfl, by simp, trivial⟩
    · subst em
      rw [List.getElem?_map, Option.map_eq_some_iff] at he
      obtain ⟨q, hq, rfl⟩ := he
      have hm : q ∈ innR r := List.mem_of_getElem? hq
      have l1 := len k
      have l2 := len (k + 1)
      rw [flat_succ hq, ← List.append_assoc, List.length_append] at l2
      have l3 := inn_wds hm
      have l4 := inn_ht hm
      refine sv_asg (ev_op (ev_var rfl (ev_cal0 (ea_cons (ev_var rfl (ea_nil ⟨q, rfl, by omega, by omega, ?_⟩))))))
      refine ov_cat (by simp only [List.length_map]; omega) ?_
      rw [← List.map_append, List.append_assoc, ← flat_succ hq]
      exact ⟨⟨rfl, rfl, trivial⟩, rfl⟩
    · obtain ⟨rho, m⟩ := s'
      subst em
      dsimp only at hs' ⊢
      rw [List.length_map, List.take_length, ← nms_eq'] at hs'
      refine seqK_nx (sv_wk hs' sub_refl (sv_ret (ev_var rfl (hP _ p))))
  refine sv_seq (sv_asg (ev_if (tv_test (ev_op (ev_kd rfl (ev_str (ov_eqDS (sh_kd r) (sev_sh _ (by simp [sevens])) ⟨_, rfl, fun h => ?_, fun h => ?_⟩)))))))
  · cases r with
    | part x => exact ev_lst (ea_cons (ev_bh rfl rfl (ea_nil ⟨by simp, loop⟩)))
    | _ => exact absurd (of_decide_eq_true h) (by simp [kdR]; decide)
  · have e : nm0 r = [] := by
      cases r with
      | part x => exact absurd rfl (of_decide_eq_false h)
      | _ => rfl
    rw [e] at loop
    exact ev_lst (ea_nil ⟨by simp, loop⟩)
theorem pure_parts_of {T : Cfg} (hS : ShOk T) : ∀ E ds μ P XP, nw (c_parts_of T) ds μ P XP → SV T (t_parts_of T E) (fun cls dd _ H => E cls dd H) ⟨slots 1 ds, μ⟩ (fnK P XP) := by
  rintro E ds μ P XP ⟨rfl, Pf, Xf, ⟨r, rfl, hh, hl, p⟩, hP, hX⟩
  unfold t_parts_of
  have := nms_le r
  refine sv_ret (ev_sortSetM (ev_cal0 (ea_cons (ev_var rfl (ea_nil ⟨r, rfl, hh, hl, nmsR r, .inl rfl, by omega, fun L h1 h2 h3 a ha => ?_⟩)))))
  exact hP _ (p L h1 h2 h3) a ha
theorem acc_of {α : Type} {F : α → D} {p : α → Prop} : ∀ {acc : List D}, (∀ (k : Nat) (x : D), acc[k]? = some x → ∃ a, x = F a ∧ p a) → ∃ L : List α, acc = L.map F ∧ ∀ a ∈ L, p a
  | [], _ => ⟨[], rfl, fun a h => nomatch h⟩
  | d :: ds, h => by
    obtain ⟨a, rfl, pa⟩ := h 0 d rfl
    obtain ⟨L, rfl, hL⟩ := acc_of (acc := ds) fun k x hk => h (k + 1) x (by simpa using hk)
    exact ⟨a :: L, rfl, fun b hb => by
      rcases List.mem_cons.1 hb with rfl | hb
      · exact pa
      · exact hL b hb⟩
def ltS (v : Nat) : Str := ⟨#[abc.cps.toList.getD v 0]⟩
def ltD : D → D
  | .int i => .str (ltS i.toNat)
  | _ => .non
theorem joinL_nil : ∀ L : List (List Nat), TL.joinL [] L = L.flatten
  | [] => rfl
  | [x] => by simp [TL.joinL]
  | x :: z :: r => by
    show x ++ ([] ++ TL.joinL [] (z :: r)) = _
    rw [joinL_nil (z :: r)]
    rfl
theorem word_nm {vs : List Nat} (h0 : 1 ≤ vs.length) (h8 : vs.length ≤ 8) (hv : ∀ v ∈ vs, v < 26) : nmB (Txt.join "" (vs.map ltS)) = true := by
  have e : TL.tl (Txt.join "" (vs.map ltS)) = vs.map fun v => abc.cps.toList.getD v 0 := by
    rw [TL.join_eq, TL.tl_join]
    show TL.joinL [] _ = _
    rw [joinL_nil, List.map_map]
    clear h0 h8 hv
    induction vs with
    | nil => rfl
    | cons v vs ih =>
      rw [List.map_cons, List.flatten_cons, ih]
      rfl
  unfold nmB
  rw [Bool.and_eq_true, Bool.and_eq_true, len_tl9, e, List.length_map]
  refine ⟨decide_eq_true h0, decide_eq_true h8, List.all_eq_true.2 fun c hc => ?_⟩
  rw [show (Txt.join "" (vs.map ltS)).cps.toList = TL.tl (Txt.join "" (vs.map ltS)) from rfl, e] at hc
  obtain ⟨v, hm, rfl⟩ := List.mem_map.1 hc
  have hl : abc.cps.toList.length = 26 := by decide +kernel
  have h2 : v < abc.cps.toList.length := by rw [hl]; exact hv v hm
  refine decide_eq_true ?_
  rw [List.getD_eq_getElem?_getD, List.getElem?_eq_getElem h2]
  exact List.getElem_mem h2
def c_Lword (T : Cfg) : Nat → List D → (D → Nat → Prop) → Prop := fun b rest P => rest = [] ∧ 11 ≤ b ∧ ∀ (x : Str) (b' : Nat), nmB x = true → b ≤ b' + 11 → P (.str x) b'
theorem len_Lword {T : Cfg} : ∀ ds μ P XP, wl (c_Lword T) ds μ P XP → ds.length = 1 := by
  rintro ds μ P XP ⟨a, b, rest, rfl, rfl, Pf, ⟨rfl, _⟩, _⟩; rfl
def t_Lword (T : Cfg) (E : XK) : TS := (tSeq (tIfS (tTest (tOp rEq (tCall (spOf T (wl (c_Ldraw T))) [] E0 (tCons (tVar 0) (tCons (tC (.int 4)) tNil))) (tC (.int 0)))) (tRet (tCall (spOf T (wl (c_Lone T))) [] E0 (tCons (tVar 0) (tCons (tLst (tCons (tC (.str "stop")) (tCons (tC (.str "part")) (tCons (tC (.str "ahead")) (tCons (tC (.str "toss")) (tCons (tC (.str "beside")) (tCons (tC (.str "only")) (tCons (tC (.str "rename")) (tCons (tC (.str "a")) tNil))))))))) tNil)))) tNext)
    (tSeq (tAsg (tLc (iRng1 (tCons (tCall (spOf T (wl (c_Lone T))) [] E0 (tCons (tVar 0) (tCons (tLst (tCons (tC (.int 1)) (tCons (tC (.int 1)) (tCons (tC (.int 2)) (tCons (tC (.int 8)) tNil))))) tNil))) tNil)) (gName 2) tYes (tCall (spOf T (wl (c_Ldraw T))) [] E0 (tCons (tVar 0) (tCons (tC (.int 26)) tNil))) [2]) (gName 1))
    (tRet (tJoinS T.K (tC (.str "")) (tLc (iList T.K (tVar 1)) (gName 2) tYes (tOp rIxS (tC (.str "abcdefghijklmnopqrstuvwxyz")) (tVar 2)) [2])))))
theorem pure_Lword {T : Cfg} (hT : ShOk T) : ∀ E ds μ P XP, wl (c_Lword T) ds μ P XP → SV T (t_Lword T E) (fun cls dd _ H => E cls dd H) ⟨slots 3 ds, μ⟩ (fnK P XP) := Hd.o (by
 simp (disch :=
 with_unfolding_all
 exact by
  rintro E ds μ P XP ⟨a, b, rest, rfl, rfl, Pf, ⟨rfl, hb, k⟩, hP⟩
  unfold t_Lword
  walk_at "pks"
  refine ⟨a, b, _, _, rfl, rfl, draw_i (by omega) (by decide) (bt4 (by decide)) fun v v0 v1 => ?_⟩
  walk_at "pks"
  refine ⟨fun h => ?_, fun h => ?_⟩
  · walk_at "pks"
    refine ⟨a, _, _, _, rfl, rfl, one_i (by omega) (by simp) (by simp) fun e he => ?_⟩
    have hm : ∃ x : Str, e = .str x ∧ nmB x = true := by
      simp only [List.mem_cons, List.not_mem_nil, or_false] at he
      rcases he with rfl | rfl | rfl | rfl | rfl | rfl | rfl | rfl <;> exact ⟨_, rfl, by decide +kernel⟩
    obtain ⟨x, rfl, hx⟩ := hm
    exact hP _ _ (k x _ hx (by omega))
  · refine sv_next (seqK_nx (sv_seq (sv_asg (ev_lcW (iv_rng1 ?_)))))
    walk_at "pks"
    refine ⟨a, _, _, _, rfl, rfl, one_i (by omega) (by simp) (by simp) fun e he => ?_⟩
    have hm : ∃ t : Nat, e = .int (t : Int) ∧ 1 ≤ t ∧ t ≤ 8 := by
      simp only [List.mem_cons, List.not_mem_nil, or_false] at he
      rcases he with rfl | rfl | rfl | rfl
      · exact ⟨1, rfl, by decide, by decide⟩
      · exact ⟨1, rfl, by decide, by decide⟩
      · exact ⟨2, rfl, by decide, by decide⟩
      · exact ⟨8, rfl, by decide, by decide⟩
    obtain ⟨t, rfl, t1, t8⟩ := hm
    walk_at "pks"
    refine ⟨by omega, by omega, by omega, fun i μ => ∃ b', μ = put mu0 a (.well b') ∧ b ≤ b' + 2 + i, fun _ x => ∃ v : Nat, x = .int (v : Int) ∧ v < 26, ⟨_, rfl, by omega⟩, ?_, ?_⟩
    · rintro i μ hi ⟨b', rfl, hb'⟩
      walk_at "pks"
      refine ⟨a, _, _, _, rfl, rfl, draw_i (by omega) (by decide) (bt4 (by decide)) fun u u0 u1 => ?_⟩
      exact ⟨⟨u.toNat, by rw [Int.toNat_of_nonneg u0], by omega⟩, _, rfl, by omega⟩
    · rintro acc μ hlen hR ⟨b', rfl, hb'⟩
      obtain ⟨vs, rfl, hv⟩ := acc_of (F := fun v : Nat => D.int (v : Int)) hR
      have hl : vs.length = t := by simpa using hlen
      refine seqK_nx (sv_ret (ev_joinS (ev_str ⟨_, rfl, ev_lcF (ev_var rfl ⟨_, ltD, .inl rfl, by simp; omega, fun e he => ?_, vs.map ltS, .inl (by rw [List.map_map, List.map_map]; rfl), ?_, ?_⟩)⟩)))
      · obtain ⟨v, hm, rfl⟩ := List.mem_map.1 he
        have hv2 := hv v hm
        have hl2 : abc.cps.toList.length = 26 := by decide +kernel
        have h2 : v < abc.cps.toList.length := by omega
        refine ev_op (ev_str (ev_var rfl (ov_ixS (c := abc.cps.toList.getD v 0) (by decide +kernel) ?_ ⟨rfl, rfl⟩)))
        refine at_nat (k := v) ?_
        rw [List.getD_eq_getElem?_getD, List.getElem?_eq_getElem h2]
        rfl
      · have h3 : ("" : Str).length = 0 := by decide
        have h4 := sum_b9 (b := 1) (ys := vs.map ltS) fun y hy => by
          obtain ⟨v, hm, rfl⟩ := List.mem_map.1 hy
          exact Nat.le_refl 1
        rw [List.length_map] at h4 ⊢
        rw [h3]
        omega
      · exact hP _ _ (k _ b' (word_nm (by omega) (by omega) hv) (by omega))
 ) only [↓hE])
theorem ov_ninL9 {T : Cfg} {P : D → Mu → Prop} {μ : Mu} {z : Str} {zs : List Str} {d : D} (hd : Seqd d (zs.map D.str)) (p : P (.bl (!decide (z ∈ zs))) μ) : OV T (rIn T.K true) (.str z) d μ P := ov_of (fun x y Hb H Q ex r1 r2 q => by
  cases r1
  obtain ⟨a, xs, rfl, hx, r⟩ := hd.inv r2
  obtain rfl := strs_inv r
  refine ⟨a, _, rfl, .inl (Evl.ex_l ex hx), rfl, ?_, ?_⟩
  · rw [List.all_eq_true]
    intro v hv
    obtain ⟨s, _, rfl⟩ := List.mem_map.1 hv
    rfl
  · show Q (.bl (if true = true then !inV (.str z) (zs.map V.str) else _)) H
    rw [if_pos rfl, inV_strs]
    exact q _ (.bl _)) p
def c_Lunlike (T : Cfg) : Nat → List D → (D → Nat → Prop) → Prop := fun b rest P => ∃ n : Nat, rest = [.int (n : Int)] ∧ n ≤ 4 ∧ 45 ≤ b ∧ ∀ (as : List Str) (b' : Nat), SgsOk as → as.length ≤ n → b ≤ b' + 45 → P (strsT as) b'
theorem len_Lunlike {T : Cfg} : ∀ ds μ P XP, wl (c_Lunlike T) ds μ P XP → ds.length = 2 := by
  rintro ds μ P XP ⟨a, b, rest, rfl, rfl, Pf, ⟨n, rfl, _⟩, _⟩; rfl
def c_Lweight (T : Cfg) : Nat → List D → (D → Nat → Prop) → Prop := fun b rest P => rest = [] ∧ 3 ≤ b ∧ ∀ (k b' : Nat), 1 ≤ k ∧ k ≤ 1000 → b ≤ b' + 3 → P (.int (k : Int)) b'
theorem len_Lweight {T : Cfg} : ∀ ds μ P XP, wl (c_Lweight T) ds μ P XP → ds.length = 1 := by
  rintro ds μ P XP ⟨a, b, rest, rfl, rfl, Pf, ⟨rfl, _⟩, _⟩; rfl
def c_Lname (T : Cfg) : Nat → List D → (D → Nat → Prop) → Prop := fun b rest P => rest = [] ∧ 12 ≤ b ∧ ∀ (x : Str) (b' : Nat), nmB x = true → x ∉ sevens → b ≤ b' + 12 → P (.str x) b'
theorem len_Lname {T : Cfg} : ∀ ds μ P XP, wl (c_Lname T) ds μ P XP → ds.length = 1 := by
  rintro ds μ P XP ⟨a, b, rest, rfl, rfl, Pf, ⟨rfl, _⟩, _⟩; rfl
def t_Lunlike (T : Cfg) (E : XK) : TS := (tSeq (tAsg (tLst tNil) (gName 2))
    (tSeq (tFor (iRng1 (tCons (tCall (spOf T (wl (c_Ldraw T))) [] E0 (tCons (tVar 0) (tCons (tOp (rI0 fun i j => .int (i + j)) (tVar 1) (tC (.int 1))) tNil))) tNil)) (gName 3) (tSeq (tAsg (tCall (spOf T (wl (c_Lword T))) [] E0 (tCons (tVar 0) tNil)) (gName 4))
    (tAsg (tOp rCat (tVar 2) (tOp rRep (tLst (tCons (tVar 4) tNil)) (tCB rInt1 (tCons (tOp (rIn T.K true) (tVar 4) (tVar 2)) tNil)))) (gName 2))))
    (tRet (tCB (rTupOf T.K) (tCons (tVar 2) tNil)))))
def t_Lweight (T : Cfg) (E : XK) : TS := (tRet (tOp (rIxL T.K) (tLst (tCons (tC (.int 1)) (tCons (tC (.int 1000)) (tCons (tOp (rI0 fun i j => .int (i + j)) (tC (.int 1)) (tCall (spOf T (wl (c_Ldraw T))) [] E0 (tCons (tVar 0) (tCons (tC (.int 9)) tNil)))) (tCons (tOp (rI0 fun i j => .int (i + j)) (tC (.int 1)) (tCall (spOf T (wl (c_Ldraw T))) [] E0 (tCons (tVar 0) (tCons (tC (.int 1000)) tNil)))) tNil))))) (tCall (spOf T (wl (c_Ldraw T))) [] E0 (tCons (tVar 0) (tCons (tC (.int 4)) tNil)))))
def t_Lname (T : Cfg) (E : XK) : TS := (tSeq (tAsg (tCall (spOf T (wl (c_Lone T))) [] E0 (tCons (tVar 0) (tCons (tLst (tCons (tC (.str "p")) (tCons (tC (.str "ab")) (tCons (tC (.str "stopp")) (tCons (tC (.str "sto")) (tCons (tC (.str "onlyy")) (tCons (tCall (spOf T (wl (c_Lword T))) [] E0 (tCons (tVar 0) tNil)) tNil))))))) tNil))) (gName 1))
    (tRet (tOp (rIxL T.K) (tLst (tCons (tVar 1) (tCons (tC (.str "p")) tNil))) (tCB rInt1 (tCons (tOp (rIn T.K false) (tVar 1) (tTup (tCons (tC (.str "stop")) (tCons (tC (.str "part")) (tCons (tC (.str "ahead")) (tCons (tC (.str "toss")) (tCons (tC (.str "beside")) (tCons (tC (.str "only")) (tCons (tC (.str "rename")) tNil))))))))) tNil)))))
structure SgsN (n : Nat) (as : List Str) : Prop where
  nd : as.Nodup
  nm : ∀ x ∈ as, nmB x = true
  ln : as.length ≤ n
theorem sgs_more {n : Nat} {as : List Str} {x : Str} (h : SgsN n as) (hx : nmB x = true) : SgsN (n + 1) (as ++ if x ∈ as then [] else [x]) := by
  have hl := h.ln
  by_cases hm : x ∈ as
  · rw [if_pos hm, List.append_nil]
    exact ⟨h.nd, h.nm, by omega⟩
  · rw [if_neg hm]
    refine ⟨List.nodup_append.2 ⟨h.nd, by simp, fun a ha b hb => ?_⟩, fun y hy => ?_, by rw [List.length_append]; simp; omega⟩
    · rw [List.mem_singleton] at hb
      rintro rfl
      exact hm (hb ▸ ha)
    · rcases List.mem_append.1 hy with hy | hy
      · exact h.nm y hy
      · rw [List.mem_singleton] at hy
        rw [hy]; exact hx
theorem pure_Lunlike {T : Cfg} (hT : ShOk T) : ∀ E ds μ P XP, wl (c_Lunlike T) ds μ P XP → SV T (t_Lunlike T E) (fun cls dd _ H => E cls dd H) ⟨slots 5 ds, μ⟩ (fnK P XP) := Hd.o (by
 simp (disch :=
 with_unfolding_all
 exact by
  rintro E ds μ P XP ⟨a, b, rest, rfl, rfl, Pf, ⟨n, rfl, n4, hb, k⟩, hP⟩
  unfold t_Lunlike
  refine sv_seq (sv_asg (ev_lst (ea_nil ⟨by simp, ?_⟩)))
  refine seqK_nx (sv_seq (sv_forX (X := List Str × Nat) (fun _ x => [some (.ptr a), some (.int (n : Int)), some (.lst (x.1.map D.str)), none, none]) (fun j x μ => SgsN j x.1 ∧ b ≤ x.2 + 1 + 11 * j ∧ μ = put mu0 a (.well x.2)) (iv_rng1 ?_)))
  walk_at "pks"
  refine ⟨a, b, _, _, rfl, rfl, draw_i (by omega) (by omega) (bt4 (by omega)) fun v v0 v1 => ?_⟩
  walk_at "pks"
  refine ⟨by omega, by omega, ([], b - 1), by walk_at "le", ⟨⟨by simp, by simp, by simp⟩, by dsimp only; omega, rfl⟩, fun j x μ hj hJ => ?_, fun s' x hr hJ => ?_⟩
  · obtain ⟨h1, h2, rfl⟩ := hJ
    have hj : (j : Int) < v := by omega
    walk_at "pks"
    refine ⟨a, _, _, _, rfl, rfl, rfl, by omega, fun y b' hy hb' => ?_⟩
    have h0 := sgs_more h1 hy
    refine seqK_nx (sv_asg (ev_op (ev_var rfl (ev_op (ev_lst (ea_cons (ev_var rfl (ea_nil ⟨by simp, ev_cb (ea_cons (ev_op (ev_var rfl (ev_var rfl (ov_ninL9 (.inl rfl) (ea_nil (cv_intB ?_)))))))⟩))))))))
    have l2 := h1.ln
    by_cases hm : y ∈ x.1
    · rw [decide_eq_true hm]
      rw [if_pos hm] at h0
      refine ov_rep (k := 0) (by decide) (by simp) (ov_cat (by simp; omega) ?_)
      refine ⟨(x.1 ++ [], b'), ?_, h0, by dsimp only; omega, rfl⟩
      rw [List.append_nil]
      simp only [List.replicate_zero, List.flatten_nil, List.append_nil]
      walk_at "le"
    · rw [decide_eq_false hm]
      rw [if_neg hm] at h0
      refine ov_rep (k := 1) (by decide) (by simp) (ov_cat (by simp; omega) ?_)
      refine ⟨(x.1 ++ [y], b'), ?_, h0, by dsimp only; omega, rfl⟩
      dsimp only
      rw [List.map_append]
      walk_at "le"
  · obtain ⟨rho, m⟩ := s'
    obtain ⟨h1, h2, h3⟩ := hJ
    dsimp only at hr h2 h3 ⊢
    subst h3
    refine seqK_nx (sv_wk hr sub_refl (sv_ret (ev_cb (ea_cons (ev_var rfl (ea_nil (cv_tupI (.inl rfl) (hP _ _ (k x.1 x.2 ⟨h1.nd, h1.nm, ?_⟩ ?_ ?_)))))))))
    · have := h1.ln
      omega
    · have := h1.ln
      omega
    · omega
 ) only [↓hE])
theorem pure_Lweight {T : Cfg} (hT : ShOk T) : ∀ E ds μ P XP, wl (c_Lweight T) ds μ P XP → SV T (t_Lweight T E) (fun cls dd _ H => E cls dd H) ⟨slots 1 ds, μ⟩ (fnK P XP) := Hd.o (by
 simp (disch :=
 with_unfolding_all
 exact by
  rintro E ds μ P XP ⟨a, b, rest, rfl, rfl, Pf, ⟨rfl, hb, k⟩, hP⟩
  unfold t_Lweight
  walk_at "pks"
  refine ⟨a, b, _, _, rfl, rfl, draw_i (by omega) (by decide) (bt4 (by decide)) fun u u0 u1 => ?_⟩
  walk_at "pks"
  refine ⟨a, _, _, _, rfl, rfl, draw_i (by omega) (by decide) (bt4 (by decide)) fun v v0 v1 => ?_⟩
  walk_at "pks"
  refine ⟨a, _, _, _, rfl, rfl, draw_i (by omega) (by decide) (bt4 (by decide)) fun w w0 w1 => ?_⟩
  obtain ⟨j, rfl⟩ : ∃ j : Nat, w = (j : Int) := ⟨w.toNat, by omega⟩
  have hj : j < 4 := by omega
  have go : ∀ t : Nat, 1 ≤ t → t ≤ 1000 → fnK P XP (Out.rt (.int (t : Int)) (put mu0 a (.well (b - 1 - 1 - 1)))) := fun t h1 h2 => hP _ _ (k t _ ⟨h1, h2⟩ (by omega))
  match j, hj with
  | 0, _ => exact ov_ixL (.inl rfl) (at_nat (k := 0) rfl) (go 1 (by decide) (by decide))
  | 1, _ => exact ov_ixL (.inl rfl) (at_nat (k := 1) rfl) (go 1000 (by decide) (by decide))
  | 2, _ => exact ov_ixL (.inl rfl) (at_nat (k := 2) rfl) (by
      have := go (1 + u).toNat (by omega) (by omega)
      rwa [Int.toNat_of_nonneg (by omega)] at this)
  | 3, _ => exact ov_ixL (.inl rfl) (at_nat (k := 3) rfl) (by
      have := go (1 + v).toNat (by omega) (by omega)
      rwa [Int.toNat_of_nonneg (by omega)] at this)
 ) only [↓hE])
theorem pure_Lname {T : Cfg} (hT : ShOk T) : ∀ E ds μ P XP, wl (c_Lname T) ds μ P XP → SV T (t_Lname T E) (fun cls dd _ H => E cls dd H) ⟨slots 2 ds, μ⟩ (fnK P XP) := Hd.o (by
 simp (disch :=
 with_unfolding_all
 exact by
  rintro E ds μ P XP ⟨a, b, rest, rfl, rfl, Pf, ⟨rfl, hb, k⟩, hP⟩
  unfold t_Lname
  walk_at "pks"
  refine ⟨a, b, _, _, rfl, rfl, rfl, by omega, fun y b' hy hb' => ?_⟩
  walk_at "pks"
  refine ⟨a, _, _, _, rfl, rfl, one_i (by omega) (by simp) (by simp) fun e he => ?_⟩
  have hm : ∃ x : Str, e = .str x ∧ nmB x = true := by
    simp only [List.mem_cons, List.not_mem_nil, or_false] at he
    rcases he with rfl | rfl | rfl | rfl | rfl | rfl
    · exact ⟨_, rfl, by decide +kernel⟩
    · exact ⟨_, rfl, by decide +kernel⟩
    · exact ⟨_, rfl, by decide +kernel⟩
    · exact ⟨_, rfl, by decide +kernel⟩
    · exact ⟨_, rfl, by decide +kernel⟩
    · exact ⟨_, rfl, hy⟩
  obtain ⟨x, rfl, hx⟩ := hm
  walk_at "pks"
  refine ov_inT (zs := sevens) ?_
  walk_at "pks"
  by_cases hm : x ∈ sevens
  · rw [decide_eq_true hm]
    exact ov_ixL (.inl rfl) (at_nat (k := 1) rfl) (hP _ _ (k _ _ (by decide +kernel) (by decide +kernel) (by omega)))
  · rw [decide_eq_false hm]
    exact ov_ixL (.inl rfl) (at_nat (k := 0) rfl) (hP _ _ (k _ _ hx hm (by omega)))
 ) only [↓hE])
def c_Lpairs (T : Cfg) : Nat → List D → (D → Nat → Prop) → Prop := fun b rest P => rest = [] ∧ 95 ≤ b ∧ ∀ (ps : List (Str × Str)) (b' : Nat), PrsOk ps → b ≤ b' + 95 → P (.tup (ps.map rpT)) b'
theorem len_Lpairs {T : Cfg} : ∀ ds μ P XP, wl (c_Lpairs T) ds μ P XP → ds.length = 1 := by
  rintro ds μ P XP ⟨a, b, rest, rfl, rfl, Pf, ⟨rfl, _⟩, _⟩; rfl
def c_Lrecipe (T : Cfg) (n : Nat) : Nat → List D → (D → Nat → Prop) → Prop := fun b rest P => ∃ m : Nat, rest = [.int (m : Int)] ∧ 1 ≤ m ∧ m ≤ n ∧ m ≤ 30 ∧ 150 * m ≤ b ∧ ∀ (r : Rcp) (b' : Nat), okR r → (wdsR r).length ≤ m → b ≤ b' + 150 * m → P (rcD r) b'
theorem len_Lrecipe {T : Cfg} {n : Nat} : ∀ ds μ P XP, wl (c_Lrecipe T n) ds μ P XP → ds.length = 2 := by
  rintro ds μ P XP ⟨a, b, rest, rfl, rfl, Pf, ⟨m, rfl, _⟩, _⟩; rfl
theorem no_Lrecipe {T : Cfg} : ∀ ds μ P XP, wl (c_Lrecipe T 0) ds μ P XP → False := by
  rintro ds μ P XP ⟨a, b, rest, rfl, rfl, Pf, ⟨m, rfl, h1, h2, _⟩, _⟩
  omega
def t_Lrecipe (T : Cfg) (n : Nat) (E : XK) : TS := (tSeq (tAsg (tCall (spOf T (wl (c_Ldraw T))) [] E0 (tCons (tVar 0) (tCons (tC (.int 8)) tNil))) (gName 2))
    (tSeq (tIfS (tOr (tTest (tOp (rI0 fun i j => .bl (decide (i < j))) (tVar 1) (tC (.int 3)))) (tTest (tOp rEq (tVar 2) (tC (.int 0))))) (tRet (tOp (rIxL T.K) (tLst (tCons (tTup (tCons (tC (.str "stop")) tNil)) (tCons (tTup (tCons (tC (.str "part")) (tCons (tCall (spOf T (wl (c_Lname T))) [] E0 (tCons (tVar 0) tNil)) tNil))) tNil))) (tCB rInt1 (tCons (tOp (rI0 fun i j => .bl (decide (j < i))) (tCall (spOf T (wl (c_Ldraw T))) [] E0 (tCons (tVar 0) (tCons (tC (.int 5)) tNil))) (tC (.int 0))) tNil)))) tNext)
    (tSeq (tIfS (tTest (tOp (rI0 fun i j => .bl (decide (i < j))) (tVar 2) (tC (.int 3)))) (tRet (tTup (tCons (tC (.str "ahead")) (tCons (tCall (spOf T (wl (c_Lword T))) [] E0 (tCons (tVar 0) tNil)) (tCons (tCall (spOf T (wl (c_Lrecipe T n))) [] E0 (tCons (tVar 0) (tCons (tOp (rI0 fun i j => .int (i - j)) (tVar 1) (tC (.int 2))) tNil))) tNil))))) tNext)
    (tSeq (tIfS (tTest (tOp rEq (tVar 2) (tC (.int 3)))) (tRet (tTup (tCons (tC (.str "only")) (tCons (tCall (spOf T (wl (c_Lunlike T))) [] E0 (tCons (tVar 0) (tCons (tC (.int 4)) tNil))) (tCons (tCall (spOf T (wl (c_Lrecipe T n))) [] E0 (tCons (tVar 0) (tCons (tOp (rI0 fun i j => .int (i - j)) (tVar 1) (tC (.int 2))) tNil))) tNil))))) tNext)
    (tSeq (tIfS (tTest (tOp rEq (tVar 2) (tC (.int 4)))) (tRet (tTup (tCons (tC (.str "rename")) (tCons (tCall (spOf T (wl (c_Lpairs T))) [] E0 (tCons (tVar 0) tNil)) (tCons (tCall (spOf T (wl (c_Lrecipe T n))) [] E0 (tCons (tVar 0) (tCons (tOp (rI0 fun i j => .int (i - j)) (tVar 1) (tC (.int 2))) tNil))) tNil))))) tNext)
    (tSeq (tIfS (tTest (tOp (rI0 fun i j => .bl (decide (i < j))) (tVar 1) (tC (.int 6)))) (tRet (tTup (tCons (tC (.str "ahead")) (tCons (tCall (spOf T (wl (c_Lword T))) [] E0 (tCons (tVar 0) tNil)) (tCons (tTup (tCons (tC (.str "part")) (tCons (tCall (spOf T (wl (c_Lname T))) [] E0 (tCons (tVar 0) tNil)) tNil))) tNil))))) tNext)
    (tSeq (tAsg (tOp (rI0 fun i j => .int (i + j)) (tC (.int 1)) (tCall (spOf T (wl (c_Ldraw T))) [] E0 (tCons (tVar 0) (tCons (tOp (rI0 fun i j => .int (i - j)) (tVar 1) (tC (.int 5))) tNil)))) (gName 3))
    (tSeq (tIfS (tTest (tOp (rI0 fun i j => .bl (decide (i < j))) (tVar 2) (tC (.int 7)))) (tSeq (tAsg (tCall (spOf T (wl (c_Lrecipe T n))) [] E0 (tCons (tVar 0) (tCons (tVar 3) tNil))) (gName 5))
    (tRet (tTup (tCons (tC (.str "beside")) (tCons (tCall (spOf T (wl (c_Lunlike T))) [] E0 (tCons (tVar 0) (tCons (tC (.int 4)) tNil))) (tCons (tVar 5) (tCons (tCall (spOf T (wl (c_Lrecipe T n))) [] E0 (tCons (tVar 0) (tCons (tOp (rI0 fun i j => .int (i - j)) (tOp (rI0 fun i j => .int (i - j)) (tVar 1) (tC (.int 2))) (tVar 3)) tNil))) tNil))))))) tNext)
    (tSeq (tAsg (tTup (tCons (tCall (spOf T (wl (c_Lweight T))) [] E0 (tCons (tVar 0) tNil)) (tCons (tCall (spOf T (wl (c_Lweight T))) [] E0 (tCons (tVar 0) tNil)) tNil))) (gName 4))
    (tSeq (tAsg (tCall (spOf T (wl (c_Lrecipe T n))) [] E0 (tCons (tVar 0) (tCons (tVar 3) tNil))) (gName 5))
    (tRet (tTup (tCons (tC (.str "toss")) (tCons (tCall (spOf T (wl (c_Lword T))) [] E0 (tCons (tVar 0) tNil)) (tCons (tVar 4) (tCons (tVar 5) (tCons (tCall (spOf T (wl (c_Lrecipe T n))) [] E0 (tCons (tVar 0) (tCons (tOp (rI0 fun i j => .int (i - j)) (tOp (rI0 fun i j => .int (i - j)) (tVar 1) (tC (.int 4))) (tVar 3)) tNil))) tNil)))))))))))))))))
section
variable {T : Cfg} {W : WX} {ρ : List (Option D)} {μ : Mu} {P : D → Mu → Prop} {XP : XW} {K : Out → Prop} {a : Addr} {b : Nat}
theorem ev_Lword (hi : ρ[0]? = some (some (.ptr a))) (hb : 11 ≤ b) (p : ∀ (x : Str) (b' : Nat), nmB x = true → b ≤ b' + 11 → P (.str x) (put mu0 a (.well b'))) : EV T (tCall (spOf T (wl (c_Lword T))) [] E0 (tCons (tVar 0) tNil)) W ⟨ρ, put mu0 a (.well b)⟩ P XP := by
  walk_at "pks"
  refine ev_var hi ?_
  walk_at "pks"
  exact ⟨a, b, _, _, rfl, rfl, rfl, hb, p⟩
theorem ev_Lname (hi : ρ[0]? = some (some (.ptr a))) (hb : 12 ≤ b) (p : ∀ (x : Str) (b' : Nat), nmB x = true → x ∉ sevens → b ≤ b' + 12 → P (.str x) (put mu0 a (.well b'))) : EV T (tCall (spOf T (wl (c_Lname T))) [] E0 (tCons (tVar 0) tNil)) W ⟨ρ, put mu0 a (.well b)⟩ P XP := by
  walk_at "pks"
  refine ev_var hi ?_
  walk_at "pks"
  exact ⟨a, b, _, _, rfl, rfl, rfl, hb, p⟩
theorem ev_Lunlike (hi : ρ[0]? = some (some (.ptr a))) (hb : 45 ≤ b) (p : ∀ (as : List Str) (b' : Nat), SgsOk as → b ≤ b' + 45 → P (strsT as) (put mu0 a (.well b'))) : EV T (tCall (spOf T (wl (c_Lunlike T))) [] E0 (tCons (tVar 0) (tCons (tC (.int 4)) tNil))) W ⟨ρ, put mu0 a (.well b)⟩ P XP := by
  walk_at "pks"
  refine ev_var hi ?_
  walk_at "pks"
  exact ⟨a, b, _, _, rfl, rfl, 4, rfl, by decide, hb, fun as b' h _ h2 => p as b' h h2⟩
theorem ev_Lpairs (hi : ρ[0]? = some (some (.ptr a))) (hb : 95 ≤ b) (p : ∀ (ps : List (Str × Str)) (b' : Nat), PrsOk ps → b ≤ b' + 95 → P (.tup (ps.map rpT)) (put mu0 a (.well b'))) : EV T (tCall (spOf T (wl (c_Lpairs T))) [] E0 (tCons (tVar 0) tNil)) W ⟨ρ, put mu0 a (.well b)⟩ P XP := by
  walk_at "pks"
  refine ev_var hi ?_
  walk_at "pks"
  exact ⟨a, b, _, _, rfl, rfl, rfl, hb, p⟩
theorem ev_Lweight (hi : ρ[0]? = some (some (.ptr a))) (hb : 3 ≤ b) (p : ∀ (k b' : Nat), 1 ≤ k ∧ k ≤ 1000 → b ≤ b' + 3 → P (.int (k : Int)) (put mu0 a (.well b'))) : EV T (tCall (spOf T (wl (c_Lweight T))) [] E0 (tCons (tVar 0) tNil)) W ⟨ρ, put mu0 a (.well b)⟩ P XP := by
  walk_at "pks"
  refine ev_var hi ?_
  walk_at "pks"
  exact ⟨a, b, _, _, rfl, rfl, rfl, hb, p⟩
theorem ev_Ldraw9 {te : TE} {n : Int} (hi : ρ[0]? = some (some (.ptr a))) (hte : ∀ {P' : D → Mu → Prop} {XP' : XW}, P' (.int n) (put mu0 a (.well b)) → EV T te W ⟨ρ, put mu0 a (.well b)⟩ P' XP') (hb : 1 ≤ b) (h0 : 0 < n) (h1 : n ≤ 1000) (p : ∀ k : Int, 0 ≤ k → k < n → P (.int k) (put mu0 a (.well (b - 1)))) : EV T (tCall (spOf T (wl (c_Ldraw T))) [] E0 (tCons (tVar 0) (tCons te tNil))) W ⟨ρ, put mu0 a (.well b)⟩ P XP := by
  walk_at "pks"
  refine ev_var hi ?_
  walk_at "pks"
  refine hte ?_
  walk_at "pks"
  exact ⟨a, b, _, _, rfl, rfl, draw_i hb h0 (bt4 (by omega)) p⟩
theorem sv_lt9 {i : Nat} {x c : Int} {t1 : TS} (hi : ρ[i]? = some (some (.int x))) (h1 : x < c → SV T t1 W ⟨ρ, μ⟩ K) (h2 : ¬ x < c → K (.nx ⟨ρ, μ⟩)) : SV T (tIfS (tTest (tOp (rI0 fun i j => .bl (decide (i < j))) (tVar i) (tC (.int c)))) t1 tNext) W ⟨ρ, μ⟩ K :=
  sv_if (tv_test (ev_op (ev_var hi (ev_int (ov_lt ⟨_, rfl, fun e => h1 (of_decide_eq_true e), fun e => sv_next (h2 (of_decide_eq_false e))⟩)))))
theorem sv_eq9 {i : Nat} {x c : Int} {t1 : TS} (hi : ρ[i]? = some (some (.int x))) (h1 : x = c → SV T t1 W ⟨ρ, μ⟩ K) (h2 : ¬ x = c → K (.nx ⟨ρ, μ⟩)) : SV T (tIfS (tTest (tOp rEq (tVar i) (tC (.int c)))) t1 tNext) W ⟨ρ, μ⟩ K :=
  sv_if (tv_test (ev_op (ev_var hi (ev_int (ov_eqI ⟨_, rfl, fun e => h1 (of_decide_eq_true e), fun e => sv_next (h2 (of_decide_eq_false e))⟩)))))
theorem ev_less9 {i m c : Nat} (hi : ρ[i]? = some (some (.int (m : Int)))) (hc : c ≤ m) (p : P (.int ((m - c : Nat) : Int)) μ) : EV T (tOp (rI0 fun i j => .int (i - j)) (tVar i) (tC (.int (c : Int)))) W ⟨ρ, μ⟩ P XP :=
  ev_op (ev_var hi (ev_int (ov_sub (by rw [show ((m : Int) - (c : Int)) = ((m - c : Nat) : Int) by omega]; exact p))))
theorem ev_lessZ {m c z : Nat} (h1 : ρ[1]? = some (some (.int (m : Int)))) (h3 : ρ[3]? = some (some (.int (z : Int)))) (hc : c + z ≤ m) (p : P (.int ((m - c - z : Nat) : Int)) μ) : EV T (tOp (rI0 fun i j => .int (i - j)) (tOp (rI0 fun i j => .int (i - j)) (tVar 1) (tC (.int (c : Int)))) (tVar 3)) W ⟨ρ, μ⟩ P XP :=
  ev_op (ev_less9 h1 (by omega) (ev_var h3 (ov_sub (by rw [show (((m - c : Nat) : Int) - (z : Int)) = ((m - c - z : Nat) : Int) by omega]; exact p))))
theorem ev_Lrecipe {n m : Nat} {te : TE} (hi : ρ[0]? = some (some (.ptr a))) (hte : ∀ {P' : D → Mu → Prop} {XP' : XW}, P' (.int (m : Int)) (put mu0 a (.well b)) → EV T te W ⟨ρ, put mu0 a (.well b)⟩ P' XP') (m1 : 1 ≤ m) (mn : m ≤ n) (m30 : m ≤ 30) (hb : 150 * m ≤ b) (p : ∀ (r : Rcp) (b' : Nat), okR r → (wdsR r).length ≤ m → b ≤ b' + 150 * m → P (rcD r) (put mu0 a (.well b'))) : EV T (tCall (spOf T (wl (c_Lrecipe T n))) [] E0 (tCons (tVar 0) (tCons te tNil))) W ⟨ρ, put mu0 a (.well b)⟩ P XP := by
  walk_at "pks"
  refine ev_var hi ?_
  walk_at "pks"
  refine hte ?_
  walk_at "pks"
  exact ⟨a, b, _, _, rfl, rfl, m, rfl, m1, mn, m30, hb, p⟩
end
theorem pure_Lrecipe {T : Cfg} (hT : ShOk T) (n : Nat) : ∀ E ds μ P XP, wl (c_Lrecipe T (n + 1)) ds μ P XP → SV T (t_Lrecipe T n E) (fun cls dd _ H => E cls dd H) ⟨slots 6 ds, μ⟩ (fnK P XP) := by
  rintro E ds μ P XP ⟨a, b, rest, rfl, rfl, Pf, ⟨m, rfl, m1, mn, m30, hb, k⟩, hP⟩
  unfold t_Lrecipe
  have fin : ∀ (r : Rcp) (b' : Nat), okR r → (wdsR r).length ≤ m → b ≤ b' + 150 * m → P (rcD r) (put mu0 a (.well b')) := fun r b' h1 h2 h3 => hP _ _ (k r b' h1 h2 h3)
  refine sv_seq (sv_asg (ev_Ldraw9 rfl (fun q => ev_int q) (by omega) (by decide) (by decide) fun w w0 w8 => ?_))
  have base : ∀ {K : Out → Prop}, (∀ (r : Rcp) (b' : Nat), okR r → (wdsR r).length ≤ m → b ≤ b' + 150 * m → K (.rt (rcD r) (put mu0 a (.well b')))) → SV T (tRet (tOp (rIxL T.K) (tLst (tCons (tTup (tCons (tC (.str "stop")) tNil)) (tCons (tTup (tCons (tC (.str "part")) (tCons (tCall (spOf T (wl (c_Lname T))) [] E0 (tCons (tVar 0) tNil)) tNil))) tNil))) (tCB rInt1 (tCons (tOp (rI0 fun i j => .bl (decide (j < i))) (tCall (spOf T (wl (c_Ldraw T))) [] E0 (tCons (tVar 0) (tCons (tC (.int 5)) tNil))) (tC (.int 0))) tNil)))) (fun cls dd _ H => E cls dd H) ⟨(slots 6 [D.ptr a, D.int (m : Int)]).set 2 (some (.int w)), put mu0 a (.well (b - 1))⟩ K := by
    intro K q
    refine sv_ret (ev_op (ev_lst (ea_cons (ev_tup (ea_cons (ev_str (ea_nil ⟨by simp, ea_cons (ev_tup (ea_cons (ev_str (ea_cons (ev_Lname rfl (by omega) fun x b2 hx hs hb2 => ea_nil ⟨by simp, ea_nil ⟨by simp, ?_⟩⟩)))))⟩)))))))
    refine ev_cb (ea_cons (ev_op (ev_Ldraw9 rfl (fun q => ev_int q) (by omega) (by decide) (by decide) fun u u0 u5 => ev_int (ov_gt (ea_nil (cv_intB ?_))))))
    by_cases hu : u > 0
    · rw [decide_eq_true hu]
      exact ov_ixL (.inl rfl) (at_nat (k := 1) rfl) (q (.part x) _ ⟨hx, hs⟩ (by simp [wdsR]; omega) (by omega))
    · rw [decide_eq_false hu]
      exact ov_ixL (.inl rfl) (at_nat (k := 0) rfl) (q .stop _ trivial (by simp [wdsR]; omega) (by omega))
  refine seqK_nx (sv_seq (sv_if (tv_or (tv_test (ev_op (ev_var rfl (ev_int (ov_lt ⟨_, rfl, fun h => ?_, fun h => ?_⟩))))))))
  rotate_left
  · exact ⟨fun _ => base fun r b' h1 h2 h3 => fin r b' h1 h2 h3, fun e => (nomatch e)⟩
  have h3 : ¬ (m : Int) < 3 := of_decide_eq_false h
  refine tv_test (ev_op (ev_var rfl (ev_int (ov_eqI ⟨_, rfl, fun _ => base fun r b' h1 h2 h3 => fin r b' h1 h2 h3, fun hw => sv_next (seqK_nx (sv_seq (sv_lt9 rfl (fun hw3 => ?_) fun hw3 => seqK_nx (sv_seq (sv_eq9 rfl (fun hw4 => ?_) fun hw4 => seqK_nx (sv_seq (sv_eq9 rfl (fun hw5 => ?_) fun hw5 => seqK_nx (sv_seq (sv_lt9 rfl (fun hw6 => ?_) fun hw6 => seqK_nx (sv_seq (sv_asg ?_)))))))))))⟩))))
  · refine sv_ret (ev_tup (ea_cons (ev_str (ea_cons (ev_Lword rfl (by omega) fun x b2 hx hb2 => ea_cons (ev_Lrecipe (m := m - 2) rfl (fun q => ev_less9 (c := 2) rfl (by omega) q) (by omega) (by omega) (by omega) (by omega) fun r b3 hr hl hb3 => ea_nil ⟨by simp, fin (.ahead x r) b3 ⟨hx, hr⟩ (by simp only [wdsR, List.length_cons]; omega) (by omega)⟩))))))
  · refine sv_ret (ev_tup (ea_cons (ev_str (ea_cons (ev_Lunlike rfl (by omega) fun as b2 hx hb2 => ea_cons (ev_Lrecipe (m := m - 2) rfl (fun q => ev_less9 (c := 2) rfl (by omega) q) (by omega) (by omega) (by omega) (by omega) fun r b3 hr hl hb3 => ea_nil ⟨by simp, fin (.only as r) b3 ⟨hx, hr⟩ (by simp only [wdsR, List.length_cons]; omega) (by omega)⟩))))))
  · refine sv_ret (ev_tup (ea_cons (ev_str (ea_cons (ev_Lpairs rfl (by omega) fun ps b2 hx hb2 => ea_cons (ev_Lrecipe (m := m - 2) rfl (fun q => ev_less9 (c := 2) rfl (by omega) q) (by omega) (by omega) (by omega) (by omega) fun r b3 hr hl hb3 => ea_nil ⟨by simp, fin (.rename ps r) b3 ⟨hx, hr⟩ (by simp only [wdsR, List.length_cons]; omega) (by omega)⟩))))))
  · refine sv_ret (ev_tup (ea_cons (ev_str (ea_cons (ev_Lword rfl (by omega) fun x b2 hx hb2 => ea_cons (ev_tup (ea_cons (ev_str (ea_cons (ev_Lname rfl (by omega) fun y b3 hy hs hb3 => ea_nil ⟨by simp, ea_nil ⟨by simp, fin (.ahead x (.part y)) b3 ⟨hx, hy, hs⟩ (by simp only [wdsR, List.length_cons, List.length_nil]; omega) (by omega)⟩⟩))))))))))
  · refine ev_op (ev_int (ev_Ldraw9 (n := ((m - 5 : Nat) : Int)) rfl (fun q => ev_less9 (c := 5) rfl (by omega) q) (by omega) (by omega) (by omega) fun u u0 u1 => ov_add ?_))
    obtain ⟨z, hz⟩ : ∃ z : Nat, (1 : Int) + u = (z : Int) := ⟨(1 + u).toNat, by omega⟩
    rw [hz]
    refine seqK_nx (sv_seq (sv_lt9 rfl (fun hw7 => ?_) (fun hw7 => ?_)))
    · refine sv_seq (sv_asg (ev_Lrecipe (m := z) rfl (fun q => ev_var rfl q) (by omega) (by omega) (by omega) (by omega) fun r b2 hr hl hb2 => seqK_nx (sv_ret (ev_tup (ea_cons (ev_str (ea_cons (ev_Lunlike rfl (by omega) fun as b3 hx hb3 => ea_cons (ev_var rfl (ea_cons (ev_Lrecipe (m := m - 2 - z) rfl (fun q => ev_lessZ (c := 2) rfl rfl (by omega) q) (by omega) (by omega) (by omega) (by omega) fun q b4 hq hlq hb4 => ea_nil ⟨by simp, ?_⟩)))))))))))
      exact fin (.beside as r q) b4 ⟨hx, hr, hq⟩ (by simp only [wdsR, List.length_cons, List.length_append]; omega) (by omega)
    · refine seqK_nx (sv_seq (sv_asg (ev_tup (ea_cons (ev_Lweight rfl (by omega) fun t b2 ht hb2 => ea_cons (ev_Lweight rfl (by omega) fun v b3 hv hb3 => ea_nil ⟨by simp, seqK_nx (sv_seq (sv_asg (ev_Lrecipe (m := z) rfl (fun q => ev_var rfl q) (by omega) (by omega) (by omega) (by omega) fun r b4 hr hl hb4 => seqK_nx (sv_ret (ev_tup (ea_cons (ev_str (ea_cons (ev_Lword rfl (by omega) fun x b5 hx hb5 => ea_cons (ev_var rfl (ea_cons (ev_var rfl (ea_cons (ev_Lrecipe (m := m - 4 - z) rfl (fun q => ev_lessZ (c := 4) rfl rfl (by omega) q) (by omega) (by omega) (by omega) (by omega) fun q b6 hq hlq hb6 => ea_nil ⟨by simp, ?_⟩))))))))))))))⟩))))))
      exact fin (.toss x t v r q) b6 ⟨hx, ht, hv, hr, hq⟩ (by simp only [wdsR, List.length_cons, List.length_append]; omega) (by omega)
end Far
namespace Pw
open PySem PySem.Spec PyProof.Rows L2
def rRepZ : R2 := fun x y H Q => ∃ (z : Str) (b : Bool), x = .str z ∧ y = .int (if b = true then 1 else 0) ∧ Q (.str (if b = true then z else "")) H
theorem op_repZ {X : Cx} : OpR X (binaryOp .Mult) rRepZ := by
  intro pins s σ H x y v u Q I rx ry h
  obtain ⟨z, b, rfl, rfl, q⟩ := h
  obtain ⟨t, rfl⟩ := (show ∃ t, v = Value.str z t from rx)
  obtain ⟨t', rfl⟩ := (show ∃ t, u = Value.int (if b = true then 1 else 0) t from ry)
  cases b with
  | false => exact PySem.P.mul_str_none (by decide) (by decide) ⟨.str "", H, I.tok _, ⟨_, rfl⟩, q⟩
  | true =>
    refine PySem.P.mul_str (by decide) (fun _ h => by simp at h) (fun _ h => by simp at h) ?_
    rw [if_neg (by decide), if_pos (by simp)]
    exact ⟨.str z, H, I, ⟨_, rfl⟩, q⟩
section
variable {T : Cfg} {W : WX} {ρ : List (Option D)} {m0 μ : Mu} {P : D → Mu → Prop} {XP : XW} {te te' : TE}
theorem ov_repZ {z : Str} {b : Bool} (p : P (.str (if b = true then z else "")) μ) : OV T rRepZ (.str z) (.int (if b = true then 1 else 0)) μ P := ov_of (fun x y Hb H Q ex rx ry q => by
  cases rx
  cases ry
  exact ⟨z, b, rfl, rfl, q _ (.str _)⟩) p
theorem ev_lcU2 {i j : Nat} (h : EV T te W ⟨ρ, m0⟩ (fun d μ => ∃ (ds : List D) (f : D → D), d = .tup ds ∧ ds.length ≤ 100000 ∧ (∀ e ∈ ds, ∃ x y, e = .tup [x, y] ∧ EV T te' (fun _ _ _ _ => False) ⟨((wipeD ρ [i, j]).set i (some x)).set j (some y), μ⟩ (fun x μ' => x = f e ∧ μ' = μ) (fun _ _ => False)) ∧ P (.lst (ds.map f)) μ) XP) : EV T (tLc (iTup T.K te) (gTup T.K 2 (gCons (gName i) (gCons (gName j) gNil))) tYes te' [i, j]) W ⟨ρ, m0⟩ P XP :=
  ev_lc (is := [i] ++ ([j] ++ [])) (fun _ h => h) (iv_tup (h.imp fun d μ ⟨ds, f, hs, hl, turn, done⟩ => ⟨ds, hs, hl, fun n acc μ' => μ' = μ ∧ acc = (ds.take n).map f, ⟨rfl, by simp⟩, fun n acc μ' hn _ ⟨e1, e2⟩ => by
    subst e1 e2
    have hm : nth ds n ∈ ds := List.mem_of_getElem? (nth_get hn)
    obtain ⟨x, y, e, k⟩ := turn _ hm
    rw [e]
    refine gv_tup rfl (gvs_cons (gv_name (gvs_cons (gv_name (gvs_nil (tv_yes ⟨fun _ => ?_, fun e => (nomatch e)⟩))))))
    refine k.imp fun x μ2 ⟨e1, e2⟩ => ⟨e2, ?_⟩
    rw [e1, List.take_succ, nth_get hn]
    simp, fun acc μ' ⟨e1, e2⟩ => by
    subst e1 e2
    rw [List.take_length]
    exact done⟩))
end
end Pw
namespace Far
open PySem PySem.Spec PyProof.Rows L2 Pw
def c_Lwords72 (T : Cfg) (n : Nat) : PC := fun ds P _ => ∃ r : Rcp, ds = [rcD r] ∧ okR r ∧ htR r ≤ n ∧ (wdsR r).length ≤ 1000 ∧ P (.lst ((wdsR r).map D.str))
theorem len_Lwords72 {T : Cfg} {n : Nat} : ∀ ds μ P XP, pu (c_Lwords72 T n) ds μ P XP → ds.length = 1 := by
  rintro ds μ P XP ⟨rfl, Pf, Xf, ⟨x, rfl, _⟩, _⟩; rfl
theorem no_Lwords72 {T : Cfg} : ∀ ds μ P XP, pu (c_Lwords72 T 0) ds μ P XP → False := by
  rintro ds μ P XP ⟨rfl, Pf, Xf, ⟨r, rfl, _, h, _⟩, _⟩
  have := ht_pos r
  omega
def c_Lnames72 (T : Cfg) (n : Nat) : PC := fun ds P _ => ∃ r : Rcp, ds = [rcD r] ∧ htR r ≤ n ∧ (wdsR r).length ≤ 1000 ∧ P (.lst ((nmsR r).map D.str))
theorem len_Lnames72 {T : Cfg} {n : Nat} : ∀ ds μ P XP, pu (c_Lnames72 T n) ds μ P XP → ds.length = 1 := by
  rintro ds μ P XP ⟨rfl, Pf, Xf, ⟨x, rfl, _⟩, _⟩; rfl
theorem no_Lnames72 {T : Cfg} : ∀ ds μ P XP, pu (c_Lnames72 T 0) ds μ P XP → False := by
  rintro ds μ P XP ⟨rfl, Pf, Xf, ⟨r, rfl, h, _⟩, _⟩
  have := ht_pos r
  omega
def t_Lwords72 (T : Cfg) (n : Nat) (E : XK) : TS := (tSeq (tAsg (tOp (rIxT T.K) (tVar 0) (tC (.int 0))) (gName 1))
    (tSeq (tIfS (tTest (tOp rEq (tVar 1) (tC (.str "stop")))) (tRet (tLst (tCons (tC (.str "stop")) tNil))) tNext)
    (tSeq (tIfS (tTest (tOp rEq (tVar 1) (tC (.str "part")))) (tRet (tLst (tCons (tOp (rIxT T.K) (tVar 0) (tC (.int 1))) tNil))) tNext)
    (tSeq (tIfS (tTest (tOp rEq (tVar 1) (tC (.str "ahead")))) (tRet (tOp rCat (tLst (tCons (tVar 1) (tCons (tOp (rIxT T.K) (tVar 0) (tC (.int 1))) tNil))) (tCall (spOf T (pu (c_Lwords72 T n))) [] E0 (tCons (tOp (rIxT T.K) (tVar 0) (tC (.int 2))) tNil)))) tNext)
    (tSeq (tIfS (tTest (tOp rEq (tVar 1) (tC (.str "toss")))) (tSeq (tAsg (tLst (tCons (tVar 1) (tCons (tOp (rIxT T.K) (tVar 0) (tC (.int 1))) (tCons (tCB rStrI (tCons (tOp (rIxT T.K) (tOp (rIxT T.K) (tVar 0) (tC (.int 2))) (tC (.int 0))) tNil)) (tCons (tCB rStrI (tCons (tOp (rIxT T.K) (tOp (rIxT T.K) (tVar 0) (tC (.int 2))) (tC (.int 1))) tNil)) tNil))))) (gName 2))
    (tRet (tOp rCat (tOp rCat (tVar 2) (tCall (spOf T (pu (c_Lwords72 T n))) [] E0 (tCons (tOp (rIxT T.K) (tVar 0) (tC (.int 3))) tNil))) (tCall (spOf T (pu (c_Lwords72 T n))) [] E0 (tCons (tOp (rIxT T.K) (tVar 0) (tC (.int 4))) tNil))))) tNext)
    (tSeq (tIfS (tTest (tOp rEq (tVar 1) (tC (.str "rename")))) (tSeq (tAsg (tLc (iTup T.K (tOp (rIxT T.K) (tVar 0) (tC (.int 1)))) (gTup T.K 2 (gCons (gName 4) (gCons (gName 5) gNil))) tYes (tOp rAddS (tOp rAddS (tVar 4) (tC (.str ">"))) (tVar 5)) [4, 5]) (gName 3))
    (tRet (tOp rCat (tLst (tCons (tVar 1) (tCons (tOp rAddS (tJoinS T.K (tC (.str ",")) (tVar 3)) (tOp rRepZ (tC (.str "-")) (tCB rInt1 (tCons (tOp (rEqD T.K) (tVar 3) (tLst tNil)) tNil)))) tNil))) (tCall (spOf T (pu (c_Lwords72 T n))) [] E0 (tCons (tOp (rIxT T.K) (tVar 0) (tC (.int 2))) tNil))))) tNext)
    (tSeq (tAsg (tOp rCat (tLst (tCons (tVar 1) (tCons (tOp rAddS (tJoinS T.K (tC (.str ",")) (tOp (rIxT T.K) (tVar 0) (tC (.int 1)))) (tOp rRepZ (tC (.str "-")) (tCB rInt1 (tCons (tOp (rEqD T.K) (tOp (rIxT T.K) (tVar 0) (tC (.int 1))) (tTup tNil)) tNil)))) tNil))) (tCall (spOf T (pu (c_Lwords72 T n))) [] E0 (tCons (tOp (rIxT T.K) (tVar 0) (tC (.int 2))) tNil))) (gName 2))
    (tSeq (tIfS (tTest (tOp rEq (tVar 1) (tC (.str "beside")))) (tAsg (tOp rCat (tVar 2) (tCall (spOf T (pu (c_Lwords72 T n))) [] E0 (tCons (tOp (rIxT T.K) (tVar 0) (tC (.int 3))) tNil))) (gName 2)) tNext)
    (tRet (tVar 2))))))))))
def t_Lnames72 (T : Cfg) (n : Nat) (E : XK) : TS := (tSeq (tIfS (tTest (tOp (rIn T.K false) (tOp (rIxT T.K) (tVar 0) (tC (.int 0))) (tTup (tCons (tC (.str "stop")) (tCons (tC (.str "part")) tNil))))) (tRet (tCB (rListOf T.K) (tCons (tSl (rSlA T.K) (tVar 0) (tPart (tC (.int 1))) tNoPart) tNil))) tNext)
    (tSeq (tAsg (tLst tNil) (gName 1))
    (tSeq (tFor (iTup T.K (tSl (rSlA T.K) (tVar 0) (tPart (tOp (rI0 fun i j => .int (i + j)) (tC (.int 2)) (tCB rInt1 (tCons (tOp (rEqD T.K) (tOp (rIxT T.K) (tVar 0) (tC (.int 0))) (tC (.str "toss"))) tNil)))) tNoPart)) (gName 2) (tAsg (tOp rCat (tVar 1) (tCall (spOf T (pu (c_Lnames72 T n))) [] E0 (tCons (tVar 2) tNil))) (gName 1)))
    (tRet (tVar 1)))))
section
variable {T : Cfg} {W : WX} {ρ : List (Option D)} {m0 : Mu} {P : D → Mu → Prop} {XP : XW}
theorem ev_bhN {r : Rcp} {i j : Nat} {d : D} (hi : ρ[i]? = some (some (rcD r))) (h : (bhR r)[j]? = some d) (p : P d m0) : EV T (tOp (rIxT T.K) (tVar i) (tC (.int ((j + 1 : Nat) : Int)))) W ⟨ρ, m0⟩ P XP :=
  ev_op (ev_var hi (ev_int (by rw [rcD_eq]; exact ov_ixT (at_nat (k := j + 1) (by rw [List.getElem?_cons_succ]; exact h)) p)))
theorem ev_Lw {n : Nat} {r : Rcp} {te : TE} (hr : okR r) (hh : htR r ≤ n) (hl : (wdsR r).length ≤ 1000) (hte : ∀ {P' : D → Mu → Prop} {XP' : XW}, P' (rcD r) m0 → EV T te W ⟨ρ, m0⟩ P' XP') (p : P (.lst ((wdsR r).map D.str)) m0) : EV T (tCall (spOf T (pu (c_Lwords72 T n))) [] E0 (tCons te tNil)) W ⟨ρ, m0⟩ P XP :=
  ev_cal0 (ea_cons (hte (ea_nil ⟨r, rfl, hr, hh, hl, p⟩)))
end
theorem app_nil9 (x : Str) : x ++ ("" : Str) = x := by
  cases x with
  | mk c =>
    show Str.mk (c ++ #[]) = _
    rw [Array.append_empty]
theorem app_len9 (x y : Str) : (x ++ y).length = x.length + y.length := by
  rw [len_tl9, TL.tl_append, List.length_append, ← len_tl9, ← len_tl9]
theorem arr_app (p : Str × Str) : arrW p = p.1 ++ ">" ++ p.2 := by
  unfold arrW
  rw [TL.join_eq]
  rfl
theorem strsO : ∀ {xs : List Str}, (∀ x ∈ xs, PyData.strOk x = true) → DPyL (xs.map D.str) (xs.map PyData.str) ∧ PyData.canLayAll0 (xs.map PyData.str) = true ∧ PyData.depthAll (xs.map PyData.str) = 0 := by
  intro xs
  induction xs with
  | nil => intro _; exact ⟨.nil, by simp [PyData.canLayAll0], by simp [PyData.depthAll]⟩
  | cons x xs ih =>
    intro h
    obtain ⟨h1, h2, h3⟩ := ih fun y hy => h y (by simp [hy])
    refine ⟨.cons (.str x) h1, ?_, ?_⟩
    · show (PyData.canLay0 (.str x) && PyData.canLayAll0 (xs.map PyData.str)) = true
      rw [h2, show PyData.canLay0 (.str x) = true by unfold PyData.canLay0; exact h x (by simp)]
      rfl
    · show max (PyData.depth (.str x)) (PyData.depthAll (xs.map PyData.str)) = 0
      rw [h3]
      simp [PyData.depth]
theorem eqv_nilT (ps : List PyData) : PyData.eqv (.tuple ps) (.tuple []) = decide (ps.length = 0) := by
  cases ps with
  | nil => rfl
  | cons p ps => rfl
theorem ov_eqNT {T : Cfg} {P : D → Mu → Prop} {μ : Mu} {xs : List Str} (h : ∀ x ∈ xs, PyData.strOk x = true) (k : P (.bl (decide (xs.length = 0))) μ) : OV T (rEqD T.K) (.tup (xs.map D.str)) (.tup []) μ P := by
  obtain ⟨h1, h2, h3⟩ := strsO h
  refine ov_eqD (.tup h1) (.tup .nil) ?_ (by decide) ?_
  · unfold SeqAt.shaped
    rw [show PyData.canLay0 (.tuple (xs.map PyData.str)) = true by unfold PyData.canLay0; exact h2, decide_eq_true (by rw [PyData.depth, h3]; decide)]
    rfl
  · rw [eqv_nilT, List.length_map]
    exact k
theorem ov_eqNL {T : Cfg} {P : D → Mu → Prop} {μ : Mu} {xs : List Str} (h : ∀ x ∈ xs, PyData.strOk x = true) (k : P (.bl (decide (xs.length = 0))) μ) : OV T (rEqD T.K) (.lst (xs.map D.str)) (.lst []) μ P := by
  obtain ⟨h1, h2, h3⟩ := strsO h
  refine ov_eqD (.lst h1) (.lst .nil) ?_ (by decide) ?_
  · unfold SeqAt.shaped
    rw [show PyData.canLay0 (.list (xs.map PyData.str)) = true by unfold PyData.canLay0; exact h2, decide_eq_true (by rw [PyData.depth, h3]; decide)]
    rfl
  · rw [eqv_nil, List.length_map]
    exact k
theorem arr_strOk {p : Str × Str} (h : nmB p.1 = true ∧ nmB p.2 = true) : PyData.strOk (arrW p) = true := by
  have h1 := nm_strOk h.1
  have h2 := nm_strOk h.2
  unfold PyData.strOk at h1 h2 ⊢
  rw [← Array.all_toList] at h1 h2 ⊢
  rw [arr_tl, List.all_append, List.all_cons, h1, h2]
  rfl
theorem sgs_w {as : List Str} (h : SgsOk as) : ∀ w ∈ as, 1 ≤ w.length ∧ w.length ≤ 17 := fun w hh => by
  have := nm_len8 (h.nm w hh)
  omega
theorem prs_w {ps : List (Str × Str)} (h : PrsOk ps) : ∀ w ∈ ps.map arrW, 1 ≤ w.length ∧ w.length ≤ 17 := fun w hh => by
  obtain ⟨p, hp, rfl⟩ := List.mem_map.1 hh
  refine ⟨?_, arr_len (h.nm p hp)⟩
  have := nm_len8 (h.nm p hp).1
  rw [len_tl9] at this ⊢
  show 1 ≤ (arrW p).cps.toList.length
  rw [arr_tl, List.length_append]
  have e : (TL.tl p.1).length = p.1.cps.toList.length := rfl
  omega
theorem ev_dash {T : Cfg} {W : WX} {ρ : List (Option D)} {m0 : Mu} {P : D → Mu → Prop} {XP : XW} {te tq : TE} {ws : List Str} (hl : ws.length ≤ 100) (hw : ∀ w ∈ ws, 1 ≤ w.length ∧ w.length ≤ 17)
    (hj : ∀ {P' : D → Mu → Prop} {XP' : XW}, P' (.str (Txt.join "," ws)) m0 → EV T te W ⟨ρ, m0⟩ P' XP') (hq : ∀ {P' : D → Mu → Prop} {XP' : XW}, P' (.bl (decide (ws.length = 0))) m0 → EV T tq W ⟨ρ, m0⟩ P' XP') (p : P (.str (jnW ws)) m0) :
    EV T (tOp rAddS te (tOp rRepZ (tC (.str "-")) (tCB rInt1 (tCons tq tNil)))) W ⟨ρ, m0⟩ P XP := by
  refine ev_op (hj (ev_op (ev_str (ev_cb (ea_cons (hq (ea_nil (cv_intB (ov_repZ (ov_addS ?_ ?_))))))))))
  · have h1 := join_len8 hl fun w hh => (hw w hh).2
    have h2 : (if decide (ws.length = 0) = true then ("-" : Str) else "").length ≤ 1 := by split <;> decide
    omega
  · unfold jnW at p
    by_cases h0 : ws = []
    · rw [if_pos h0] at p
      rw [h0]
      exact p
    · rw [if_neg h0] at p
      rw [if_neg (by simpa using h0), app_nil9]
      exact p
theorem pure_Lwords72 {T : Cfg} (hS : ShOk T) (n : Nat) : ∀ E ds μ P XP, pu (c_Lwords72 T (n + 1)) ds μ P XP → SV T (t_Lwords72 T n E) (fun cls dd _ H => E cls dd H) ⟨slots 6 ds, μ⟩ (fnK P XP) := by
  rintro E ds μ P XP ⟨rfl, Pf, Xf, ⟨r, rfl, hr, hh, hl, p⟩, hP, hX⟩
  unfold t_Lwords72
  refine sv_seq (sv_asg (ev_kd rfl ?_))
  have h1 : ((slots 6 [rcD r]).set 1 (some (.str (kdR r))))[1]? = some (some (.str (kdR r))) := rfl
  cases r with
  | stop => exact seqK_nx (sv_seq (sv_ifeq rfl rfl (sv_ret (ev_lst (ea_cons (ev_str (ea_nil ⟨by simp, hP _ p⟩)))))))
  | part x =>
    refine seqK_nx (sv_seq (sv_ifne rfl (by simp only [kdR]; decide) (seqK_nx (sv_seq (sv_ifeq rfl rfl ?_)))))
    exact sv_ret (ev_lst (ea_cons (ev_bh rfl rfl (ea_nil ⟨by simp, hP _ p⟩))))
  | ahead a r =>
    simp only [wdsR, List.length_cons] at hl
    simp only [htR] at hh
    refine seqK_nx (sv_seq (sv_ifne rfl (by simp only [kdR]; decide) (seqK_nx (sv_seq (sv_ifne rfl (by simp only [kdR]; decide) (seqK_nx (sv_seq (sv_ifeq rfl rfl ?_))))))))
    refine sv_ret (ev_op (ev_lst (ea_cons (ev_var rfl (ea_cons (ev_bh rfl rfl (ea_nil ⟨by simp, ev_Lw hr.2 (by omega) (by omega) (fun q => ev_bh2 rfl rfl q) (ov_cat (by simp; omega) (hP _ p))⟩)))))))
  | toss a k l r q =>
    simp only [wdsR, List.length_cons, List.length_append] at hl
    simp only [htR] at hh
    obtain ⟨o1, o2, o3, o4, o5⟩ := hr
    refine seqK_nx (sv_seq (sv_ifne rfl (by simp only [kdR]; decide) (seqK_nx (sv_seq (sv_ifne rfl (by simp only [kdR]; decide) (seqK_nx (sv_seq (sv_ifne rfl (by simp only [kdR]; decide) (seqK_nx (sv_seq (sv_ifeq rfl rfl ?_)))))))))))
    have lg : ∀ j : Nat, j ≤ 1000 → (j : Int).natAbs.log2 < 1920 := fun j hj => by
      have := Nat.log2_le_self (j : Int).natAbs
      omega
    refine sv_seq (sv_asg (ev_lst (ea_cons (ev_var rfl (ea_cons (ev_bh rfl rfl (ea_cons (ev_cb (ea_cons (ev_op (ev_bh2 rfl rfl (ev_int (ov_ixT (at_nat (k := 0) rfl) (ea_nil (cv_strI (lg k o2.2) (ea_cons (ev_cb (ea_cons (ev_op (ev_bh2 rfl rfl (ev_int (ov_ixT (at_nat (k := 1) rfl) (ea_nil (cv_strI (lg l o3.2) (ea_nil ⟨by simp, ?_⟩)))))))))))))))))))))))))
    refine seqK_nx (sv_ret (ev_op (ev_op (ev_var rfl (ev_Lw o4 (by omega) (by omega) (fun q => ev_bhN (j := 2) rfl rfl q) (ov_cat (by simp; omega) (ev_Lw o5 (by omega) (by omega) (fun q => ev_bhN (j := 3) rfl rfl q) (ov_cat (by simp; omega) ?_))))))))
    have := hP _ p
    simp only [wdsR, List.map_cons, List.map_append] at this
    exact this
  | rename ps r =>
    simp only [wdsR, List.length_cons] at hl
    simp only [htR] at hh
    refine seqK_nx (sv_seq (sv_ifne rfl (by simp only [kdR]; decide) (seqK_nx (sv_seq (sv_ifne rfl (by simp only [kdR]; decide) (seqK_nx (sv_seq (sv_ifne rfl (by simp only [kdR]; decide) (seqK_nx (sv_seq (sv_ifne rfl (by simp only [kdR]; decide) (seqK_nx (sv_seq (sv_ifeq rfl rfl ?_))))))))))))))
    refine sv_seq (sv_asg (ev_lcU2 (ev_bh rfl rfl ⟨_, fun d => .str (fstS d ++ ">" ++ sndS d), rfl, by simpa using Nat.le_trans hr.1.ln (by decide), fun e he => ?_, ?_⟩)))
    · obtain ⟨p, hp, rfl⟩ := List.mem_map.1 he
      have l1 := nm_len8 (hr.1.nm p hp).1
      have l2 := nm_len8 (hr.1.nm p hp).2
      refine ⟨.str p.1, .str p.2, rfl, ev_op (ev_op (ev_var rfl (ev_str (ov_addS ?_ (ev_var rfl (ov_addS ?_ ⟨rfl, rfl⟩))))))⟩
      · have h3 : (">" : Str).length = 1 := by decide
        omega
      · have h3 : (">" : Str).length = 1 := by decide
        rw [app_len9, h3]
        omega
    · have e : (ps.map rpT).map (fun d => D.str (fstS d ++ ">" ++ sndS d)) = (ps.map arrW).map D.str := by
        rw [List.map_map, List.map_map]
        refine List.map_congr_left fun p _ => ?_
        show D.str (p.1 ++ ">" ++ p.2) = _
        rw [← arr_app]
        rfl
      rw [e]
      have hw := prs_w hr.1
      have hln : (ps.map arrW).length ≤ 100 := by simpa using hr.1.ln
      have hok : ∀ x ∈ ps.map arrW, PyData.strOk x = true := fun x hx => by
        obtain ⟨p, hp, rfl⟩ := List.mem_map.1 hx
        exact arr_strOk (hr.1.nm p hp)
      refine seqK_nx (sv_ret (ev_op (ev_lst (ea_cons (ev_var rfl (ea_cons (ev_dash hln hw (fun q => ev_joinS (ev_str ⟨_, rfl, ev_var rfl ⟨_, .inl rfl, jn_fit hln hw, q⟩⟩)) (fun q => ev_op (ev_var rfl (ev_lst (ea_nil ⟨by simp, ov_eqNL hok q⟩)))) (ea_nil ⟨by simp, ?_⟩))))))))
      refine ev_Lw hr.2 (by omega) (by omega) (fun q => ev_bh2 rfl rfl q) (ov_cat (by simp; omega) ?_)
      rw [← prW_jn]
      exact hP _ p
  | beside as r q =>
    simp only [wdsR, List.length_cons, List.length_append] at hl
    simp only [htR] at hh
    obtain ⟨o1, o4, o5⟩ := hr
    have hw := sgs_w o1
    have hok : ∀ x ∈ as, PyData.strOk x = true := fun x hx => nm_strOk (o1.nm x hx)
    refine seqK_nx (sv_seq (sv_ifne rfl (by simp only [kdR]; decide) (seqK_nx (sv_seq (sv_ifne rfl (by simp only [kdR]; decide) (seqK_nx (sv_seq (sv_ifne rfl (by simp only [kdR]; decide) (seqK_nx (sv_seq (sv_ifne rfl (by simp only [kdR]; decide) (seqK_nx (sv_seq (sv_ifne rfl (by simp only [kdR]; decide) ?_))))))))))))))
    refine seqK_nx (sv_seq (sv_asg (ev_op (ev_lst (ea_cons (ev_var rfl (ea_cons (ev_dash o1.ln hw (fun q => ev_joinT (ev_str ⟨_, rfl, ev_bh rfl rfl ⟨as, rfl, jn_fit o1.ln hw, q⟩⟩)) (fun q => ev_op (ev_bh rfl rfl (ev_tup (ea_nil ⟨by simp, ov_eqNT hok q⟩)))) (ea_nil ⟨by simp, ?_⟩)))))))))
    refine ev_Lw o4 (by omega) (by omega) (fun q => ev_bh2 rfl rfl q) (ov_cat (by simp; omega) ?_)
    refine seqK_nx (sv_seq (sv_ifeq rfl rfl (sv_asg (ev_op (ev_var rfl (ev_Lw o5 (by omega) (by omega) (fun q => ev_bhN (j := 2) rfl rfl q) (ov_cat (by simp; omega) ?_)))))))
    refine seqK_nx (sv_ret (ev_var rfl ?_))
    have := hP _ p
    simp only [wdsR, List.map_cons, List.map_append] at this
    exact this
  | only as r =>
    simp only [wdsR, List.length_cons] at hl
    simp only [htR] at hh
    have hw := sgs_w hr.1
    have hok : ∀ x ∈ as, PyData.strOk x = true := fun x hx => nm_strOk (hr.1.nm x hx)
    refine seqK_nx (sv_seq (sv_ifne rfl (by simp only [kdR]; decide) (seqK_nx (sv_seq (sv_ifne rfl (by simp only [kdR]; decide) (seqK_nx (sv_seq (sv_ifne rfl (by simp only [kdR]; decide) (seqK_nx (sv_seq (sv_ifne rfl (by simp only [kdR]; decide) (seqK_nx (sv_seq (sv_ifne rfl (by simp only [kdR]; decide) ?_))))))))))))))
    refine seqK_nx (sv_seq (sv_asg (ev_op (ev_lst (ea_cons (ev_var rfl (ea_cons (ev_dash hr.1.ln hw (fun q => ev_joinT (ev_str ⟨_, rfl, ev_bh rfl rfl ⟨as, rfl, jn_fit hr.1.ln hw, q⟩⟩)) (fun q => ev_op (ev_bh rfl rfl (ev_tup (ea_nil ⟨by simp, ov_eqNT hok q⟩)))) (ea_nil ⟨by simp, ?_⟩)))))))))
    refine ev_Lw hr.2 (by omega) (by omega) (fun q => ev_bh2 rfl rfl q) (ov_cat (by simp; omega) ?_)
    exact seqK_nx (sv_seq (sv_ifne rfl (by simp only [kdR]; decide) (seqK_nx (sv_ret (ev_var rfl (hP _ p))))))
theorem pure_Lnames72 {T : Cfg} (hS : ShOk T) (n : Nat) : ∀ E ds μ P XP, pu (c_Lnames72 T (n + 1)) ds μ P XP → SV T (t_Lnames72 T n E) (fun cls dd _ H => E cls dd H) ⟨slots 3 ds, μ⟩ (fnK P XP) := by
  rintro E ds μ P XP ⟨rfl, Pf, Xf, ⟨r, rfl, hh, hl, p⟩, hP, hX⟩
  unfold t_Lnames72
  refine sv_seq (sv_if (tv_test (ev_op (ev_kd rfl (ev_tup (ea_cons (ev_str (ea_cons (ev_str (ea_nil ⟨by simp, ov_inT (zs := ["stop", "part"]) ?_⟩))))))))))
  refine ⟨_, rfl, fun h => ?_, fun h => ?_⟩
  · have e : (cutD (.str (kdR r) :: bhR r) (some 1) none) = (nmsR r).map D.str := by
      cases r <;> first | rfl | exact absurd (of_decide_eq_true h) (by show ¬ _ ∈ _; simp only [kdR]; decide)
    refine sv_ret (ev_cb (ea_cons (ev_slT (ev_var rfl (po_so (ev_int ⟨_, rfl, po_no ⟨_, rcD_eq r, ea_nil (cv_lstI (.inr rfl) ?_)⟩⟩))))))
    rw [e]
    exact hP _ p
  · have e : (cutD (.str (kdR r) :: bhR r) (some (2 + (if decide (kdR r = "toss") then 1 else 0))) none) = (innR r).map rcD := by
      cases r <;> first | exact absurd (of_decide_eq_false h) (by simp only [kdR]; decide) | rfl
    have e0 : nm0 r = [] := by
      cases r <;> first | rfl | exact absurd (of_decide_eq_false h) (by simp only [kdR]; decide)
    have en : nmsR r = (innR r).flatMap nmsR := by rw [nms_eq', e0]; rfl
    have len : ∀ k, (((innR r).take k).flatMap nmsR).length ≤ 1000 := fun k => by
      have h0 := nms_le r
      rw [en] at h0
      have := flat_le (l := innR r) (f := nmsR) k
      omega
    refine sv_next (seqK_nx (sv_seq (sv_asg (ev_lst (ea_nil ⟨by simp, ?_⟩)))))
    refine seqK_nx (sv_seq (sv_forX (X := Unit) (fun k _ => [some (rcD r), some (.lst ((((innR r).take k).flatMap nmsR).map D.str)), none]) (fun _ _ μ => μ = mu0) (iv_tup (ev_slT (ev_var rfl (po_so (ev_op (ev_int (ev_cb (ea_cons (ev_op (ev_kd rfl (ev_str (ov_eqDS (sh_kd r) (sev_sh _ (by simp [sevens])) (ea_nil (cv_intB (ov_add ⟨_, rfl, po_no ⟨_, rcD_eq r, _, rfl, (), ?_, rfl, fun k _ μ hk hJ => ?_, fun s' _ hr hJ => ?_⟩⟩)))))))))))))))))
    · exact ⟨rfl, rfl, trivial⟩
    · subst hJ
      rw [e, List.length_map] at hk
      rw [e]
      have hq : (innR r)[k]? = some (innR r)[k] := List.getElem?_eq_getElem hk
      have hn : Pw.nth ((innR r).map rcD) k = rcD (innR r)[k] := nth_of (by rw [List.getElem?_map, hq]; rfl)
      rw [hn]
      have hm : (innR r)[k] ∈ innR r := List.getElem_mem hk
      have l1 := len k
      have l2 := len (k + 1)
      rw [flat_succ hq, List.length_append] at l2
      have l3 := inn_wds hm
      have l4 := inn_ht hm
      refine sv_asg (ev_op (ev_var rfl (ev_cal0 (ea_cons (ev_var rfl (ea_nil ⟨(innR r)[k], rfl, by omega, by omega, ?_⟩))))))
      refine ov_cat (by simp only [List.length_map]; omega) ?_
      rw [← List.map_append, ← flat_succ hq]
      exact ⟨(), ⟨rfl, rfl, trivial⟩, rfl⟩
    · obtain ⟨rho, m⟩ := s'
      subst hJ
      dsimp only at hr ⊢
      rw [e, List.length_map, List.take_length, ← en] at hr
      exact seqK_nx (sv_wk hr sub_refl (sv_ret (ev_var rfl (hP _ p))))
end Far
namespace Tz
open PySem PySem.Spec PyProof.Rows
open Lz (Zo free_no sub_st no_len no_hint Zs Ap Pr)
section
variable {prog : Program} {w : World} {A : Around} {E : Value → Shared → Prop} {s : Shared}
theorem next_out {z ti tu t p q l r : Addr} {f : Bool} {ot : Obj} {k : Nat} {xs ys : Array Value} {x y : Value} {Q : Option Value → Shared → Prop} (hz : Zo s.heap z ti tu t f) (ht : s.heap.get? t = some ot) (hp : IsPair s.heap ti (.ref p) (.ref q))
    (pz : p ≠ z) (qz : q ≠ z) (lz : l ≠ z) (rz : r ≠ z) (pq : p ≠ q) (lp : l ≠ p) (rp : r ≠ p) (tz : ti ≠ z)
    (i1 : s.heap.IsTupleIter p l k) (i2 : s.heap.IsTupleIter q r k) (m1 : s.heap.IsTuple l xs) (m2 : s.heap.IsTuple r ys) (ex : xs[k]? = some x) (ey : ys[k]? = some y)
    (hQ : ∀ h', Zo h' z ti tu t true → h'.IsTupleIter p l (k + 1) → h'.IsTupleIter q r (k + 1) → IsPair h' s.heap.objs.size x y → h'.objs.size = s.heap.objs.size + 1 → (∀ c o, c ≠ z → c ≠ p → c ≠ q → s.heap.get? c = some o → h'.get? c = some o) → Q (some (.ref s.heap.objs.size)) { s with heap := h' }) :
    wpAny (model prog w) A (pyNext (.ref z)) Q E s := by
  have ty : s.TypeIs (.ref z) "zip" := ⟨_, hz, rfl⟩
  unfold pyNext
  refine wpAny_bind (wpAny_attempt (wpAny_callSpecial?_slot (name := Str.ofString "__next__") ty F.slot_zip_next (wpAny_call_entry F.slot_zip_next ty F.entry_zip_next ?_ (F.args_zip_next_1 _))))
  show wpAny _ _ (field (.ref z) 2 >>= _) _ _ s
  refine wpAny_bind (wpAny_field hz rfl (x := .bool false) rfl ?_)
  show wpAny _ _ (field (.ref z) 3 >>= _) _ _ s
  refine wpAny_bind (wpAny_field hz rfl (x := .ref ti) rfl (wpAny_bind (wpAny_seqItems hp rfl ?_)))
  show wpAny _ _ (Builtin.SmallTypes.ownedTupleIsFree (.ref z) >>= _) _ _ s
  refine wpAny_bind (free_no hz ht fun h1 z1 e1 k1 => ?_)
  simp only [Bool.false_eq_true, if_false]
  refine wpAny_bind ?_
  rw [show (#[Value.ref p, Value.ref q] : Array Value) = [Value.ref p, Value.ref q].toArray from rfl, List.forIn_toArray]
  simp only [List.forIn_cons, List.forIn_nil]
  refine wpAny_bind (wpAny_bind (wpAny_holding ?_))
  show wpAny _ _ (Builtin.SmallTypes.nextOf (.ref p) >>= _) _ _ _
  refine wpAny_bind (wpAny_nextOf_tuple_item (i1.at fun o e => k1 _ o pz e) (m1.at fun o e => k1 _ o lz e) ex fun h2 j1 s2 => wpAny_pure ?_)
  refine wpAny_pure ?_
  refine wpAny_bind (wpAny_bind (wpAny_holding ?_))
  show wpAny _ _ (Builtin.SmallTypes.nextOf (.ref q) >>= _) _ _ _
  have k2 : ∀ c o, c ≠ z → c ≠ p → s.heap.get? c = some o → h2.get? c = some o := fun c o a b e => s2.extBut _ _ b (k1 c o a e)
  refine wpAny_bind (wpAny_nextOf_tuple_item (i2.at fun o e => k2 _ o qz pq.symm e) (m2.at fun o e => k2 _ o rz rp e) ey fun h3 j2 s3 => wpAny_pure ?_)
  refine wpAny_pure ?_
  refine wpAny_pure ?_
  have k3 : ∀ c o, c ≠ z → c ≠ p → c ≠ q → s.heap.get? c = some o → h3.get? c = some o := fun c o a b d e => s3.extBut _ _ d (k2 c o a b e)
  have hsz : h3.objs.size = s.heap.objs.size := by rw [s3.1, s2.1]; exact e1
  show wpAny _ _ (newTuple [x, y] >>= _) _ _ _
  refine wpAny_bind (wpAny_newTuple (wpAny_pure ⟨_, rfl, wpAny_pure ?_⟩))
  have z3 : Zo h3 z ti tu t true := s3.extBut _ _ qz.symm (s2.extBut _ _ pz.symm z1)
  show Q (some (.ref h3.objs.size)) _
  rw [hsz]
  refine hQ _ (Heap.get?_push_of_some _ z3) ((j1.extBut s3.extBut pq).at fun o e => Heap.get?_push_of_some _ e) (j2.at fun o e => Heap.get?_push_of_some _ e) ?_ ?_ fun c o a b d e => Heap.get?_push_of_some _ (k3 c o a b d e)
  · show IsPair _ s.heap.objs.size x y
    rw [← hsz]
    exact Heap.get?_push_size _ rfl
  · rw [Heap.size_push, hsz]
theorem end_out {z ti tu t p q l r : Addr} {f : Bool} {ot : Obj} {k : Nat} {xs ys : Array Value} {Q : Option Value → Shared → Prop} (hh : A.handled = none) (hz : Zo s.heap z ti tu t f) (ht : s.heap.get? t = some ot) (hp : IsPair s.heap ti (.ref p) (.ref q))
    (pz : p ≠ z) (qz : q ≠ z) (lz : l ≠ z) (rz : r ≠ z) (pq : p ≠ q) (rp : r ≠ p) (i1 : s.heap.IsTupleIter p l k) (i2 : s.heap.IsTupleIter q r k) (m1 : s.heap.IsTuple l xs) (m2 : s.heap.IsTuple r ys) (ex : xs[k]? = none ∨ ys[k]? = none)
    (hQ : ∀ h', (∀ c o, c ≠ z → c ≠ p → c ≠ q → s.heap.get? c = some o → h'.get? c = some o) → Q none { s with heap := h' }) : wpAny (model prog w) A (pyNext (.ref z)) Q E s := by
  have ty : s.TypeIs (.ref z) "zip" := ⟨_, hz, rfl⟩
  unfold pyNext
  refine wpAny_bind (wpAny_attempt (wpAny_callSpecial?_slot (name := Str.ofString "__next__") ty F.slot_zip_next (wpAny_call_entry F.slot_zip_next ty F.entry_zip_next ?_ (F.args_zip_next_1 _))))
  show wpAny _ _ (field (.ref z) 2 >>= _) _ _ s
  refine wpAny_bind (wpAny_field hz rfl (x := .bool false) rfl ?_)
  show wpAny _ _ (field (.ref z) 3 >>= _) _ _ s
  refine wpAny_bind (wpAny_field hz rfl (x := .ref ti) rfl (wpAny_bind (wpAny_seqItems hp rfl ?_)))
  show wpAny _ _ (Builtin.SmallTypes.ownedTupleIsFree (.ref z) >>= _) _ _ s
  refine wpAny_bind (free_no hz ht fun h1 z1 e1 k1 => ?_)
  simp only [Bool.false_eq_true, if_false]
  refine wpAny_bind ?_
  rw [show (#[Value.ref p, Value.ref q] : Array Value) = [Value.ref p, Value.ref q].toArray from rfl, List.forIn_toArray]
  simp only [List.forIn_cons, List.forIn_nil]
  refine wpAny_bind (wpAny_bind (wpAny_holding ?_))
  show wpAny _ _ (Builtin.SmallTypes.nextOf (.ref p) >>= _) _ _ _
  cases ex1 : xs[k]? with
  | none =>
    refine wpAny_bind (wpAny_nextOf_tuple_end hh (i1.at fun o e => k1 _ o pz e) (m1.at fun o e => k1 _ o lz e) ex1 fun h2 e s2 he => ?_)
    obtain ⟨oe, ho, hc⟩ := he
    exact wpAny_bind (wpAny_isInstance (T := "StopIteration") (b := true) ⟨oe, ho, hc⟩ sub_st (wpAny_pure (hQ h2 fun c o a b _ e => s2 _ _ b (k1 c o a e))))
  | some x =>
    have ey : ys[k]? = none := ex.resolve_left (by rw [ex1]; simp)
    refine wpAny_bind (wpAny_nextOf_tuple_item (i1.at fun o e => k1 _ o pz e) (m1.at fun o e => k1 _ o lz e) ex1 fun h2 j1 s2 => wpAny_pure ?_)
    refine wpAny_pure ?_
    refine wpAny_bind (wpAny_bind (wpAny_holding ?_))
    show wpAny _ _ (Builtin.SmallTypes.nextOf (.ref q) >>= _) _ _ _
    have k2 : ∀ c o, c ≠ z → c ≠ p → s.heap.get? c = some o → h2.get? c = some o := fun c o a b e => s2.extBut _ _ b (k1 c o a e)
    refine wpAny_bind (wpAny_nextOf_tuple_end hh (i2.at fun o e => k2 _ o qz pq.symm e) (m2.at fun o e => k2 _ o rz rp e) ey fun h3 e s3 he => ?_)
    obtain ⟨oe, ho, hc⟩ := he
    exact wpAny_bind (wpAny_isInstance (T := "StopIteration") (b := true) ⟨oe, ho, hc⟩ sub_st (wpAny_pure (hQ h3 fun c o a b d e => s3 _ _ d (k2 c o a b e))))
theorem sepT {z ti tu p q l r : Addr} (D : ZipApart z ti tu p q l r) : ZipSep2 z ti tu p q [p, l] [q, r] where
  TIz := D.TIz
  TOz := D.TOz
  TITO := D.TITO
  TIi1 := D.TIi1
  mem1 := by simp
  zf1 := by simp [D.i1z.symm, D.l1z.symm]
  Tf1 := by simp [D.TOi1, D.l1TO.symm]
  TIi2 := D.TIi2
  mem2 := by simp
  zf2 := by simp [D.i2z.symm, D.l2z.symm]
  Tf2 := by simp [D.TOi2, D.l2TO.symm]
  sep1_2 := by simp [D.i12, D.l2i1.symm]
  sep2_1 := by simp [D.i12.symm, D.l1i2.symm]
end
section
variable {prog : Program} {w : World} {A : Around} {s : Shared} {R : Result → Shared → Prop} {z ti tu p q l r S : Addr} {xs ys : Array Value}
theorem loop (hh : A.handled = none) (ap : Ap z ti tu p q l r S) (n : Nat) (hnx : n ≤ xs.size) (hny : n ≤ ys.size) (hend : n = xs.size ∨ n = ys.size) (hn : n ≤ sizeLine) (res : Value) {h0 : Heap}
    (hR : ∀ h' tk acc c as, (∀ b o, b ≠ S → b ≠ z → b ≠ tu → b ≠ p → b ≠ q → h0.get? b = some o → h'.get? b = some o) → h'.get? S = some { cls := .type "list", dict := none, data := .seq acc c, slots := #[] } → as.length = n → Pr xs ys S h' as → acc.toList = as.map Value.ref → R (.ok (.ret res)) { s with heap := h', toks := tk }) :
    ∀ (m k : Nat) (h : Heap) (tk c : Nat) (acc : Array Value) (as : List Addr), n - k = m → k ≤ n → Zs h z ti tu p q S k → IsPair h ti (.ref p) (.ref q) → h.IsTupleIter p l k → h.IsTupleIter q r k → h.IsTuple l xs → h.IsTuple r ys → (∀ b o, b ≠ S → b ≠ z → b ≠ tu → b ≠ p → b ≠ q → h0.get? b = some o → h.get? b = some o) →
      h.get? S = some { cls := .type "list", dict := none, data := .seq acc c, slots := #[] } → acc.toList = as.map Value.ref → as.length = k → Pr xs ys S h as → codeAny (model prog w) A (.builtin "list.extend.loop" ⟨[.ref S, .ref z, res], []⟩) R { s with heap := h, toks := tk } := by
  obtain ⟨D, Sz, St, Si, Sp, Sq, Sl, Sr⟩ := ap
  intro m
  induction m with
  | zero =>
    intro k h tk c acc as hm hk zs hp i1 i2 m1 m2 keep hS ha hl pr
    refine codeAny_builtin PySem.F.entry_extend_loop ?_
    rw [Around.under_plainId PySem.F.plain_extend_loop _]
    show wpAny _ A.in1 (pyNext (.ref z) >>= _) _ _ _
    have ex : xs[k]? = none ∨ ys[k]? = none := hend.elim (fun h => .inl (Array.getElem?_eq_none (by omega))) fun h => .inr (Array.getElem?_eq_none (by omega))
    have fin : ∀ h' tk, (∀ c o, c ≠ z → c ≠ tu → c ≠ p → c ≠ q → h.get? c = some o → h'.get? c = some o) → R (.ok (.ret res)) { s with heap := h', toks := tk } := fun h' tk kp => by
      refine hR h' tk acc c as (fun b o b1 b2 b3 b4 b5 e => kp b o b2 b3 b4 b5 (keep b o b1 b2 b3 b4 b5 e)) (kp S _ (Nat.ne_of_gt Sz) (Nat.ne_of_gt St) (Nat.ne_of_gt Sp) (Nat.ne_of_gt Sq) hS) (by omega) ⟨pr.1, fun j a hj => ?_⟩ ha
      obtain ⟨g, x, y, e1, e2, e3⟩ := pr.2 j a hj
      exact ⟨g, x, y, e1, e2, kp a _ (Nat.ne_of_gt (Nat.lt_trans Sz g)) (Nat.ne_of_gt (Nat.lt_trans St g)) (Nat.ne_of_gt (Nat.lt_trans Sp g)) (Nat.ne_of_gt (Nat.lt_trans Sq g)) e3⟩
    rcases zs with ⟨rfl, hz, a, b, ht⟩ | ⟨t, f, ot, hz, ht, hSt⟩
    · exact wpAny_bind (wpAny_pyNext_zipD2_end (s := { s with heap := h, toks := tk }) (A := A.in1) (sepT D) (Draws.tuple (A := A.in1.in1) (show A.in1.in1.handled = none from hh) p l D.l1i1 xs) (Draws.tuple (A := A.in1.in1) (show A.in1.in1.handled = none from hh) q r D.l2i2 ys) hz hp ht ⟨i1, m1⟩ ⟨i2, m2⟩ (Nat.zero_le _) (Nat.zero_le _) (by omega) fun h' tk kp => wpAny_pure (fin h' tk kp))
    · exact wpAny_bind (end_out (s := { s with heap := h, toks := tk }) (A := A.in1) hh hz ht hp D.i1z D.i2z D.l1z D.l2z D.i12 D.l2i1 i1 i2 m1 m2 ex fun h' kp => wpAny_pure (fin h' tk fun c o a _ b d e => kp c o a b d e))
  | succ m ih =>
    intro k h tk c acc as hm hk zs hp i1 i2 m1 m2 keep hS ha hl pr
    have hlt : k < n := by omega
    have hlx : k < xs.size := by omega
    have hly : k < ys.size := by omega
    have ex : xs[k]? = some xs[k] := Array.getElem?_eq_getElem hlx
    have ey : ys[k]? = some ys[k] := Array.getElem?_eq_getElem hly
    have hsz : acc.size = k := by rw [← Array.length_toList, ha, List.length_map, hl]
    have SL : S < h.objs.size := Heap.lt_size hS
    refine codeAny_builtin PySem.F.entry_extend_loop ?_
    rw [Around.under_plainId PySem.F.plain_extend_loop _]
    show wpAny _ A.in1 (pyNext (.ref z) >>= _) _ _ _
    have go : ∀ h' tk, (∃ t f ot, Zo h' z ti tu t f ∧ h'.get? t = some ot ∧ S < t) → h'.IsTupleIter p l (k + 1) → h'.IsTupleIter q r (k + 1) → IsPair h' h.objs.size xs[k] ys[k] → (∀ c o, c ≠ z → c ≠ tu → c ≠ p → c ≠ q → h.get? c = some o → h'.get? c = some o) →
        wpAny (model prog w) A.in1 (updateSeq S (·.push (Value.ref h.objs.size)) >>= fun _ => again (.builtin "list.extend.loop" ⟨[.ref S, .ref z, res], []⟩)) (fun fin s' => match fin with | .done f => R (.ok f) s' | .again c' => c'.quiet = true ∧ codeAny (model prog w) A c' R s') (fun e s' => R (.error e) s') { s with heap := h', toks := tk } := by
      intro h' tk zo j1 j2 hpr kp
      have S' := kp S _ (Nat.ne_of_gt Sz) (Nat.ne_of_gt St) (Nat.ne_of_gt Sp) (Nat.ne_of_gt Sq) hS
      have up : ∀ b o, b ≠ S → h'.get? b = some o → (h'.update S (Obj.mapSeq (·.push (Value.ref h.objs.size)))).get? b = some o := fun b o hb e => (Heap.get?_update_other _ _ (Ne.symm hb)).trans e
      obtain ⟨t, f, ot, g1, g2, g3⟩ := zo
      have ndn : (as ++ [h.objs.size]).Nodup := by
        rw [List.nodup_append]
        refine ⟨pr.1, by simp, fun a hma b hb e => ?_⟩
        rw [List.mem_singleton] at hb
        obtain ⟨j, hj⟩ := List.getElem?_of_mem hma
        obtain ⟨_, _, _, _, _, e3⟩ := pr.2 j a hj
        rw [e, hb] at e3
        exact Nat.lt_irrefl _ (Heap.lt_size e3)
      refine wpAny_bind (wpAny_updateSeq S' rfl (wpAny_pure ⟨plainId_quiet PySem.F.plain_extend_loop _, ih (k + 1) _ tk _ (acc.push (Value.ref h.objs.size)) (as ++ [h.objs.size]) (by omega) hlt (.inr ⟨t, f, ot, up z _ (Nat.ne_of_lt Sz) g1, up t _ (Nat.ne_of_gt g3) g2, g3⟩) (up ti _ (Nat.ne_of_lt Si) (kp ti _ D.TIz D.TITO D.TIi1 D.TIi2 hp))
        (j1.at fun o e => up p o (Nat.ne_of_lt Sp) e) (j2.at fun o e => up q o (Nat.ne_of_lt Sq) e) (m1.at fun o e => up l o (Nat.ne_of_lt Sl) (kp l o D.l1z D.l1TO D.l1i1 D.l1i2 e)) (m2.at fun o e => up r o (Nat.ne_of_lt Sr) (kp r o D.l2z D.l2TO D.l2i1 D.l2i2 e)) (fun b o b1 b2 b3 b4 b5 e => up b o b1 (kp b o b2 b3 b4 b5 (keep b o b1 b2 b3 b4 b5 e)))
        (Heap.get?_update_self _ S' rfl) (by rw [Array.toList_push, ha, List.map_append]; rfl) (by rw [List.length_append, hl]; rfl) ⟨ndn, fun j b hj => ?_⟩⟩) (by rw [hsz]; omega) (by show (acc.push (Value.ref h.objs.size)).size ≤ sizeLine + 1; rw [Array.size_push, hsz]; omega))
      rcases Nat.lt_trichotomy j as.length with g | g | g
      · rw [List.getElem?_append_left g] at hj
        obtain ⟨u, x, y, e1, e2, e3⟩ := pr.2 j b hj
        exact ⟨u, x, y, e1, e2, up b _ (Nat.ne_of_gt u) (kp b _ (Nat.ne_of_gt (Nat.lt_trans Sz u)) (Nat.ne_of_gt (Nat.lt_trans St u)) (Nat.ne_of_gt (Nat.lt_trans Sp u)) (Nat.ne_of_gt (Nat.lt_trans Sq u)) e3)⟩
      · subst g
        have hb : h.objs.size = b := by simpa using hj
        subst hb
        exact ⟨SL, _, _, by rw [hl]; exact ex, by rw [hl]; exact ey, up _ _ (Nat.ne_of_gt SL) hpr⟩
      · rw [List.getElem?_eq_none (by rw [List.length_append, List.length_singleton]; omega)] at hj
        cases hj
    rcases zs with ⟨rfl, hz, a, b, ht⟩ | ⟨t, f, ot, hz, ht, hSt⟩
    · refine wpAny_bind (wpAny_pyNext_zipD2_item (s := { s with heap := h, toks := tk }) (A := A.in1) (sepT D) (Draws.tuple (A := A.in1.in1) (show A.in1.in1.handled = none from hh) p l D.l1i1 xs) (Draws.tuple (A := A.in1.in1) (show A.in1.in1.handled = none from hh) q r D.l2i2 ys) hz hp ht ⟨i1, m1⟩ ⟨i2, m2⟩ hlx hly fun x1 x2 h' tk e1 e2 g1 g2 st1 st2 g5 g6 g7 => ?_)
      obtain rfl : xs[0] = x1 := by simpa [ex] using e1
      obtain rfl : ys[0] = x2 := by simpa [ey] using e2
      exact go h' tk ⟨_, false, _, g1, g5, SL⟩ st1.1 st2.1 g5 g7
    · refine wpAny_bind (next_out (s := { s with heap := h, toks := tk }) (A := A.in1) hz ht hp D.i1z D.i2z D.l1z D.l2z D.i12 D.l1i1 D.l2i1 D.TIz i1 i2 m1 m2 ex ey fun h' g1 g3 g4 g5 g6 g7 => ?_)
      exact go h' tk ⟨t, true, ot, g1, g7 t ot (Nat.ne_of_gt (Nat.lt_trans Sz hSt)) (Nat.ne_of_gt (Nat.lt_trans Sp hSt)) (Nat.ne_of_gt (Nat.lt_trans Sq hSt)) ht, hSt⟩ g3 g4 g5 fun c o a _ b d e => g7 c o a b d e
theorem extend (hh : A.handled = none) (ap : Ap z ti tu p q l r S) (n : Nat) (hnx : n ≤ xs.size) (hny : n ≤ ys.size) (hend : n = xs.size ∨ n = ys.size) (hn : n ≤ sizeLine) (res : Value) (c0 : Nat) (hz : IsZip s.heap z ti tu .none) (ht : ∃ a b, IsPair s.heap tu a b) (hp : IsPair s.heap ti (.ref p) (.ref q)) (i1 : s.heap.IsTupleIter p l 0) (i2 : s.heap.IsTupleIter q r 0) (m1 : s.heap.IsTuple l xs) (m2 : s.heap.IsTuple r ys)
    (hS : s.heap.get? S = some { cls := .type "list", data := .seq #[] c0 })
    (hR : ∀ h' tk acc c as, (∀ b o, b ≠ S → b ≠ z → b ≠ tu → b ≠ p → b ≠ q → s.heap.get? b = some o → h'.get? b = some o) → h'.get? S = some { cls := .type "list", dict := none, data := .seq acc c, slots := #[] } → as.length = n → Pr xs ys S h' as → acc.toList = as.map Value.ref → R (.ok (.ret res)) { s with heap := h', toks := tk }) :
    wpAny (model prog w) A.in1 (Builtin.List.listExtendWith (.ref S) (.ref z) res) (fun fin s' => match fin with | .done f => R (.ok f) s' | .again c' => c'.quiet = true ∧ codeAny (model prog w) A c' R s') (fun e s' => R (.error e) s') s := by
  have ty : s.TypeIs (.ref z) "zip" := ⟨_, hz, rfl⟩
  have hne : S ≠ z := Nat.ne_of_gt ap.Sz
  unfold Builtin.List.listExtendWith
  refine wpAny_bind (wpAny_typeOf ty ?_)
  have g1 : Builtin.List.listSameRef (.ref S) (.ref z) = false := by simp [Builtin.List.listSameRef, hne]
  have g2 : (Value.type "zip" == Value.type "list") = false := by decide
  have g3 : (Value.type "zip" == Value.type "tuple") = false := by decide
  simp only [g1, g2, g3, Bool.or_false, Bool.false_eq_true, if_false]
  refine wpAny_bind (wpAny_pyIter_zip hz (wpAny_bind (wpAny_holding ?_)))
  unfold Builtin.List.listLengthHint
  refine wpAny_bind (wpAny_specialOf ty no_len ?_)
  show wpAny _ A.in1 (specialOf (Value.ref z) (Str.ofString "__length_hint__") >>= _) _ _ _
  refine wpAny_bind (wpAny_specialOf ty no_hint (wpAny_pure ?_))
  show wpAny _ A.in1 (rule "list.extend.makes-room" >>= fun _ => Builtin.List.listTouch (.ref S) >>= fun _ => again (.builtin "list.extend.loop" ⟨[.ref S, .ref z, res], []⟩)) _ _ _
  refine wpAny_bind (wpAny_rule (wpAny_bind ?_))
  show wpAny _ A.in1 (updateSeq S (·.push .none) >>= fun _ => updateSeq S (·.pop)) _ _ _
  refine wpAny_bind (wpAny_updateSeq hS rfl ?_)
  have S2 := Heap.get?_update_self (Obj.mapSeq (·.push Value.none)) hS rfl
  refine wpAny_updateSeq (hz := by seq_fits) S2 rfl ?_
  have S3 := Heap.get?_update_self (Obj.mapSeq (·.pop)) S2 rfl
  have up : ∀ b o, b ≠ S → s.heap.get? b = some o → ((s.heap.update S (Obj.mapSeq (·.push Value.none))).update S (Obj.mapSeq (·.pop))).get? b = some o := fun b o hb e => (Heap.get?_update_other _ _ (Ne.symm hb)).trans ((Heap.get?_update_other _ _ (Ne.symm hb)).trans e)
  obtain ⟨a, b, ht⟩ := ht
  have ap' := ap
  obtain ⟨D, Sz, St, Si, Sp, Sq, Sl, Sr⟩ := ap
  exact wpAny_pure ⟨plainId_quiet F.plain_extend_loop _, loop hh ap' n hnx hny hend hn res (h0 := s.heap) hR n 0 _ _ _ #[] [] (Nat.sub_zero _) (Nat.zero_le _) (.inl ⟨rfl, up z _ (Nat.ne_of_lt Sz) hz, a, b, up tu _ (Nat.ne_of_lt St) ht⟩) (up ti _ (Nat.ne_of_lt Si) hp) (i1.at fun o e => up p o (Nat.ne_of_lt Sp) e) (i2.at fun o e => up q o (Nat.ne_of_lt Sq) e) (m1.at fun o e => up l o (Nat.ne_of_lt Sl) e) (m2.at fun o e => up r o (Nat.ne_of_lt Sr) e)
    (fun b o b1 _ _ _ _ e => up b o b1 e) S3 rfl rfl ⟨List.nodup_nil, fun j a hj => by simp at hj⟩⟩
end
section
variable {prog : Program} {w : World} {A : Around} {E : Value → Shared → Prop} {s : Shared} {z ti tu p q l r : Addr} {xs ys : Array Value}
theorem call_list {Q : Value → Shared → Prop} (hh : A.handled = none) (D : ZipApart z ti tu p q l r) (n : Nat) (hnx : n ≤ xs.size) (hny : n ≤ ys.size) (hend : n = xs.size ∨ n = ys.size) (hn : n ≤ sizeLine) (hz : IsZip s.heap z ti tu .none) (ht : ∃ a b, IsPair s.heap tu a b) (hp : IsPair s.heap ti (.ref p) (.ref q)) (i1 : s.heap.IsTupleIter p l 0) (i2 : s.heap.IsTupleIter q r 0) (m1 : s.heap.IsTuple l xs) (m2 : s.heap.IsTuple r ys)
    (hQ : ∀ h' tk acc c as, (∀ b o, b ≠ z → b ≠ tu → b ≠ p → b ≠ q → s.heap.get? b = some o → h'.get? b = some o) → h'.get? s.heap.objs.size = some { cls := .type "list", dict := none, data := .seq acc c, slots := #[] } → as.length = n → Pr xs ys s.heap.objs.size h' as → acc.toList = as.map Value.ref → Q (.ref s.heap.objs.size) { s with heap := h', toks := tk }) :
    wpAny (model prog w) A (call (.type "list") [.ref z]) Q E s := by
  have lt : ∀ {a o}, s.heap.get? a = some o → a < s.heap.objs.size := fun e => Heap.lt_size e
  obtain ⟨u, v, ht⟩ := ht
  have ap : Ap z ti tu p q l r s.heap.objs.size := ⟨D, lt hz, lt ht, lt hp, by obtain ⟨_, e, _⟩ := i1; exact lt e, by obtain ⟨_, e, _⟩ := i2; exact lt e, by obtain ⟨_, e, _⟩ := m1; exact lt e, by obtain ⟨_, e, _⟩ := m2; exact lt e⟩
  refine callType_codes (Q₁ := fun obj s1 => obj = .ref s.heap.objs.size ∧ s1 = { s with heap := s.heap.push { cls := .type "list", data := .seq #[] } }) F.called_list (F.typeCall_list_1 _) F.entry_list_init (code_list_new _ ⟨rfl, rfl⟩) fun obj s1 h1 => ?_
  obtain ⟨rfl, rfl⟩ := h1
  have hS : (s.heap.push { cls := .type "list", data := .seq #[] }).get? s.heap.objs.size = some { cls := .type "list", data := .seq #[] } := Heap.get?_push_size _ rfl
  have up : ∀ b o, s.heap.get? b = some o → (s.heap.push { cls := .type "list", data := .seq #[] }).get? b = some o := fun b o e => Heap.get?_push_of_some _ e
  refine ⟨⟨_, hS, rfl⟩, F.args_list_init_2 _ _, ?_⟩
  show wpAny _ A.in1.in1 (do let old ← Builtin.List.listItems (.ref s.heap.objs.size); Builtin.List.listUpdate (.ref s.heap.objs.size) (fun _ => #[]); letGo old.toList.reverse; Builtin.List.listExtendWith (.ref s.heap.objs.size) (.ref z) .none) _ _ _
  refine wpAny_bind ?_
  unfold Builtin.List.listItems
  refine wpAny_bind (wpAny_seqItems hS rfl (wpAny_pure ?_))
  show wpAny _ A.in1.in1 (updateSeq s.heap.objs.size (fun _ => #[]) >>= fun _ => letGo (#[] : Array Value).toList.reverse >>= fun _ => Builtin.List.listExtendWith (.ref s.heap.objs.size) (.ref z) .none) _ _ _
  refine wpAny_bind (wpAny_updateSeq hS rfl ?_)
  have S2 := Heap.get?_update_self (Obj.mapSeq (fun _ => (#[] : Array Value))) hS rfl
  have up2 : ∀ b o, b ≠ s.heap.objs.size → s.heap.get? b = some o → ((s.heap.push { cls := .type "list", data := .seq #[] }).update s.heap.objs.size (Obj.mapSeq (fun _ => (#[] : Array Value)))).get? b = some o := fun b o hb e => (Heap.get?_update_other _ _ (Ne.symm hb)).trans (up b o e)
  refine wpAny_bind (wpAny_letGo ?_)
  have ap' := ap
  obtain ⟨_, Sz, St, Si, Sp, Sq, Sl, Sr⟩ := ap
  refine extend (A := A.in1) hh ap' n hnx hny hend hn .none _ (up2 z _ (Nat.ne_of_lt Sz) hz) ⟨u, v, up2 tu _ (Nat.ne_of_lt St) ht⟩ (up2 ti _ (Nat.ne_of_lt Si) hp) (i1.at fun o e => up2 p o (Nat.ne_of_lt Sp) e) (i2.at fun o e => up2 q o (Nat.ne_of_lt Sq) e) (m1.at fun o e => up2 l o (Nat.ne_of_lt Sl) e) (m2.at fun o e => up2 r o (Nat.ne_of_lt Sr) e) S2 fun h' tk acc c as k g hl pr ha => ?_
  exact ⟨rfl, hQ h' tk acc c as (fun b o b2 b3 b4 b5 e => k b o (Nat.ne_of_lt (lt e)) b2 b3 b4 b5 (up2 b o (Nat.ne_of_lt (lt e)) e)) g hl pr ha⟩
end
end Tz
namespace Pw
open PySem PySem.Spec PyProof.Rows L2
open Evl (Ex ex_l ex_t fresh_back)
theorem vals_take : ∀ {xs : List V} {us : List Value} (n : Nat), Vals xs us → Vals (xs.take n) (us.take n)
  | _, _, 0, _ => by simp only [List.take_zero]; exact .nil
  | _, _, _ + 1, .nil => by simp only [List.take_nil]; exact .nil
  | _, _, n + 1, .cons h t => by simp only [List.take_succ_cons]; exact .cons h (vals_take n t)
def tLZT (K : PySem.W.Frag) (ta : TA) : TE := fun σ H Q => ta σ H fun vs H1 => ∃ a b xs ys, vs = [.ref a, .ref b] ∧ SqT K H1 a xs ∧ SqT K H1 b ys ∧ ∀ G S as, Laid2 H1 G S as (xs.take (min xs.length ys.length)) ys → Q (.ref S) G
theorem pe_lzT {X : Cx} {e e2 : Expr} {ta : TA} {p p2 pos pos2 : Pos} (hc : X.calm = true) (hgl : Gl X "list") (hml : X.mg "list" = none) (hgz : Gl X "zip") (hmz : X.mg "zip" = none) (ha : PA X [e, e2] ta)
    (hs : starEach [e, e2] X.env = (false, eval e X.env) :: starEach [e2] X.env := by rfl) (hpl : (backTo pos2 (starEach [e2] X.env)).any (·.1) = false := by rfl)
    (hs1 : starEach [.Call (.Name "zip" p2) [e, e2] [] pos2] X.env = [(false, eval (.Call (.Name "zip" p2) [e, e2] [] pos2) X.env)] := by rfl) :
    PE X (.Call (.Name "list" p) [.Call (.Name "zip" p2) [e, e2] [] pos2] [] pos) (tLZT X.K ta) := by
  refine ⟨fun pins s σ H Q I h => ?_⟩
  refine Call_ (ld_blt I hgl hml (by decide +kernel : bootBuiltins "list" = some (.type "list")) (PyProof.Rows.callWith_type1 ?_ hs1 rfl))
  rw [hs1]
  show wpAny _ _ (spliced ((false, eval (.Call (.Name "zip" p2) [e, e2] [] pos2) X.env) :: backTo pos [])) _ _ s
  refine Calls.spliced_cons ?_
  refine Call_ (ld_blt I hgz hmz PyProof.Rows.boot_zip (PyProof.Rows.callWith_type1 (thn (ha.run pos2 pins s σ H _ I h) fun us s1 z => ?_) hs hpl))
  obtain ⟨vs, H1, I1, r1, a, b, xs, ys, ex, hx, hy, q⟩ := z
  subst ex
  cases r1 with
  | cons r rr =>
    cases rr with
    | cons r' rr =>
      cases rr
      cases r
      cases r'
      obtain ⟨its, rv, p1, hz1⟩ := I1.tuple hx
      obtain ⟨its2, rv2, q1, hz2⟩ := I1.tuple hy
      have n1 := vals_len rv
      have n2 := vals_len rv2
      obtain ⟨oa, hoa, _⟩ := id p1
      obtain ⟨ob, hob, _⟩ := id q1
      have alt := Heap.lt_size hoa
      have blt := Heap.lt_size hob
      refine zip_begins2 (begins_tuple a its.toArray) (begins_tuple b its2.toArray) p1 q1 fun h2 g1 g2 g3 g4 g5 g6 g7 => ?_
      refine Calls.spliced_nil ?_
      have D := PySem.W.ktu_apart s1.heap.objs.size a b alt blt
      refine Tz.call_list (s := { s1 with heap := h2 }) (I1.ok.hd hc) D (xs := its.toArray) (ys := its2.toArray) (min xs.length ys.length) (by simp only [List.size_toArray]; omega) (by simp only [List.size_toArray]; omega) (by simp only [List.size_toArray]; omega) ?_ g1 ⟨_, _, g3⟩ g2 ⟨_, g4, rfl, rfl⟩ ⟨_, g5, rfl, rfl⟩
        (Heap.IsTuple.at p1 fun o e => g7 a o e) (Heap.IsTuple.at q1 fun o e => g7 b o e) fun h3 tk acc c as kp gS hl pr hacc => ?_
      · exact Nat.le_trans (Nat.min_le_left _ _) hz1
      have lt : ∀ {x o}, s1.heap.get? x = some o → x < s1.heap.objs.size := fun e => Heap.lt_size e
      have kp2 : ∀ x o, s1.heap.get? x = some o → h3.get? x = some o := fun x o e => kp x o (Nat.ne_of_lt (Nat.lt_of_lt_of_le (lt e) (Nat.le_add_right _ _))) (Nat.ne_of_lt (Nat.lt_of_lt_of_le (lt e) (Nat.le_add_right _ _))) (Nat.ne_of_lt (lt e)) (Nat.ne_of_lt (Nat.lt_of_lt_of_le (lt e) (Nat.le_add_right _ _))) (g7 x o e)
      obtain ⟨G, L, I2⟩ := laid_many (tk := tk) I1 kp2 (show s1.heap.objs.size ≤ h2.objs.size by rw [g6]; exact Nat.le_add_right _ _) gS hacc (us := (its.take (min xs.length ys.length)).toArray) (vs := its2.toArray) (by rw [hl]; simp only [List.size_toArray, List.length_take]; omega) (by simpa using vals_take (min xs.length ys.length) rv) (by simpa using rv2) (by rw [List.length_take]; exact Nat.le_trans (Nat.min_le_right _ _) hz1) ⟨pr.1, fun j w hj => by
        obtain ⟨g, x, y, e1, e2, e3⟩ := pr.2 j w hj
        have hj2 : j < min xs.length ys.length := by
          have := (List.getElem?_eq_some_iff.1 hj).1
          omega
        refine ⟨g, x, y, ?_, e2, e3⟩
        rw [List.getElem?_toArray] at e1 ⊢
        rw [List.getElem?_take_of_lt hj2]
        exact e1⟩
      exact ⟨.ref h2.objs.size, G, I2, rfl, q G _ as L⟩
section
variable {T : Cfg} {W : WX} {ρ : List (Option D)} {m0 μ : Mu} {P : D → Mu → Prop} {XP : XW} {ta : TA}
theorem rep_take {Hb : Hp} {ds : List D} {xs : List V} (n : Nat) (r : RepL T Hb ds xs) : RepL T Hb (ds.take n) (xs.take n) := by
  refine ⟨by rw [List.length_take, List.length_take, r.1], fun i d v hd hv => ?_⟩
  by_cases hi : i < n
  · rw [List.getElem?_take_of_lt hi] at hd hv
    exact r.2 i d v hd hv
  · rw [List.getElem?_take_eq_none (by omega)] at hd
    cases hd
theorem zip_take : ∀ (ds es : List D), (ds.take (min ds.length es.length)).zip es = ds.zip es
  | [], es => by simp
  | d :: ds, [] => by simp
  | d :: ds, e :: es => by
    rw [List.length_cons, List.length_cons, Nat.succ_min_succ, List.take_succ_cons, List.zip_cons_cons, List.zip_cons_cons, zip_take ds es]
theorem ev_lzT (h : EA T ta W ⟨ρ, m0⟩ (fun fs μ => ∃ ds es, fs = [.tup ds, .tup es] ∧ P (.lst ((ds.zip es).map fun z => .tup [z.1, z.2])) μ) XP) : EV T (tLZT T.K ta) W ⟨ρ, m0⟩ P XP := fun σ Hb H Q S q x =>
  h σ Hb H _ S (fun fs μ vs Hb1 H1 g r p => by
    obtain ⟨ds, es, rfl, p⟩ := p
    obtain ⟨v, ys, rfl, r1, r⟩ := r.cons_inv
    obtain ⟨w, zs, rfl, r2, r⟩ := r.cons_inv
    obtain rfl := r.nil_inv
    obtain ⟨a, xs, rfl, hx, rx⟩ := r1.tup_inv
    obtain ⟨b, us, rfl, hy, ry⟩ := r2.tup_inv
    refine ⟨a, b, xs, us, rfl, ex_t g.sub hx, ex_t g.sub hy, fun G S' as L => ?_⟩
    have l1 := rx.1
    have l2 := ry.1
    rw [← l1, ← l2] at L
    obtain ⟨Hb', g', r'⟩ := go_laid2 g.sub g.mu L (rep_take _ rx) ry (by rw [List.length_take]; omega)
    rw [zip_take] at r'
    exact q _ _ _ _ _ (g.trans g') r' p) x
end
end Pw
namespace Far
open PySem PySem.Spec PyProof.Rows L2 Pw
theorem zip_sub1 {α β : Type} : ∀ (as : List α) (os : List β), ((as.zip os).map (·.1)).Sublist as
  | [], os => by simp
  | a :: as, [] => by simp
  | a :: as, o :: os => by
    rw [List.zip_cons_cons, List.map_cons]
    exact (zip_sub1 as os).cons₂ a
theorem zip_sub2 {α β : Type} : ∀ (as : List α) (os : List β), ((as.zip os).map (·.2)).Sublist os
  | [], os => by simp
  | a :: as, [] => by simp
  | a :: as, o :: os => by
    rw [List.zip_cons_cons, List.map_cons]
    exact (zip_sub2 as os).cons₂ o
theorem prs_zip {as os : List Str} (h1 : SgsOk as) (h2 : SgsOk os) : PrsOk (as.zip os) := by
  refine ⟨h1.nd.sublist (zip_sub1 as os), h2.nd.sublist (zip_sub2 as os), fun p hp => ?_, ?_⟩
  · obtain ⟨a, b⟩ := p
    obtain ⟨m1, m2⟩ := List.of_mem_zip hp
    exact ⟨h1.nm _ m1, h2.nm _ m2⟩
  · have := h1.ln
    rw [List.length_zip]
    omega
theorem sgs_turn {as : List Str} (h : SgsOk as) : SgsOk (as.drop 1 ++ as.take 1) := by
  have pm : (as.drop 1 ++ as.take 1).Perm as := (List.perm_append_comm).trans (by rw [List.take_append_drop])
  exact ⟨pm.nodup_iff.2 h.nd, fun x hx => h.nm x (pm.mem_iff.1 hx), by rw [pm.length_eq]; exact h.ln⟩
theorem cut_K9 {ds : List D} {k : Nat} : Pw.cutD ds (some (k : Int)) none = ds.drop k := by
  unfold Pw.cutD
  rw [HT.sIx_none, HT.sIx_nat]
  rcases Nat.le_total k ds.length with h | h
  · rw [Nat.min_eq_left h, ← List.length_drop, List.take_length]
  · rw [Nat.min_eq_right h, List.drop_length, List.drop_of_length_le h, List.take_nil]
theorem cut_P9 {ds : List D} {k : Nat} : Pw.cutD ds none (some (k : Int)) = ds.take k := by
  unfold Pw.cutD
  rw [HT.sIx_none, HT.sIx_nat]
  rw [List.drop_zero, Nat.sub_zero]
  rcases Nat.le_total k ds.length with h | h
  · rw [Nat.min_eq_left h]
  · rw [Nat.min_eq_right h, List.take_length, List.take_of_length_le h]
theorem cut_d1 (xs : List Str) : Pw.cutD (xs.map D.str) (some 1) none = (xs.drop 1).map D.str := (cut_K9 (k := 1)).trans (List.map_drop ..).symm
theorem cut_t1 (xs : List Str) : Pw.cutD (xs.map D.str) none (some 1) = (xs.take 1).map D.str := (cut_P9 (k := 1)).trans (List.map_take ..).symm
def t_Lpairs (T : Cfg) (E : XK) : TS := (tSeq (tAsg (tCall (spOf T (wl (c_Lunlike T))) [] E0 (tCons (tVar 0) (tCons (tC (.int 4)) tNil))) (gName 1))
    (tSeq (tAsg (tCall (spOf T (wl (c_Lunlike T))) [] E0 (tCons (tVar 0) (tCons (tC (.int 4)) tNil))) (gName 2))
    (tSeq (tIfS (tTest (tOp rEq (tCall (spOf T (wl (c_Ldraw T))) [] E0 (tCons (tVar 0) (tCons (tC (.int 3)) tNil))) (tC (.int 0)))) (tAsg (tOp (rCatA T.K) (tSl (rSlA T.K) (tVar 1) (tPart (tC (.int 1))) tNoPart) (tSl (rSlA T.K) (tVar 1) tNoPart (tPart (tC (.int 1))))) (gName 2)) tNext)
    (tRet (tCB (rTupOf T.K) (tCons (tLZT T.K (tCons (tVar 1) (tCons (tVar 2) tNil))) tNil))))))
theorem pure_Lpairs {T : Cfg} (hT : ShOk T) : ∀ E ds μ P XP, wl (c_Lpairs T) ds μ P XP → SV T (t_Lpairs T E) (fun cls dd _ H => E cls dd H) ⟨slots 3 ds, μ⟩ (fnK P XP) := by
  rintro E ds μ P XP ⟨a, b, rest, rfl, rfl, Pf, ⟨rfl, hb, k⟩, hP⟩
  unfold t_Lpairs
  refine sv_seq (sv_asg (ev_Lunlike rfl (by omega) fun as b1 h1 hb1 => ?_))
  refine seqK_nx (sv_seq (sv_asg (ev_Lunlike rfl (by omega) fun os b2 h2 hb2 => ?_)))
  have fin : ∀ (os : List Str), SgsOk os → seqK T (tRet (tCB (rTupOf T.K) (tCons (tLZT T.K (tCons (tVar 1) (tCons (tVar 2) tNil))) tNil))) (fun cls dd _ H => E cls dd H) (fnK P XP) (Out.nx ⟨[some (.ptr a), some (strsT as), some (strsT os)], put mu0 a (.well (b2 - 1))⟩) := fun os h2 => by
    refine seqK_nx (sv_ret (ev_cb (ea_cons (ev_lzT (ea_cons (ev_var rfl (ea_cons (ev_var rfl (ea_nil ⟨as.map D.str, os.map D.str, rfl, ea_nil (cv_tupI (.inl rfl) ?_)⟩)))))))))
    have e : (((as.map D.str).zip (os.map D.str)).map fun z => D.tup [z.1, z.2]) = (as.zip os).map rpT := by
      rw [List.zip_map, List.map_map]
      rfl
    rw [e]
    exact hP _ _ (k _ _ (prs_zip h1 h2) (by omega))
  refine seqK_nx (sv_seq (sv_if (tv_test (ev_op (ev_Ldraw9 rfl (fun q => ev_int q) (by omega) (by decide) (by decide) fun w w0 w8 => ev_int (ov_eqI ⟨_, rfl, fun h => ?_, fun h => ?_⟩))))))
  · refine sv_asg (ev_op (ev_slT (ev_var rfl (po_so (ev_int ⟨_, rfl, po_no ⟨_, rfl, ev_slT (ev_var rfl (po_no (po_so (ev_int ⟨_, rfl, _, rfl, ov_catA ?_ ?_⟩))))⟩⟩)))))
    · rw [cut_d1, cut_t1]
      have := h1.ln
      simp
      omega
    · rw [cut_d1, cut_t1, ← List.map_append]
      exact fin _ (sgs_turn h1)
  · exact sv_next (fin os h2)
theorem nuS_inj {k l : Nat} (h1 : k ≤ 1000) (h2 : l ≤ 1000) (h : nuS k = nuS l) : k = l := by
  have e1 := nuS_int (n := k) (by have := numL_four h1; omega)
  have e2 := nuS_int (n := l) (by have := numL_four h2; omega)
  rw [h, e2] at e1
  have := Option.some.inj e1
  omega
theorem sgW_inj {as os : List Str} (h1 : SgsOk as) (h2 : SgsOk os) (h : sgW as = sgW os) : as = os := by
  rw [← cut_sg h1, ← cut_sg h2, h]
theorem arr_inj {p q : Str × Str} (h1 : nmB p.1 = true ∧ nmB p.2 = true) (h2 : nmB q.1 = true ∧ nmB q.2 = true) (h : arrW p = arrW q) : p = q := by
  have e := split_arr h1
  rw [h, split_arr h2] at e
  injection e with e1 e2
  injection e2 with e2 _
  exact Prod.ext e1.symm e2.symm
theorem map_inj9 {α β : Type} {f : α → β} : ∀ {xs ys : List α}, (∀ x ∈ xs, ∀ y ∈ ys, f x = f y → x = y) → xs.map f = ys.map f → xs = ys
  | [], [], _, _ => rfl
  | [], y :: ys, _, h => by simp at h
  | x :: xs, [], _, h => by simp at h
  | x :: xs, y :: ys, hi, h => by
    injection h with h1 h2
    rw [hi x (by simp) y (by simp) h1, map_inj9 (fun a ha b hb => hi a (by simp [ha]) b (by simp [hb])) h2]
theorem prW_inj {ps qs : List (Str × Str)} (h1 : PrsOk ps) (h2 : PrsOk qs) (h : prW ps = prW qs) : ps = qs := by
  have e : ps.map arrW = qs.map arrW := by rw [← cut_pr h1, ← cut_pr h2, h]
  exact map_inj9 (fun p hp q hq e => arr_inj (h1.nm p hp) (h2.nm q hq) e) e
def fstW : Rcp → Str
  | .part x => x
  | r => kdR r
theorem fst_wds (r : Rcp) : ∃ l, wdsR r = fstW r :: l := by cases r <;> exact ⟨_, rfl⟩
theorem fst_sev {r : Rcp} (hr : okR r) : (∃ x, r = .part x ∧ x ∉ sevens) ∨ (fstW r = kdR r ∧ kdR r ∈ sevens) := by
  cases r with
  | part x => exact .inl ⟨x, rfl, hr.2⟩
  | _ => exact .inr ⟨rfl, by simp [kdR, sevens]⟩
theorem kd_of {r s : Rcp} (hr : okR r) (hs : okR s) (h : fstW r = fstW s) : kdR r = kdR s := by
  rcases fst_sev hr with ⟨x, rfl, hx⟩ | ⟨e1, m1⟩ <;> rcases fst_sev hs with ⟨y, rfl, hy⟩ | ⟨e2, m2⟩
  · rfl
  · rw [e2] at h
    exact absurd (show x ∈ sevens from (show x = _ from h) ▸ m2) hx
  · rw [e1] at h
    exact absurd (show y ∈ sevens from (show _ = y from h) ▸ m1) hy
  · rw [← e1, ← e2, h]
theorem wds_inj : ∀ (r s : Rcp) (u v : List Str), okR r → okR s → wdsR r ++ u = wdsR s ++ v → r = s ∧ u = v := by
  have hk : ∀ {r s : Rcp} {u v : List Str}, okR r → okR s → wdsR r ++ u = wdsR s ++ v → kdR r = kdR s := fun {r s u v} hr hs h => by
    obtain ⟨l1, e1⟩ := fst_wds r
    obtain ⟨l2, e2⟩ := fst_wds s
    rw [e1, e2] at h
    injection h with h _
    exact kd_of hr hs h
  intro r
  induction r with
  | stop =>
    intro s u v hr hs h
    have k := hk hr hs h
    cases s with
    | stop =>
      injection h with _ h
      exact ⟨rfl, h⟩
    | _ => exact absurd k (by simp only [kdR]; decide)
  | part x =>
    intro s u v hr hs h
    have k := hk hr hs h
    cases s with
    | part y =>
      injection h with h1 h
      exact ⟨by rw [h1], h⟩
    | _ => exact absurd k (by simp only [kdR]; decide)
  | ahead a r ih =>
    intro s u v hr hs h
    have k := hk hr hs h
    cases s with
    | ahead b s =>
      injection h with _ h
      injection h with h1 h
      obtain ⟨e1, e2⟩ := ih s u v hr.2 hs.2 h
      exact ⟨by rw [h1, e1], e2⟩
    | _ => exact absurd k (by simp only [kdR]; decide)
  | toss a m l r q ih1 ih2 =>
    intro s u v hr hs h
    have k := hk hr hs h
    cases s with
    | toss b m' l' r' q' =>
      injection h with _ h
      injection h with h1 h
      injection h with h2 h
      injection h with h3 h
      obtain ⟨o1, o2, o3, o4, o5⟩ := hr
      obtain ⟨p1, p2, p3, p4, p5⟩ := hs
      have h : (wdsR r ++ wdsR q) ++ u = (wdsR r' ++ wdsR q') ++ v := h
      rw [List.append_assoc, List.append_assoc] at h
      obtain ⟨e1, e2⟩ := ih1 r' _ _ o4 p4 h
      obtain ⟨e3, e4⟩ := ih2 q' _ _ o5 p5 e2
      exact ⟨by rw [h1, nuS_inj o2.2 p2.2 h2, nuS_inj o3.2 p3.2 h3, e1, e3], e4⟩
    | _ => exact absurd k (by simp only [kdR]; decide)
  | beside as r q ih1 ih2 =>
    intro s u v hr hs h
    have k := hk hr hs h
    cases s with
    | beside os r' q' =>
      injection h with _ h
      injection h with h1 h
      have h : (wdsR r ++ wdsR q) ++ u = (wdsR r' ++ wdsR q') ++ v := h
      rw [List.append_assoc, List.append_assoc] at h
      obtain ⟨e1, e2⟩ := ih1 r' _ _ hr.2.1 hs.2.1 h
      obtain ⟨e3, e4⟩ := ih2 q' _ _ hr.2.2 hs.2.2 e2
      exact ⟨by rw [sgW_inj hr.1 hs.1 h1, e1, e3], e4⟩
    | _ => exact absurd k (by simp only [kdR]; decide)
  | only as r ih =>
    intro s u v hr hs h
    have k := hk hr hs h
    cases s with
    | only os s =>
      injection h with _ h
      injection h with h1 h
      obtain ⟨e1, e2⟩ := ih s u v hr.2 hs.2 h
      exact ⟨by rw [sgW_inj hr.1 hs.1 h1, e1], e2⟩
    | _ => exact absurd k (by simp only [kdR]; decide)
  | rename ps r ih =>
    intro s u v hr hs h
    have k := hk hr hs h
    cases s with
    | rename qs s =>
      injection h with _ h
      injection h with h1 h
      obtain ⟨e1, e2⟩ := ih s u v hr.2 hs.2 h
      exact ⟨by rw [prW_inj hr.1 hs.1 h1, e1], e2⟩
    | _ => exact absurd k (by simp only [kdR]; decide)
theorem mem_joinL {c : Nat} {S : List Nat} : ∀ {L : List (List Nat)}, c ∈ TL.joinL S L → c ∈ S ∨ ∃ p ∈ L, c ∈ p
  | [], h => nomatch h
  | [p], h => .inr ⟨p, by simp, h⟩
  | p :: q :: r, h => by
    have h : c ∈ p ++ (S ++ TL.joinL S (q :: r)) := h
    rcases List.mem_append.1 h with h | h
    · exact .inr ⟨p, by simp, h⟩
    · rcases List.mem_append.1 h with h | h
      · exact .inl h
      · rcases mem_joinL h with h | ⟨x, hx, hc⟩
        · exact .inl h
        · exact .inr ⟨x, List.mem_cons_of_mem _ hx, hc⟩
theorem jn_no {ws : List Str} (h : ∀ w ∈ ws, (32 : Nat) ∉ w.cps.toList) : (32 : Nat) ∉ (jnW ws).cps.toList := by
  unfold jnW
  split
  · decide +kernel
  · intro hm
    rw [TL.join_eq] at hm
    have hm : (32 : Nat) ∈ TL.tl (Str.join "," ws) := hm
    rw [TL.tl_join] at hm
    rcases mem_joinL hm with hm | ⟨p, hp, hc⟩
    · exact absurd hm (by decide +kernel)
    · obtain ⟨w, hw, rfl⟩ := List.mem_map.1 hp
      exact h w hw hc
theorem nu_no (k : Nat) : (32 : Nat) ∉ (nuS k).cps.toList := fun h => by
  rw [nuS_tl] at h
  have := TL.numL_digits k 32 h
  omega
theorem sg_no {as : List Str} (h : SgsOk as) : (32 : Nat) ∉ (sgW as).cps.toList := jn_no fun w hw => nm_no (h.nm w hw) (by decide +kernel)
theorem pr_no {ps : List (Str × Str)} (h : PrsOk ps) : (32 : Nat) ∉ (prW ps).cps.toList := by
  rw [prW_jn]
  refine jn_no fun w hw => ?_
  obtain ⟨p, hp, rfl⟩ := List.mem_map.1 hw
  exact arr_no (h.nm p hp) (by decide +kernel) (by decide)
theorem wds_no : ∀ r : Rcp, okR r → ∀ w ∈ wdsR r, (32 : Nat) ∉ w.cps.toList := by
  intro r
  induction r with
  | stop => intro _ w hw; simp only [wdsR, List.mem_singleton] at hw; subst hw; decide +kernel
  | part x => intro h w hw; simp only [wdsR, List.mem_singleton] at hw; subst hw; exact nm_no h.1 (by decide +kernel)
  | ahead a r ih =>
    intro h w hw
    simp only [wdsR, List.mem_cons] at hw
    rcases hw with rfl | rfl | hw
    · decide +kernel
    · exact nm_no h.1 (by decide +kernel)
    · exact ih h.2 w hw
  | toss a k l r s ih1 ih2 =>
    intro h w hw
    simp only [wdsR, List.mem_cons, List.mem_append] at hw
    rcases hw with rfl | rfl | rfl | rfl | hw | hw
    · decide +kernel
    · exact nm_no h.1 (by decide +kernel)
    · exact nu_no k
    · exact nu_no l
    · exact ih1 h.2.2.2.1 w hw
    · exact ih2 h.2.2.2.2 w hw
  | beside as r s ih1 ih2 =>
    intro h w hw
    simp only [wdsR, List.mem_cons, List.mem_append] at hw
    rcases hw with rfl | rfl | hw | hw
    · decide +kernel
    · exact sg_no h.1
    · exact ih1 h.2.1 w hw
    · exact ih2 h.2.2 w hw
  | only as r ih =>
    intro h w hw
    simp only [wdsR, List.mem_cons] at hw
    rcases hw with rfl | rfl | hw
    · decide +kernel
    · exact sg_no h.1
    · exact ih h.2 w hw
  | rename ps r ih =>
    intro h w hw
    simp only [wdsR, List.mem_cons] at hw
    rcases hw with rfl | rfl | hw
    · decide +kernel
    · exact pr_no h.1
    · exact ih h.2 w hw
theorem wds_ne (r : Rcp) : wdsR r ≠ [] := by cases r <;> simp [wdsR]
theorem wds_split {r : Rcp} (h : okR r) : Txt.split (Txt.join " " (wdsR r)) " " = wdsR r :=
  TL.split_join (y := " ") (s := 32) (S := []) (by decide +kernel) (by decide +kernel) (wds_ne r) (wds_no r h)
theorem txt_inj {r s : Rcp} (hr : okR r) (hs : okR s) (h : Txt.join " " (wdsR r) = Txt.join " " (wdsR s)) : r = s := by
  have e : wdsR r = wdsR s := by rw [← wds_split hr, h, wds_split hs]
  exact (wds_inj r s [] [] hr hs (by rw [e])).1
def sgP (as : List Str) : PyData := .tuple (as.map PyData.str)
def pairP (p : Str × Str) : PyData := .tuple [.str p.1, .str p.2]
def rcP : Rcp → PyData
  | .stop => .tuple [.str "stop"]
  | .part x => .tuple [.str "part", .str x]
  | .ahead a r => .tuple [.str "ahead", .str a, rcP r]
  | .toss a k l r s => .tuple [.str "toss", .str a, .tuple [.int (k : Int), .int (l : Int)], rcP r, rcP s]
  | .beside as r s => .tuple [.str "beside", sgP as, rcP r, rcP s]
  | .only as r => .tuple [.str "only", sgP as, rcP r]
  | .rename ps r => .tuple [.str "rename", .tuple (ps.map pairP), rcP r]
structure Shw (d : D) (p : PyData) (n w : Nat) : Prop where
  dp : DPy d p
  lay : p.canLay0 = true
  sho : p.showable = true
  lea : p.leavesShort 8 = true
  dep : p.depth ≤ n
  wei : p.weight ≤ w
structure ShwL (ds : List D) (ps : List PyData) (n w : Nat) : Prop where
  dp : DPyL ds ps
  lay : PyData.canLayAll0 ps = true
  sho : PyData.showableAll ps = true
  lea : PyData.leavesShortAll 8 ps = true
  dep : PyData.depthAll ps ≤ n
  wei : PyData.weightAll ps ≤ w
theorem ShwL.nil {n w : Nat} : ShwL [] [] n w := ⟨.nil, by simp [PyData.canLayAll0], by simp [PyData.showableAll], by simp [PyData.leavesShortAll], by simp [PyData.depthAll], by simp [PyData.weightAll]⟩
theorem ShwL.cons {d : D} {p : PyData} {ds : List D} {ps : List PyData} {n a b w : Nat} (h : Shw d p n a) (t : ShwL ds ps n b) (hw : a + 1 + b ≤ w) : ShwL (d :: ds) (p :: ps) n w := by
  refine ⟨.cons h.dp t.dp, ?_, ?_, ?_, ?_, ?_⟩
  · simp [PyData.canLayAll0, h.lay, t.lay]
  · simp [PyData.showableAll, h.sho, t.sho]
  · simp [PyData.leavesShortAll, h.lea, t.lea]
  · have h1 := h.dep
    have h2 := t.dep
    simp only [PyData.depthAll]
    omega
  · have h1 := h.wei
    have h2 := t.wei
    simp only [PyData.weightAll]
    omega
theorem ShwL.tup {ds : List D} {ps : List PyData} {n m w : Nat} (t : ShwL ds ps n w) (h : n + 1 ≤ m) : Shw (.tup ds) (.tuple ps) m w := by
  refine ⟨.tup t.dp, ?_, ?_, ?_, ?_, ?_⟩
  · simp only [PyData.canLay0]; exact t.lay
  · simp only [PyData.showable]; exact t.sho
  · simp only [PyData.leavesShort]; exact t.lea
  · simp only [PyData.depth]
    have := t.dep
    omega
  · simp only [PyData.weight]; exact t.wei
theorem Shw.str {x : Str} (n : Nat) (h : nmB x = true) : Shw (.str x) (.str x) n 8 := by
  refine ⟨.str x, by simp only [PyData.canLay0]; exact nm_strOk h, by simp [PyData.showable], ?_, by simp [PyData.depth], by simp only [PyData.weight]; exact (nm_len8 h).2⟩
  simp only [PyData.leavesShort]
  refine List.all_eq_true.2 fun c hc => ?_
  have h1 := nm_strOk h
  unfold PyData.strOk at h1
  rw [← Array.all_toList, List.all_eq_true] at h1
  have h2 := of_decide_eq_true (h1 c hc)
  refine decide_eq_true ?_
  have : (16 : Nat) ^ 8 = 4294967296 := by decide
  omega
theorem Shw.int {k : Nat} (n : Nat) (h : k ≤ 1000) : Shw (.int (k : Int)) (.int (k : Int)) n 10 := by
  have lg := Nat.log2_le_self (k : Int).natAbs
  have hk : k.log2 ≤ 9 := by
    rcases Nat.eq_zero_or_pos k with h0 | h0
    · rw [h0]; decide
    · have := (Nat.log2_lt (k := 10) (by omega)).2 (show k < 2 ^ 10 by have : (2 : Nat) ^ 10 = 1024 := by decide
                                                                       omega)
      omega
  refine ⟨.int _, by simp [PyData.canLay0], ?_, ?_, by simp [PyData.depth], ?_⟩
  · simp only [PyData.showable]
    exact decide_eq_true (by omega)
  · simp only [PyData.leavesShort]
    refine decide_eq_true ?_
    have := numL_four h
    have e : (PyData.int (k : Int)).shown = nuS k := by
      rw [PyData.shown]
      rfl
    rw [e, nuS_len]
    omega
  · simp only [PyData.weight]
    split
    · omega
    · rw [Int.natAbs_natCast]
      omega
theorem shw_names {n : Nat} : ∀ {as : List Str}, (∀ x ∈ as, nmB x = true) → ShwL (as.map D.str) (as.map PyData.str) n (9 * as.length)
  | [], _ => .nil
  | a :: as, h => by
    refine .cons (Shw.str n (h a (by simp))) (shw_names fun x hx => h x (by simp [hx])) ?_
    rw [List.length_cons]
    omega
theorem shw_pairs {n : Nat} (hn : 1 ≤ n) : ∀ {ps : List (Str × Str)}, (∀ p ∈ ps, nmB p.1 = true ∧ nmB p.2 = true) → ShwL (ps.map rpT) (ps.map pairP) n (19 * ps.length)
  | [], _ => .nil
  | p :: ps, h => by
    have hp := h p (by simp)
    refine .cons (a := 18) (ShwL.tup (n := 0) (.cons (b := 9) (Shw.str 0 hp.1) (.cons (b := 0) (Shw.str 0 hp.2) .nil (by omega)) (by omega)) (by omega)) (shw_pairs hn fun x hx => h x (by simp [hx])) ?_
    rw [List.length_cons]
    omega
theorem sev_nm : ∀ x ∈ sevens, nmB x = true := by decide +kernel
theorem shw_rc : ∀ r : Rcp, okR r → Shw (rcD r) (rcP r) (htR r + 2) (2000 * (wdsR r).length) := by
  have sv : ∀ (x : Str) (n : Nat), x ∈ sevens → Shw (.str x) (.str x) n 8 := fun x n h => Shw.str n (sev_nm x h)
  intro r
  induction r with
  | stop =>
    intro _
    exact ShwL.tup (n := 0) (.cons (b := 0) (sv _ 0 (by simp [sevens])) .nil (by simp [wdsR])) (by simp [htR])
  | part x =>
    intro h
    exact ShwL.tup (n := 0) (.cons (b := 9) (sv _ 0 (by simp [sevens])) (.cons (b := 0) (Shw.str 0 h.1) .nil (by omega)) (by simp [wdsR])) (by simp [htR])
  | ahead a r ih =>
    intro h
    have i := ih h.2
    refine ShwL.tup (n := htR r + 2) (.cons (b := 2000 * (wdsR r).length + 10) (sv _ _ (by simp [sevens])) (.cons (b := 2000 * (wdsR r).length + 1) (Shw.str _ h.1) (.cons (b := 0) i .nil (by omega)) (by omega)) ?_) (by simp only [htR]; omega)
    simp only [wdsR, List.length_cons]
    omega
  | toss a k l r s ih1 ih2 =>
    intro h
    obtain ⟨o1, o2, o3, o4, o5⟩ := h
    have i1 := ih1 o4
    have i2 := ih2 o5
    have up : ∀ {d p n m w}, Shw d p n w → n ≤ m → Shw d p m w := fun q hm => ⟨q.dp, q.lay, q.sho, q.lea, Nat.le_trans q.dep hm, q.wei⟩
    refine ShwL.tup (n := max (htR r) (htR s) + 2) (.cons (b := 2000 * (wdsR r).length + 2000 * (wdsR s).length + 40) (sv _ _ (by simp [sevens])) (.cons (b := 2000 * (wdsR r).length + 2000 * (wdsR s).length + 30) (Shw.str _ o1) (.cons (a := 22) (b := 2000 * (wdsR r).length + 2000 * (wdsR s).length + 2) (ShwL.tup (n := 0) (.cons (b := 11) (Shw.int 0 o2.2) (.cons (b := 0) (Shw.int 0 o3.2) .nil (by omega)) (by omega)) (by omega)) (.cons (b := 2000 * (wdsR s).length + 1) (up i1 (by omega)) (.cons (b := 0) (up i2 (by omega)) .nil (by omega)) (by omega)) (by omega)) (by omega)) ?_) (by simp only [htR]; omega)
    simp only [wdsR, List.length_cons, List.length_append]
    omega
  | beside as r s ih1 ih2 =>
    intro h
    have i1 := ih1 h.2.1
    have i2 := ih2 h.2.2
    have hl := h.1.ln
    have up : ∀ {d p n m w}, Shw d p n w → n ≤ m → Shw d p m w := fun q hm => ⟨q.dp, q.lay, q.sho, q.lea, Nat.le_trans q.dep hm, q.wei⟩
    refine ShwL.tup (n := max (htR r) (htR s) + 2) (.cons (b := 2000 * (wdsR r).length + 2000 * (wdsR s).length + 1000) (sv _ _ (by simp [sevens])) (.cons (a := 9 * as.length) (b := 2000 * (wdsR r).length + 2000 * (wdsR s).length + 2) (ShwL.tup (n := 0) (shw_names h.1.nm) (by omega)) (.cons (b := 2000 * (wdsR s).length + 1) (up i1 (by omega)) (.cons (b := 0) (up i2 (by omega)) .nil (by omega)) (by omega)) (by omega)) ?_) (by simp only [htR]; omega)
    simp only [wdsR, List.length_cons, List.length_append]
    omega
  | only as r ih =>
    intro h
    have i := ih h.2
    have hl := h.1.ln
    refine ShwL.tup (n := htR r + 2) (.cons (b := 2000 * (wdsR r).length + 1000) (sv _ _ (by simp [sevens])) (.cons (a := 9 * as.length) (b := 2000 * (wdsR r).length + 1) (ShwL.tup (n := 0) (shw_names h.1.nm) (by omega)) (.cons (b := 0) i .nil (by omega)) (by omega)) ?_) (by simp only [htR]; omega)
    simp only [wdsR, List.length_cons]
    omega
  | rename ps r ih =>
    intro h
    have i := ih h.2
    have hl := h.1.ln
    refine ShwL.tup (n := htR r + 2) (.cons (b := 2000 * (wdsR r).length + 1910) (sv _ _ (by simp [sevens])) (.cons (a := 19 * ps.length) (b := 2000 * (wdsR r).length + 1) (ShwL.tup (n := 1) (shw_pairs (by omega) h.1.nm) (by omega)) (.cons (b := 0) i .nil (by omega)) (by omega)) ?_) (by simp only [htR]; omega)
    simp only [wdsR, List.length_cons]
    omega
theorem rc_show {r : Rcp} (h : okR r) (hl : (wdsR r).length ≤ 30) : ShowOk (rcP r) := by
  have s := shw_rc r h
  have hh := ht_le r
  refine show_of (B := 8) ?_ s.sho (by have := s.dep; omega) s.lea (by decide) (by have := s.wei; omega)
  cases r <;> exact ⟨_, .inr rfl⟩
theorem rc_shaped {r : Rcp} (h : okR r) (hl : (wdsR r).length ≤ 30) : SeqAt.shaped (rcP r) = true := by
  have s := shw_rc r h
  have hh := ht_le r
  unfold SeqAt.shaped
  rw [s.lay, decide_eq_true (by have := s.dep; omega)]
  rfl
theorem eqv_tc (p q : PyData) (ps qs : List PyData) : PyData.eqv (.tuple (p :: ps)) (.tuple (q :: qs)) = (PyData.eqv p q && PyData.eqv (.tuple ps) (.tuple qs)) := rfl
theorem eqv_str9 (x y : Str) : PyData.eqv (.str x) (.str y) = decide (x = y) := rfl
theorem eqv_nat9 (x y : Nat) : PyData.eqv (.int (x : Int)) (.int (y : Int)) = decide (x = y) := by
  show ((x : Int) == (y : Int)) = _
  by_cases h : x = y
  · rw [h, decide_eq_true rfl]
    exact beq_self_eq_true _
  · rw [decide_eq_false h]
    exact beq_eq_false_iff_ne.2 fun e => h (by omega)
theorem eqv_map {β : Type} {enc : β → PyData} (h : ∀ a b, PyData.eqv (enc a) (enc b) = true → a = b) : ∀ as bs : List β, PyData.eqv (.tuple (as.map enc)) (.tuple (bs.map enc)) = true → as = bs
  | [], [], _ => rfl
  | [], b :: bs, k => by cases k
  | a :: as, [], k => by cases k
  | a :: as, b :: bs, k => by
    rw [List.map_cons, List.map_cons, eqv_tc, Bool.and_eq_true] at k
    rw [h a b k.1, eqv_map h as bs k.2]
theorem eqv_pairP (p q : Str × Str) (h : PyData.eqv (pairP p) (pairP q) = true) : p = q := by
  unfold pairP at h
  rw [eqv_tc, eqv_tc, eqv_str9, eqv_str9, Bool.and_eq_true, Bool.and_eq_true] at h
  exact Prod.ext (of_decide_eq_true h.1) (of_decide_eq_true h.2.1)
theorem eqv_sgP (as bs : List Str) (h : PyData.eqv (sgP as) (sgP bs) = true) : as = bs :=
  eqv_map (fun a b k => of_decide_eq_true (by rw [eqv_str9] at k; exact k)) as bs h
def bhP : Rcp → List PyData
  | .stop => []
  | .part x => [.str x]
  | .ahead a r => [.str a, rcP r]
  | .toss a k l r s => [.str a, .tuple [.int (k : Int), .int (l : Int)], rcP r, rcP s]
  | .beside as r s => [sgP as, rcP r, rcP s]
  | .only as r => [sgP as, rcP r]
  | .rename ps r => [.tuple (ps.map pairP), rcP r]
theorem rcP_eq (r : Rcp) : rcP r = .tuple (.str (kdR r) :: bhP r) := by cases r <;> rfl
theorem eqv_rc : ∀ r s : Rcp, PyData.eqv (rcP r) (rcP s) = true → r = s := by
  have hk : ∀ {r s : Rcp}, PyData.eqv (rcP r) (rcP s) = true → kdR r = kdR s ∧ PyData.eqv (.tuple (bhP r)) (.tuple (bhP s)) = true := fun {r s} h => by
    rw [rcP_eq, rcP_eq, eqv_tc, eqv_str9, Bool.and_eq_true] at h
    exact ⟨of_decide_eq_true h.1, h.2⟩
  intro r
  induction r with
  | stop =>
    intro s h
    have k := (hk h).1
    cases s with
    | stop => rfl
    | _ => exact absurd k (by simp only [kdR]; decide)
  | part x =>
    intro s h
    have k := hk h
    cases s with
    | part y =>
      have k := k.2
      simp only [bhP] at k
      rw [eqv_tc, eqv_str9, Bool.and_eq_true] at k
      rw [of_decide_eq_true k.1]
    | _ => exact absurd k.1 (by simp only [kdR]; decide)
  | ahead a r ih =>
    intro s h
    have k := hk h
    cases s with
    | ahead b s =>
      have k := k.2
      simp only [bhP] at k
      rw [eqv_tc, eqv_tc, eqv_str9, Bool.and_eq_true, Bool.and_eq_true] at k
      rw [of_decide_eq_true k.1, ih s k.2.1]
    | _ => exact absurd k.1 (by simp only [kdR]; decide)
  | toss a m l r q ih1 ih2 =>
    intro s h
    have k := hk h
    cases s with
    | toss b m' l' r' q' =>
      have k := k.2
      simp only [bhP] at k
      rw [eqv_tc, eqv_tc, eqv_tc, eqv_tc, eqv_tc, eqv_tc, eqv_str9, eqv_nat9, eqv_nat9] at k
      simp only [Bool.and_eq_true, decide_eq_true_eq] at k
      rw [k.1, k.2.1.1, k.2.1.2.1, ih1 r' k.2.2.1, ih2 q' k.2.2.2.1]
    | _ => exact absurd k.1 (by simp only [kdR]; decide)
  | beside as r q ih1 ih2 =>
    intro s h
    have k := hk h
    cases s with
    | beside os r' q' =>
      have k := k.2
      simp only [bhP] at k
      rw [eqv_tc, eqv_tc, eqv_tc] at k
      simp only [Bool.and_eq_true] at k
      rw [eqv_sgP _ _ k.1, ih1 r' k.2.1, ih2 q' k.2.2.1]
    | _ => exact absurd k.1 (by simp only [kdR]; decide)
  | only as r ih =>
    intro s h
    have k := hk h
    cases s with
    | only os s =>
      have k := k.2
      simp only [bhP] at k
      rw [eqv_tc, eqv_tc] at k
      simp only [Bool.and_eq_true] at k
      rw [eqv_sgP _ _ k.1, ih s k.2.1]
    | _ => exact absurd k.1 (by simp only [kdR]; decide)
  | rename ps r ih =>
    intro s h
    have k := hk h
    cases s with
    | rename qs s =>
      have k := k.2
      simp only [bhP] at k
      rw [eqv_tc, eqv_tc] at k
      simp only [Bool.and_eq_true] at k
      rw [eqv_map eqv_pairP _ _ k.1, ih s k.2.1]
    | _ => exact absurd k.1 (by simp only [kdR]; decide)
theorem rc_alike {r s : Rcp} (hr : okR r) (hs : okR s) : (decide (Txt.join " " (wdsR r) = Txt.join " " (wdsR s)) == PyData.eqv (rcP r) (rcP s)) = true := by
  by_cases h : Txt.join " " (wdsR r) = Txt.join " " (wdsR s)
  · have e := txt_inj hr hs h
    subst e
    rw [decide_eq_true rfl, PySem.SeqAt.eqv_refl _ (shw_rc r hr).lay]
    rfl
  · rw [decide_eq_false h]
    cases e : PyData.eqv (rcP r) (rcP s) with
    | false => rfl
    | true => exact absurd (by rw [eqv_rc r s e]) h
def txR (r : Rcp) : Str := Txt.join " " (wdsR r)
def c_Lright72 (T : Cfg) : Ct := fun ds μ P _ => ∃ (a : Addr) (b : Nat), ds = [.ptr a] ∧ μ = put mu0 a (.well b) ∧ 1000000 ≤ b ∧ ∀ μ', P (.bl true) μ'
theorem len_Lright72 {T : Cfg} : ∀ ds μ P XP, c_Lright72 T ds μ P XP → ds.length = 1 := by
  rintro ds μ P XP ⟨a, b, rfl, _⟩; rfl
def t_Lright72 (T : Cfg) (E : XK) : TS := (tSeq (tAsg (tLst tNil) (gName 1))
    (tSeq (tAsg (tLst tNil) (gName 2))
    (tSeq (tFor (iRng1 (tCons (tC (.int 2)) tNil)) (gName 3) (tSeq (tAsg (tCall (spOf T (wl (c_Lrecipe T 31))) [] E0 (tCons (tVar 0) (tCons (tCall (spOf T (wl (c_Lone T))) [] E0 (tCons (tVar 0) (tCons (tLst (tCons (tC (.int 30)) (tCons (tC (.int 30)) (tCons (tC (.int 12)) (tCons (tOp (rI0 fun i j => .int (i + j)) (tC (.int 1)) (tCall (spOf T (wl (c_Ldraw T))) [] E0 (tCons (tVar 0) (tCons (tC (.int 30)) tNil)))) tNil))))) tNil))) tNil))) (gName 4))
    (tSeq (tAsg (tJoinS T.K (tC (.str " ")) (tCall (spOf T (pu (c_Lwords72 T 31))) [] E0 (tCons (tVar 4) tNil))) (gName 5))
    (tSeq (tAsg (tCB (rReprD T.K) (tCons (tVar 4) tNil)) (gName 6))
    (tSeq (tFor (iRng1 (tCons (tC (.int 2)) tNil)) (gName 7) (tSeq (tAsg (tCall (spOf T (pu (c_read_recipe T))) [] E0 (tCons (tVar 5) tNil)) (gName 8))
    (tSeq (tIfS (tOr (tTest (tOp rNe (tCall (spOf T (pu (c_show_recipe T))) [] E0 (tCons (tVar 4) tNil)) (tVar 5))) (tOr (tTest (tOp rNe (tCB (rReprD T.K) (tCons (tVar 8) tNil)) (tVar 6))) (tTest (tOp rNe (tCall (spOf T (pu (c_show_recipe T))) [] E0 (tCons (tVar 8) tNil)) (tVar 5))))) (tRet (tC (.bl false))) tNext)
    (tSeq (tAsg (tCall (spOf T (nw (c_parts_of T))) [] E0 (tCons (tVar 4) tNil)) (gName 9))
    (tSeq (tIfS (tOr (tTest (tOp (rNeD T.K) (tVar 9) (tSortSetT T.K (tCall (spOf T (pu (c_Lnames72 T 31))) [] E0 (tCons (tVar 4) tNil))))) (tNot (tB (tCB (rIsi T.K) (tCons (tVar 9) (tCons (tC (.ty "list")) tNil)))))) (tRet (tC (.bl false))) tNext)
    (tDrop (tBM T.K "list" rAppend (tVar 9) (tCons (tC (.str "stop")) tNil))))))))
    (tSeq (tIfS (tOr (tTest (tOp rNe (tCB (rReprD T.K) (tCons (tVar 4) tNil)) (tVar 6))) (tTest (tOp (rI0 fun i j => .bl (decide (j < i))) (tCB (Pw.rLen T.K) (tCons (tSplitS (tVar 5) (tC (.str " "))) tNil)) (tC (.int 30))))) (tRet (tC (.bl false))) tNext)
    (tSeq (tDrop (tBM T.K "list" rAppend (tVar 1) (tCons (tVar 5) tNil)))
    (tDrop (tBM T.K "list" rAppend (tVar 2) (tCons (tVar 4) tNil))))))))))
    (tRet (tOp rEq (tOp rEq (tOp (rIxL T.K) (tVar 1) (tC (.int 0))) (tOp (rIxL T.K) (tVar 1) (tC (.int 1)))) (tOp (rEqD T.K) (tOp (rIxL T.K) (tVar 2) (tC (.int 0))) (tOp (rIxL T.K) (tVar 2) (tC (.int 1)))))))))
theorem wds_len : ∀ r : Rcp, okR r → ∀ w ∈ wdsR r, w.length ≤ 2000 := by
  have sv : ∀ x ∈ sevens, x.length ≤ 2000 := by decide +kernel
  have nu : ∀ k, k ≤ 1000 → (nuS k).length ≤ 2000 := fun k h => by
    rw [nuS_len]
    have := numL_four h
    omega
  have nm : ∀ {x : Str}, nmB x = true → x.length ≤ 2000 := fun h => by
    have := nm_len8 h
    omega
  intro r
  induction r with
  | stop => intro _ w hw; simp only [wdsR, List.mem_singleton] at hw; subst hw; exact sv _ (by simp [sevens])
  | part x => intro h w hw; simp only [wdsR, List.mem_singleton] at hw; subst hw; exact nm h.1
  | ahead a r ih =>
    intro h w hw
    simp only [wdsR, List.mem_cons] at hw
    rcases hw with rfl | rfl | hw
    · exact sv _ (by simp [sevens])
    · exact nm h.1
    · exact ih h.2 w hw
  | toss a k l r s ih1 ih2 =>
    intro h w hw
    simp only [wdsR, List.mem_cons, List.mem_append] at hw
    rcases hw with rfl | rfl | rfl | rfl | hw | hw
    · exact sv _ (by simp [sevens])
    · exact nm h.1
    · exact nu k h.2.1.2
    · exact nu l h.2.2.1.2
    · exact ih1 h.2.2.2.1 w hw
    · exact ih2 h.2.2.2.2 w hw
  | beside as r s ih1 ih2 =>
    intro h w hw
    simp only [wdsR, List.mem_cons, List.mem_append] at hw
    rcases hw with rfl | rfl | hw | hw
    · exact sv _ (by simp [sevens])
    · have := sg_len h.1
      omega
    · exact ih1 h.2.1 w hw
    · exact ih2 h.2.2 w hw
  | only as r ih =>
    intro h w hw
    simp only [wdsR, List.mem_cons] at hw
    rcases hw with rfl | rfl | hw
    · exact sv _ (by simp [sevens])
    · have := sg_len h.1
      omega
    · exact ih h.2 w hw
  | rename ps r ih =>
    intro h w hw
    simp only [wdsR, List.mem_cons] at hw
    rcases hw with rfl | rfl | hw
    · exact sv _ (by simp [sevens])
    · exact pr_len h.1
    · exact ih h.2 w hw
theorem wds_fit {r : Rcp} (h : okR r) (hl : (wdsR r).length ≤ 30) : ((wdsR r).map (·.length)).sum + (wdsR r).length * (" " : Str).length ≤ 16777216 ∧ (txR r).length ≤ 100000 := by
  have h1 := sum_b9 (wds_len r h)
  have h2 : (wdsR r).length * 2000 ≤ 30 * 2000 := Nat.mul_le_mul_right _ hl
  have h3 : (" " : Str).length = 1 := by decide
  refine ⟨by rw [h3]; omega, ?_⟩
  have h0 := StrLaws.join_length_le " " (wdsR r)
  unfold txR
  rw [TL.join_eq]
  rw [h3] at h0
  omega
theorem put_ne9 {μ : Mu} {a c : Addr} {z : MO} {o : Option MO} (hc : μ c = o) (h : c ≠ a) : put μ a z c = o := by
  unfold put
  rw [if_neg h]
  exact hc
theorem nms_nm : ∀ r : Rcp, okR r → ∀ x ∈ nmsR r, nmB x = true := by
  intro r
  induction r with
  | stop => intro _ x hx; simp [nmsR] at hx
  | part y => intro h x hx; simp only [nmsR, List.mem_singleton] at hx; subst hx; exact h.1
  | ahead a r ih => intro h x hx; exact ih h.2 x hx
  | toss a k l r s ih1 ih2 => intro h x hx; rcases List.mem_append.1 hx with hx | hx; exact ih1 h.2.2.2.1 x hx; exact ih2 h.2.2.2.2 x hx
  | beside as r s ih1 ih2 => intro h x hx; rcases List.mem_append.1 hx with hx | hx; exact ih1 h.2.1 x hx; exact ih2 h.2.2 x hx
  | only as r ih => intro h x hx; exact ih h.2 x hx
  | rename ps r ih => intro h x hx; exact ih h.2 x hx
theorem txt_anti9 {x y : Str} (h : TxtLe x y) (k : TxtLe y x) : x = y := by
  unfold TxtLe at h k
  have e : PySem.W.dataLe false PyData.str = fun a b : Str => decide (a.cps.toList ≤ b.cps.toList) := PySem.W.dataLe_str fun z => z
  rw [e] at h k
  have := List.le_antisymm (of_decide_eq_true h) (of_decide_eq_true k)
  cases x
  cases y
  congr 1
  exact Array.ext' this
theorem srt_one9 {L M : List Str} (h1 : L.Nodup) (h2 : M.Nodup) (s1 : L.Pairwise TxtLe) (s2 : M.Pairwise TxtLe) (h : ∀ k, k ∈ L ↔ k ∈ M) : L = M :=
  List.Perm.eq_of_pairwise (le := TxtLe) (fun a b _ _ h1 h2 => txt_anti9 h1 h2) s1 s2 ((List.perm_ext_iff_of_nodup h1 h2).2 h)
theorem pure_Lright72 {T : Cfg} (hG : RdOk T) : ∀ E ds μ P XP, c_Lright72 T ds μ P XP → SV T (t_Lright72 T E) (fun cls dd _ H => E cls dd H) ⟨slots 10 ds, μ⟩ (fnK P XP) := Hd.o (by
 simp (disch :=
 with_unfolding_all
 exact by
  rintro E ds μ P XP ⟨a, b, rfl, rfl, hb, p⟩
  have hS := hG.sh
  unfold t_Lright72
  refine sv_seq (sv_asg (ev_lstM (ea_nil ⟨by simp, fun q1 hq1 => ?_⟩)))
  refine seqK_nx (sv_seq (sv_asg (ev_lstM (ea_nil ⟨by simp, fun q2 hq2 => ?_⟩))))
  have n1 : q1 ≠ a := fun e => by rw [e, put_same] at hq1; cases hq1
  have n2 : q2 ≠ q1 := fun e => by rw [e, put_same] at hq2; cases hq2
  have n3 : q2 ≠ a := fun e => by
    rw [e] at hq2
    have : put (put mu0 a (.well b)) q1 (MO.lst []) a = some (.well b) := put_ne9 put_same n1.symm
    rw [this] at hq2
    cases hq2
  refine seqK_nx (sv_seq (sv_forX (X := List Rcp × Nat) (fun _ _ => [some (.ptr a), some (.ptr q1), some (.ptr q2), none, none, none, none, none, none, none]) (fun k x μ => (x.1.length = k ∧ (∀ r ∈ x.1, okR r ∧ (wdsR r).length ≤ 30) ∧ 1000000 ≤ x.2 + 5000 * k) ∧ μ a = some (.well x.2) ∧ μ q1 = some (.lst (x.1.map fun r => .str (txR r))) ∧ μ q2 = some (.lst (x.1.map rcD))) (iv_rng1 (ea_cons (ev_int (ea_nil ⟨2, rfl, by decide, by decide, ([], b), ?_, ?_, fun k x μ hk hJ => ?_, fun s' x hr hJ => ?_⟩))))))
  · walk_at "le"
  · exact ⟨⟨rfl, by simp, by simpa using hb⟩, put_ne9 (put_ne9 put_same n1.symm) n3.symm, put_ne9 put_same n2.symm, put_same⟩
  · obtain ⟨⟨h1, h2, h3⟩, ma, m1, m2⟩ := hJ
    have hk : k < 2 := hk
    refine sv_seq (sv_asg ?_)
    walk_at "pks"
    refine ⟨a, x.2, _, μ, rfl, (put_self9 ma).symm, draw_i (by omega) (by decide) (bt4 (by decide)) fun v v0 v1 => ?_⟩
    walk_at "pks"
    refine ⟨a, x.2 - 1, _, μ, rfl, rfl, one_i (by omega) (by simp) (by simp) fun e he => ?_⟩
    have hm : ∃ t : Nat, e = .int (t : Int) ∧ 1 ≤ t ∧ t ≤ 30 := by
      simp only [List.mem_cons, List.not_mem_nil, or_false] at he
      rcases he with rfl | rfl | rfl | rfl
      · exact ⟨30, rfl, by decide, by decide⟩
      · exact ⟨30, rfl, by decide, by decide⟩
      · exact ⟨12, rfl, by decide, by decide⟩
      · exact ⟨(1 + v).toNat, by rw [Int.toNat_of_nonneg (by omega)], by omega, by omega⟩
    obtain ⟨t, rfl, t1, t30⟩ := hm
    walk_at "pks"
    refine ⟨a, _, _, μ, rfl, rfl, t, rfl, t1, by omega, t30, by omega, fun r b' hr hlt hb' => ?_⟩
    have hl : (wdsR r).length ≤ 30 := by omega
    have hh : htR r ≤ 31 := by have := ht_le r; omega
    have hw := wds_fit hr hl
    have ma : (put μ a (MO.well b')) a = some (.well b') := put_same
    have m1 : (put μ a (MO.well b')) q1 = some (.lst (x.1.map fun r => .str (txR r))) := put_ne9 m1 n1
    have m2 : (put μ a (MO.well b')) q2 = some (.lst (x.1.map rcD)) := put_ne9 m2 n3
    dsimp only
    generalize put μ a (MO.well b') = μ1 at *
    refine seqK_nx (sv_seq (sv_asg (ev_joinS (ev_str ⟨_, rfl, ev_Lw hr hh (by omega) (fun q => ev_var rfl q) ⟨wdsR r, .inl rfl, hw.1, ?_⟩⟩))))
    refine seqK_nx (sv_seq (sv_asg (ev_cb (ea_cons (ev_var rfl (ea_nil (cv_repr (shw_rc r hr).dp (rc_show hr hl) ?_)))))))
    refine seqK_nx (sv_seq (sv_forX (X := Unit) (fun _ _ => [some (.ptr a), some (.ptr q1), some (.ptr q2), none, some (rcD r), some (.str (txR r)), some (.str (rcP r).shown), none, none, none]) (fun _ _ μ => μ a = some (.well b') ∧ μ q1 = some (.lst (x.1.map fun r => .str (txR r))) ∧ μ q2 = some (.lst (x.1.map rcD))) (iv_rng1 (ea_cons (ev_int (ea_nil ⟨2, rfl, by decide, by decide, (), ?_, ⟨ma, m1, m2⟩, fun j _ μ2 hj hJ => ?_, fun s' _ hr' hJ => ?_⟩))))))
    · walk_at "le"
    · obtain ⟨ma, m1, m2⟩ := hJ
      refine sv_seq (sv_asg (ev_cal0 (ea_cons (ev_var rfl (ea_nil ⟨txR r, r, rfl, hw.2, wds_split hr, hr, hl, ?_⟩)))))
      refine seqK_nx (sv_seq (sv_if (tv_or (tv_test (ev_op (ev_cal0 (ea_cons (ev_var rfl (ea_nil ⟨r, rfl, hr, hh, by omega, hw.1, ev_var rfl (ov_neS ⟨_, rfl, fun _ => ?_, fun h => ?_⟩)⟩)))))))))
      rotate_left
      · exact absurd h (by simp [txR])
      refine tv_or (tv_test (ev_op (ev_cb (ea_cons (ev_var rfl (ea_nil (cv_repr (shw_rc r hr).dp (rc_show hr hl) (ev_var rfl (ov_neS ⟨_, rfl, fun _ => ?_, fun h => ?_⟩)))))))))
      rotate_left
      · exact absurd h (by simp)
      refine tv_test (ev_op (ev_cal0 (ea_cons (ev_var rfl (ea_nil ⟨r, rfl, hr, hh, by omega, hw.1, ev_var rfl (ov_neS ⟨_, rfl, fun h => ?_, fun _ => ?_⟩)⟩)))))
      · exact absurd h (by simp [txR])
      refine sv_next (seqK_nx (sv_seq (sv_asg (ev_calO (ea_cons (ev_var rfl (ea_nil ⟨r, rfl, hh, by omega, fun L nd mem so q hq => ?_⟩)))))))
      have hln := nms_le r
      have hLs : ∀ x ∈ L, PyData.strOk x = true := fun x hx => nm_strOk (nms_nm r hr x ((mem x).1 hx))
      have hLl : L.length ≤ 1000 := Nat.le_trans (nd.length_le_of_subset fun x hx => (mem x).1 hx) (by omega)
      obtain ⟨d1, d2, d3⟩ := strsO hLs
      have lay : PyData.canLay0 (.list (L.map PyData.str)) = true := by unfold PyData.canLay0; exact d2
      have shp : SeqAt.shaped (.list (L.map PyData.str)) = true := by
        unfold SeqAt.shaped
        rw [lay, decide_eq_true (by rw [PyData.depth, d3]; decide)]
        rfl
      refine seqK_nx (sv_seq (sv_if (tv_or (tv_test (ev_op (ev_var rfl (ev_sortSetT (ev_cal0 (ea_cons (ev_var rfl (ea_nil ⟨r, rfl, hh, by omega, nmsR r, .inl rfl, by omega, fun L2 nd2 mem2 so2 => ?_⟩)))))))))))
      have eL : L2 = L := srt_one9 nd2 nd so2 so fun k => (mem2 k).trans (mem k).symm
      subst eL
      refine ov_neDM put_same d1 (.lst d1) shp shp ?_
      rw [PySem.SeqAt.eqv_refl _ lay]
      refine ⟨_, rfl, fun _ => ?_, fun h => (nomatch h)⟩
      refine tv_not (tv_B (ev_cb (ea_cons (ev_var rfl (ea_cons (ev_ty (ea_nil (cv_isiM (b := true) put_same (kit_ty (kit_tab "list" (by simp [tags]) "list" (by simp [tys]))) ⟨_, rfl, fun h => (nomatch h), fun _ => ?_⟩))))))))
      have na : a ≠ q := fun e => by rw [e, hq] at ma; cases ma
      have nb : q1 ≠ q := fun e => by rw [e, hq] at m1; cases m1
      have nc : q2 ≠ q := fun e => by rw [e, hq] at m2; cases m2
      refine sv_next (seqK_nx (sv_app (ev_var rfl ⟨q, _, rfl, put_same, ev_str ⟨_, put_same, by rw [List.length_map]; omega, ?_⟩⟩)))
      exact ⟨(), by walk_at "le", put_ne9 (put_ne9 ma na) na, put_ne9 (put_ne9 m1 nb) nb, put_ne9 (put_ne9 m2 nc) nc⟩
    · obtain ⟨rho, m⟩ := s'
      obtain ⟨ma, m1, m2⟩ := hJ
      dsimp only at hr' ma m1 m2
      have hsl : sizeLine = 16777216 := by decide
      have hx : x.1.length ≤ 2 := by omega
      refine seqK_nx (sv_wk hr' sub_refl ?_)
      refine sv_seq (sv_if (tv_or (tv_test (ev_op (ev_cb (ea_cons (ev_var rfl (ea_nil (cv_repr (shw_rc r hr).dp (rc_show hr hl) (ev_var rfl (ov_neS ⟨_, rfl, fun _ => ?_, fun h => ?_⟩)))))))))))
      rotate_left
      · exact absurd h (by simp)
      refine tv_test (ev_op (ev_cb (ea_cons (ev_split (ev_var rfl ⟨txR r, rfl, ev_str ⟨_, rfl, by decide, by omega, ea_nil (cv_len (.inl rfl) (ev_int (ov_gt ⟨_, rfl, fun h => ?_, fun _ => ?_⟩)))⟩⟩)))))
      · have h := of_decide_eq_true h
        rw [List.length_map, show Txt.split (txR r) " " = wdsR r from wds_split hr] at h
        omega
      refine sv_next (seqK_nx (sv_seq (sv_app (ev_var rfl ⟨q1, _, rfl, m1, ev_var rfl ⟨_, m1, by rw [List.length_map]; omega, ?_⟩⟩))))
      have m2' : (put m q1 (MO.lst ((x.1.map fun r => D.str (txR r)) ++ [D.str (txR r)]))) q2 = some (.lst (x.1.map rcD)) := put_ne9 m2 n2
      refine seqK_nx (sv_app (ev_var rfl ⟨q2, _, rfl, m2', ev_var rfl ⟨_, m2', by rw [List.length_map]; omega, ?_⟩⟩))
      refine ⟨(x.1 ++ [r], b'), by walk_at "le", ⟨by simp [h1], fun s hs => ?_, ?_⟩, put_ne9 (put_ne9 ma n1.symm) n3.symm, ?_, ?_⟩
      · rcases List.mem_append.1 hs with hs | hs
        · exact h2 s hs
        · rw [List.mem_singleton] at hs
          subst hs
          exact ⟨hr, hl⟩
      · dsimp only
        omega
      · refine put_ne9 ?_ n2.symm
        rw [put_same]
        simp
      · show put _ q2 _ q2 = _
        rw [put_same]
        simp
  · obtain ⟨rho, m⟩ := s'
    obtain ⟨⟨h1, h2, h3⟩, ma, m1, m2⟩ := hJ
    dsimp only at hr h1 ma m1 m2
    obtain ⟨xs, b'⟩ := x
    have h1 : xs.length = 2 := h1
    match xs, h1, h2, m1, m2 with
    | [r, s], _, h2, m1, m2 =>
      have hr1 := h2 r (by simp)
      have hs1 := h2 s (by simp)
      refine seqK_nx (sv_wk hr sub_refl (sv_ret (ev_op (ev_op (ev_op (ev_var rfl (ev_int (ov_ixM m1 (at_nat (k := 0) rfl) (ev_op (ev_var rfl (ev_int (ov_ixM m1 (at_nat (k := 1) rfl) (ov_eqS ?_)))))))))))))
      refine ev_op (ev_op (ev_var rfl (ev_int (ov_ixM m2 (at_nat (k := 0) rfl) (ev_op (ev_var rfl (ev_int (ov_ixM m2 (at_nat (k := 1) rfl) (ov_eqD (shw_rc r hr1.1).dp (shw_rc s hs1.1).dp (rc_shaped hr1.1 hr1.2) (rc_shaped hs1.1 hs1.2) (ov_eqB ?_))))))))))
      have h := eq_of_beq (rc_alike hr1.1 hs1.1)
      rw [decide_eq_true (show decide (txR r = txR s) = _ from h)]
      exact p _
 ) only [↓hE])
def t_law (T : Cfg) (E : XK) : TS := (tSeq (tFor (iList T.K (tOp rCat (tLst (tCons (tC (.int 0)) (tCons (tC (.int 1)) tNil))) (tSl (rSlL T.K) (tVar 0) tNoPart (tPart (tC (.int 8)))))) (gName 1) (tIfS (tNot (tB (tCall (spOf T (c_Lright72 T)) [] E0 (tCons (tCall (spOf T (c_Lwell T)) [] E0 (tCons (tVar 1) tNil)) tNil)))) (tRet (tC (.bl false))) tNext))
    (tRet (tC (.bl true))))
theorem ev_cells72 {T : Cfg} {W : WX} {ρ : List (Option D)} {m0 : Mu} {P : D → Mu → Prop} {XP : XW} {k : Int} {ns : List Int} {ta : TA} (h0 : ρ[0]? = some (some (.seq (ns.map D.int)))) (hl : ns.length ≤ 63)
    (h : EA T ta W ⟨ρ, m0⟩ (fun ds μ => μ = m0 ∧ ds.length ≤ 1000 ∧ (∀ e ∈ ds, ∃ c : Int, e = .int c) ∧ ∀ es, es.length ≤ 2000 → (∀ e ∈ es, ∃ c : Int, e = .int c) → P (.lst es) m0) XP) : EV T (tOp rCat (tLst ta) (tSl (rSlL T.K) (tVar 0) tNoPart (tPart (tC (.int k))))) W ⟨ρ, m0⟩ P XP := by
  refine ev_op (ev_lst ?_)
  intro σ Hb H Q S q x
  refine h σ Hb H Q S (fun ds μ vs Hb' H' g r p => q ds μ vs Hb' H' g r ⟨by omega, ?_⟩) x
  obtain ⟨rfl, p1, p2, p3⟩ := p
  refine ev_slL (ev_var h0 (po_no (po_so (ev_int ⟨k, rfl, ns.map D.int, .inr rfl, ?_⟩))))
  have hc := cut_len (ds := ns.map D.int) (lo := none) (hi := some k)
  rw [List.length_map] at hc
  refine ov_cat (by omega) (p3 _ (by rw [List.length_append]; omega) fun e he => ?_)
  rcases List.mem_append.1 he with h1 | h1
  · exact p2 e h1
  · have := cut_sub e h1
    rw [List.mem_map] at this
    obtain ⟨c, _, rfl⟩ := this
    exact ⟨c, rfl⟩
theorem pure_law {T : Cfg} (hJ : RdOk T) : ∀ E ds μ P XP, c_law T ds μ P XP → SV T (t_law T E) (fun cls dd _ H => E cls dd H) ⟨slots 2 ds, μ⟩ (fnK P XP) := Hd.o (by
 simp (disch :=
 with_unfolding_all
 exact by
  rintro E ds μ P XP ⟨ns, rfl, hl, rfl, hp⟩
  have hS := hJ.sh
  unfold t_law
  refine sv_seq (sv_forR (ev_cells72 rfl hl ?_))
  walk_at "pks"
  refine ⟨rfl, by simp, by simp, fun es _ he => ⟨es, slots 2 [.seq (ns.map D.int)], .inl rfl, leR.refl, fun e hm => ?_, fun s' hs => seqK_res hs ?_⟩⟩
  rotate_left
  · walk_at "pks"
    exact hp _
  obtain ⟨c, rfl⟩ := he e hm
  walk_at "pks"
  refine ev_callM0 (ea_cons ?_)
  walk_at "pks"
  intro a
  walk_at "pks"
  refine ⟨_, sub_refl, a, _, rfl, rfl, by decide, fun μ' => ?_⟩
  walk_at "pks"
  exact ⟨by walk_at "le", trivial⟩
 ) only [↓hE])
end Far
namespace Lw
open PySem PySem.Spec PyProof.Rows L2 Pw Far
def cfgM (K : PySem.W.Frag) : Cfg := { cfg K with cls := fun n => match n with | 0 => He.ga K "Reading" | n => (cfg K).cls n }
theorem sh_ok {K : PySem.W.Frag} {mg : Str → Option Value} (X : Txt K mg) : ShOk (cfgM K) where
  cl := X.cl_Reading
  nt := X.na_Reading_top
  nb := X.na_Reading_bottom
  ic := ⟨X.cl_Reading, X.ia_Reading, X.ig_Reading, X.it_Reading, X.obj_Reading⟩
  kb := fun n hn => by
    simp only [List.mem_cons, List.not_mem_nil, or_false] at hn
    rcases hn with rfl | rfl | rfl | rfl | rfl | rfl | rfl
    · exact ⟨X.nf_Reading_NoneType, X.kit_Reading_NoneType⟩
    · exact ⟨X.nf_Reading_int, X.kit_Reading_int⟩
    · exact ⟨X.nf_Reading_bool, X.kit_Reading_bool⟩
    · exact ⟨X.nf_Reading_str, X.kit_Reading_str⟩
    · exact ⟨X.nf_Reading_list, X.kit_Reading_list⟩
    · exact ⟨X.nf_Reading_tuple, X.kit_Reading_tuple⟩
    · exact ⟨X.nf_Reading_dict, X.kit_Reading_dict⟩
  ko := fun n hn => by
    simp only [tys, List.mem_cons, List.not_mem_nil, or_false] at hn
    rcases hn with rfl | rfl | rfl | rfl | rfl | rfl
    · exact X.tik_Reading_int
    · exact X.tik_Reading_bool
    · exact X.tik_Reading_str
    · exact X.tik_Reading_list
    · exact X.tik_Reading_tuple
    · exact X.tik_Reading_dict
theorem rc_ok {K : PySem.W.Frag} {mg : Str → Option Value} (X : Txt K mg) : RcOk (cfgM K) := ⟨sh_ok X, X.kt_WORDS⟩
theorem rd_ok {K : PySem.W.Frag} {mg : Str → Option Value} (X : Txt K mg) : RdOk (cfgM K) := ⟨rc_ok X, X.cl_Reading, X.na_Reading_words, X.na_Reading_at⟩
section
variable {P : Program} {w : World} {K : PySem.W.Frag} {mg : Str → Option Value} {base : Heap}
theorem b_is_name (X : Txt K mg) : Binds K (fdOf K (He.ga K "is_name")) ["thing"] [] := X.F_is_name.bindsN fun _ _ _ _ _ _ us hl => match us, hl with | [_], _ => rfl
theorem ok_is_name (X : Txt K mg) : FnOk P w K mg base CX0 1 (He.ga K "is_name") (fdOf K (He.ga K "is_name")) ["thing"] (spOf (cfgM K) (pu (c_is_name (cfgM K)))) := by
  refine X.F_is_name.ok sc_is_name (fun vs H Q E h => spOf_len len_is_name h) (fun cdv A outer s H vs Q E hr h => ⟨t_is_name (cfgM K) E, PSs.nox ?_, fn_go (pure_is_name (sh_ok X)) vs H Q E h⟩)
  exact (pss_cons (ps_if (PW.pt (pw_or (pt_not (pt_val (pe_callB call_isi (by rfl) X.f_isinstance (by decide +kernel) (pa_cons (pv 0) (pa_cons (pe_bltn (by rfl) X.f_str (by decide +kernel) rfl) pa_nil))))) (pw_or1 (pt_not (pt_chain op_le op_le pe_int (pe_callB call_len (by rfl) X.f_len (by decide +kernel) (pa_cons (pv 0) pa_nil)) (pe_glob (by rfl) X.k_MOST_LETTERS.choose_spec ⟨_, rfl⟩)))))) (pss_one (ps_ret pe_bl)) pss_nil)
      (pss_one (ps_ret (pe_callB (cr_all rfl) (by rfl) X.f_all (by decide +kernel) (pa_cons (pe_lc (own := [("letter", 1)]) (g := (gName 1)) (tt := tYes) (by rfl) sc_is_name.nd (pi_str (pv 0)) (blkOk_by (own := [("letter", 1)]) (N := ["thing", "letter"]) (sc := defScope s_is_name) (by decide +kernel)) (fun _ _ _ _ _ => (pg_name (i := 1) sc_is_name.nd rfl (by first | exact Or.inl rfl | exact Or.inr rfl))) (fun _ _ _ _ _ => pts_nil) (fun _ _ _ _ _ => (pe_cmpR op_in_sign (pv 1) (pe_glob (by rfl) X.k_LETTERS.choose_spec ⟨_, rfl⟩) rfl))) pa_nil)))))
theorem b_are_unlike9 (X : Txt K mg) : Binds K (fdOf K (He.ga K "are_unlike")) ["things"] [] := X.F_are_unlike9.bindsN fun _ _ _ _ _ _ us hl => match us, hl with | [_], _ => rfl
theorem ok_are_unlike9 (X : Txt K mg) : FnOk P w K mg base CX0 1 (He.ga K "are_unlike") (fdOf K (He.ga K "are_unlike")) ["things"] (spOf (cfgM K) (pu (c_are_unlike9 (cfgM K)))) := by
  refine X.F_are_unlike9.ok sc_are_unlike9 (fun vs H Q E h => spOf_len len_are_unlike9 h) (fun cdv A outer s H vs Q E hr h => ⟨t_are_unlike9 (cfgM K) E, PSs.nox ?_, fn_go (pure_are_unlike9 (sh_ok X)) vs H Q E h⟩)
  exact (pss_one (ps_ret (pe_cmpR op_eq (pe_lenSetT (by rfl) hr.units (by rfl) X.f_len (by rfl) X.f_set (pv 0)) (pe_callB call_len (by rfl) X.f_len (by decide +kernel) (pa_cons (pv 0) pa_nil)) (nomark _))))
theorem b_are_signs9 (X : Txt K mg) : Binds K (fdOf K (He.ga K "are_signs")) ["thing"] [] := X.F_are_signs9.bindsN fun _ _ _ _ _ _ us hl => match us, hl with | [_], _ => rfl
theorem ok_are_signs9 (X : Txt K mg) : FnOk P w K mg base CX0 2 (He.ga K "are_signs") (fdOf K (He.ga K "are_signs")) ["thing"] (spOf (cfgM K) (pu (c_are_signs9 (cfgM K)))) := by
  refine X.F_are_signs9.ok sc_are_signs9 (fun vs H Q E h => spOf_len len_are_signs9 h) (fun cdv A outer s H vs Q E hr h => ⟨t_are_signs9 (cfgM K) E, PSs.nox ?_, fn_go (pure_are_signs9 (sh_ok X)) vs H Q E h⟩)
  exact (pss_one (ps_ret (pe_and (pe_callB call_isi (by rfl) X.f_isinstance (by decide +kernel) (pa_cons (pv 0) (pa_cons (pe_bltn (by rfl) X.f_list (by decide +kernel) rfl) pa_nil))) (pe_and (pe_callB (cr_all rfl) (by rfl) X.f_all (by decide +kernel) (pa_cons (pe_lc (own := [("sign", 1)]) (g := (gName 1)) (tt := tYes) (by rfl) sc_are_signs9.nd (pi_list (pv 0)) (blkOk_by (own := [("sign", 1)]) (N := ["thing", "sign"]) (sc := defScope s_are_signs9) (by decide +kernel)) (fun _ _ _ _ _ => (pg_name (i := 1) sc_are_signs9.nd rfl (by first | exact Or.inl rfl | exact Or.inr rfl))) (fun _ _ _ _ _ => pts_nil) (fun _ _ _ _ _ => (pe_call (ok_is_name X) (hr.mono (by decide)) (by rfl) X.g_is_name X.F_is_name.kp (b_is_name X) .nil pass0 (pa_cons (pv 1) pa_nil)))) pa_nil)) (pe_one (pe_call (ok_are_unlike9 X) (hr.mono (by decide)) (by rfl) X.g_are_unlike9 X.F_are_unlike9.kp (b_are_unlike9 X) .nil pass0 (pa_cons (pv 0) pa_nil)))))))
theorem b_is_pair9 (X : Txt K mg) : Binds K (fdOf K (He.ga K "is_pair")) ["thing"] [] := X.F_is_pair9.bindsN fun _ _ _ _ _ _ us hl => match us, hl with | [_], _ => rfl
theorem ok_is_pair9 (X : Txt K mg) : FnOk P w K mg base CX0 2 (He.ga K "is_pair") (fdOf K (He.ga K "is_pair")) ["thing"] (spOf (cfgM K) (pu (c_is_pair9 (cfgM K)))) := by
  refine X.F_is_pair9.ok sc_is_pair9 (fun vs H Q E h => spOf_len len_is_pair9 h) (fun cdv A outer s H vs Q E hr h => ⟨t_is_pair9 (cfgM K) E, PSs.nox ?_, fn_go (pure_is_pair9 (sh_ok X)) vs H Q E h⟩)
  exact (pss_one (ps_ret (pe_and (pe_callB call_isi (by rfl) X.f_isinstance (by decide +kernel) (pa_cons (pv 0) (pa_cons (pe_bltn (by rfl) X.f_tuple (by decide +kernel) rfl) pa_nil))) (pe_and (pe_cmpR op_eq (pe_callB call_len (by rfl) X.f_len (by decide +kernel) (pa_cons (pv 0) pa_nil)) pe_int (nomark _)) (pe_one (pe_callB (cr_all rfl) (by rfl) X.f_all (by decide +kernel) (pa_cons (pe_lc (own := [("sign", 1)]) (g := (gName 1)) (tt := tYes) (by rfl) sc_is_pair9.nd (pi_tup (pv 0)) (blkOk_by (own := [("sign", 1)]) (N := ["thing", "sign"]) (sc := defScope s_is_pair9) (by decide +kernel)) (fun _ _ _ _ _ => (pg_name (i := 1) sc_is_pair9.nd rfl (by first | exact Or.inl rfl | exact Or.inr rfl))) (fun _ _ _ _ _ => pts_nil) (fun _ _ _ _ _ => (pe_call (ok_is_name X) (hr.mono (by decide)) (by rfl) X.g_is_name X.F_is_name.kp (b_is_name X) .nil pass0 (pa_cons (pv 1) pa_nil)))) pa_nil)))))))
theorem b_are_pairs9 (X : Txt K mg) : Binds K (fdOf K (He.ga K "are_pairs")) ["thing"] [] := X.F_are_pairs9.bindsN fun _ _ _ _ _ _ us hl => match us, hl with | [_], _ => rfl
theorem ok_are_pairs9 (X : Txt K mg) : FnOk P w K mg base CX0 3 (He.ga K "are_pairs") (fdOf K (He.ga K "are_pairs")) ["thing"] (spOf (cfgM K) (pu (c_are_pairs9 (cfgM K)))) := by
  refine X.F_are_pairs9.ok sc_are_pairs9 (fun vs H Q E h => spOf_len len_are_pairs9 h) (fun cdv A outer s H vs Q E hr h => ⟨t_are_pairs9 (cfgM K) E, PSs.nox ?_, fn_go (pure_are_pairs9 (sh_ok X)) vs H Q E h⟩)
  exact (pss_cons (ps_if (PW.pt (pw_or (pt_not (pt_val (pe_callB call_isi (by rfl) X.f_isinstance (by decide +kernel) (pa_cons (pv 0) (pa_cons (pe_bltn (by rfl) X.f_list (by decide +kernel) rfl) pa_nil))))) (pw_or1 (pt_not (pt_val (pe_callB (cr_all rfl) (by rfl) X.f_all (by decide +kernel) (pa_cons (pe_lc (own := [("pair", 1)]) (g := (gName 1)) (tt := tYes) (by rfl) sc_are_pairs9.nd (pi_list (pv 0)) (blkOk_by (own := [("pair", 1)]) (N := ["thing", "pair", "elder", "newer"]) (sc := defScope s_are_pairs9) (by decide +kernel)) (fun _ _ _ _ _ => (pg_name (i := 1) sc_are_pairs9.nd rfl (by first | exact Or.inl rfl | exact Or.inr rfl))) (fun _ _ _ _ _ => pts_nil) (fun _ _ _ _ _ => (pe_call (ok_is_pair9 X) (hr.mono (by decide)) (by rfl) X.g_is_pair9 X.F_is_pair9.kp (b_is_pair9 X) .nil pass0 (pa_cons (pv 1) pa_nil)))) pa_nil))))))) (pss_one (ps_ret pe_bl)) pss_nil)
      (pss_one (ps_ret (pe_and (pe_call (ok_are_unlike9 X) (hr.mono (by decide)) (by rfl) X.g_are_unlike9 X.F_are_unlike9.kp (b_are_unlike9 X) .nil pass0 (pa_cons (pe_lc (own := [("elder", 2), ("newer", 3)]) (g := (gTup (cfgM K).K 2 (gCons (gName 2) (gCons (gName 3) gNil)))) (tt := tYes) (by rfl) sc_are_pairs9.nd (pi_list (pv 0)) (blkOk_by (own := [("elder", 2), ("newer", 3)]) (N := ["thing", "pair", "elder", "newer"]) (sc := defScope s_are_pairs9) (by decide +kernel)) (fun _ _ _ _ _ => (pg_tup rfl (pgs_cons (pg_name (i := 2) sc_are_pairs9.nd rfl (by first | exact Or.inl rfl | exact Or.inr rfl)) (pgs_cons (pg_name (i := 3) sc_are_pairs9.nd rfl (by first | exact Or.inl rfl | exact Or.inr rfl)) pgs_nil)))) (fun _ _ _ _ _ => pts_nil) (fun _ _ _ _ _ => (pv 2))) pa_nil)) (pe_one (pe_call (ok_are_unlike9 X) (hr.mono (by decide)) (by rfl) X.g_are_unlike9 X.F_are_unlike9.kp (b_are_unlike9 X) .nil pass0 (pa_cons (pe_lc (own := [("elder", 2), ("newer", 3)]) (g := (gTup (cfgM K).K 2 (gCons (gName 2) (gCons (gName 3) gNil)))) (tt := tYes) (by rfl) sc_are_pairs9.nd (pi_list (pv 0)) (blkOk_by (own := [("elder", 2), ("newer", 3)]) (N := ["thing", "pair", "elder", "newer"]) (sc := defScope s_are_pairs9) (by decide +kernel)) (fun _ _ _ _ _ => (pg_tup rfl (pgs_cons (pg_name (i := 2) sc_are_pairs9.nd rfl (by first | exact Or.inl rfl | exact Or.inr rfl)) (pgs_cons (pg_name (i := 3) sc_are_pairs9.nd rfl (by first | exact Or.inl rfl | exact Or.inr rfl)) pgs_nil)))) (fun _ _ _ _ _ => pts_nil) (fun _ _ _ _ _ => (pv 3))) pa_nil)))))))
theorem b_is_part_name (X : Txt K mg) : Binds K (fdOf K (He.ga K "is_part_name")) ["thing"] [] := X.F_is_part_name.bindsN fun _ _ _ _ _ _ us hl => match us, hl with | [_], _ => rfl
theorem ok_is_part_name (X : Txt K mg) : FnOk P w K mg base CX0 2 (He.ga K "is_part_name") (fdOf K (He.ga K "is_part_name")) ["thing"] (spOf (cfgM K) (pu (c_is_part_name (cfgM K)))) := by
  refine X.F_is_part_name.ok sc_is_part_name (fun vs H Q E h => spOf_len len_is_part_name h) (fun cdv A outer s H vs Q E hr h => ⟨t_is_part_name (cfgM K) E, PSs.nox ?_, fn_go (pure_is_part_name (rc_ok X)) vs H Q E h⟩)
  exact (pss_one (ps_ret (pe_and (pe_call (ok_is_name X) (hr.mono (by decide)) (by rfl) X.g_is_name X.F_is_name.kp (b_is_name X) .nil pass0 (pa_cons (pv 0) pa_nil)) (pe_one (pe_cmpR op_notIn_seq (pv 0) (pe_glob (by rfl) X.k_WORDS rfl) (by rfl))))))
theorem b_sign_in (X : Txt K mg) : Binds K (fdOf K (He.ga K "sign_in")) ["word"] [] := X.F_sign_in.bindsN fun _ _ _ _ _ _ us hl => match us, hl with | [_], _ => rfl
theorem ok_sign_in (X : Txt K mg) : FnOk P w K mg base CX0 2 (He.ga K "sign_in") (fdOf K (He.ga K "sign_in")) ["word"] (spOf (cfgM K) (pu (c_sign_in (cfgM K)))) := by
  refine X.F_sign_in.ok sc_sign_in (fun vs H Q E h => spOf_len len_sign_in h) (fun cdv A outer s H vs Q E hr h => ⟨t_sign_in (cfgM K) E, PSs.nox ?_, fn_go (pure_sign_in (sh_ok X)) vs H Q E h⟩)
  exact (pss_one (ps_ret (pe_ifExp (pt_val (pe_call (ok_is_name X) (hr.mono (by decide)) (by rfl) X.g_is_name X.F_is_name.kp (b_is_name X) .nil pass0 (pa_cons (pv 0) pa_nil))) (pv 0) pe_non)))
theorem b_signs_in (X : Txt K mg) : Binds K (fdOf K (He.ga K "signs_in")) ["word"] [] := X.F_signs_in.bindsN fun _ _ _ _ _ _ us hl => match us, hl with | [_], _ => rfl
theorem ok_signs_in (X : Txt K mg) : FnOk P w K mg base CX0 3 (He.ga K "signs_in") (fdOf K (He.ga K "signs_in")) ["word"] (spOf (cfgM K) (pu (c_signs_in (cfgM K)))) := by
  refine X.F_signs_in.ok sc_signs_in (fun vs H Q E h => spOf_len len_signs_in h) (fun cdv A outer s H vs Q E hr h => ⟨t_signs_in (cfgM K) E, PSs.nox ?_, fn_go (pure_signs_in (sh_ok X)) vs H Q E h⟩)
  exact (pss_cons (ps_set (i := 1) sc_signs_in.nd rfl (by first | exact Or.inl rfl | exact Or.inr rfl) (pe_ifExp (pt_cmpR op_eq (pv 0) (pe_glob (by rfl) X.k_NONE.choose_spec ⟨_, rfl⟩) (nomark _)) (pe_lst pa_nil) (pe_split (pv 0) pe_str)))
      (pss_one (ps_ret (pe_ifExp (pt_val (pe_call (ok_are_signs9 X) (hr.mono (by decide)) (by rfl) X.g_are_signs9 X.F_are_signs9.kp (b_are_signs9 X) .nil pass0 (pa_cons (pv 1) pa_nil))) (pe_callTy call_tuple_of (by rfl) X.f_tuple (by decide +kernel) (pa_cons (pv 1) pa_nil)) pe_non))))
theorem b_pairs_in (X : Txt K mg) : Binds K (fdOf K (He.ga K "pairs_in")) ["word"] [] := X.F_pairs_in.bindsN fun _ _ _ _ _ _ us hl => match us, hl with | [_], _ => rfl
theorem ok_pairs_in (X : Txt K mg) : FnOk P w K mg base CX0 4 (He.ga K "pairs_in") (fdOf K (He.ga K "pairs_in")) ["word"] (spOf (cfgM K) (pu (c_pairs_in (cfgM K)))) := by
  refine X.F_pairs_in.ok sc_pairs_in (fun vs H Q E h => spOf_len len_pairs_in h) (fun cdv A outer s H vs Q E hr h => ⟨t_pairs_in (cfgM K) E, PSs.nox ?_, fn_go (pure_pairs_in (sh_ok X)) vs H Q E h⟩)
  exact (pss_cons (ps_set (i := 1) sc_pairs_in.nd rfl (by first | exact Or.inl rfl | exact Or.inr rfl) (pe_ifExp (pt_cmpR op_eq (pv 0) (pe_glob (by rfl) X.k_NONE.choose_spec ⟨_, rfl⟩) (nomark _)) (pe_lst pa_nil) (pe_lc (own := [("pair", 2)]) (g := (gName 2)) (tt := tYes) (by rfl) sc_pairs_in.nd (pi_list (pe_split (pv 0) pe_str)) (blkOk_by (own := [("pair", 2)]) (N := ["word", "pairs", "pair"]) (sc := defScope s_pairs_in) (by decide +kernel)) (fun _ _ _ _ _ => (pg_name (i := 2) sc_pairs_in.nd rfl (by first | exact Or.inl rfl | exact Or.inr rfl))) (fun _ _ _ _ _ => pts_nil) (fun _ _ _ _ _ => (pe_callTy call_tuple_of (by rfl) X.f_tuple (by decide +kernel) (pa_cons (pe_split (pv 2) pe_str) pa_nil))))))
      (pss_one (ps_ret (pe_ifExp (pt_val (pe_call (ok_are_pairs9 X) (hr.mono (by decide)) (by rfl) X.g_are_pairs9 X.F_are_pairs9.kp (b_are_pairs9 X) .nil pass0 (pa_cons (pv 1) pa_nil))) (pe_callTy call_tuple_of (by rfl) X.f_tuple (by decide +kernel) (pa_cons (pv 1) pa_nil)) pe_non))))
theorem b_weight_in (X : Txt K mg) : Binds K (fdOf K (He.ga K "weight_in")) ["word"] [] := X.F_weight_in.bindsN fun _ _ _ _ _ _ us hl => match us, hl with | [_], _ => rfl
theorem ok_weight_in (X : Txt K mg) : FnOk P w K mg base CX0 1 (He.ga K "weight_in") (fdOf K (He.ga K "weight_in")) ["word"] (spOf (cfgM K) (pu (c_weight_in (cfgM K)))) := by
  refine X.F_weight_in.ok sc_weight_in (fun vs H Q E h => spOf_len len_weight_in h) (fun cdv A outer s H vs Q E hr h => ⟨t_weight_in (cfgM K) E, PSs.nox ?_, fn_go (pure_weight_in (sh_ok X)) vs H Q E h⟩)
  exact (pss_cons (ps_if (PW.pt (pw_or (pt_not (pt_chain op_le op_le pe_int (pe_callB call_len (by rfl) X.f_len (by decide +kernel) (pa_cons (pv 0) pa_nil)) pe_int)) (pw_or (pt_not (pt_val (pe_callB (cr_all rfl) (by rfl) X.f_all (by decide +kernel) (pa_cons (pe_lc (own := [("figure", 1)]) (g := (gName 1)) (tt := tYes) (by rfl) sc_weight_in.nd (pi_str (pv 0)) (blkOk_by (own := [("figure", 1)]) (N := ["word", "figure"]) (sc := defScope s_weight_in) (by decide +kernel)) (fun _ _ _ _ _ => (pg_name (i := 1) sc_weight_in.nd rfl (by first | exact Or.inl rfl | exact Or.inr rfl))) (fun _ _ _ _ _ => pts_nil) (fun _ _ _ _ _ => (pe_cmpR op_in_sign (pv 1) (pe_glob (by rfl) X.k_FIGURES.choose_spec ⟨_, rfl⟩) rfl))) pa_nil)))) (pw_or1 (pt_cmpR op_eq (pe_ix ix_str (pv 0) pe_int (fun _ _ => rfl)) pe_str (nomark _)))))) (pss_one (ps_ret pe_non)) pss_nil)
      (pss_one (ps_ret (pe_ifExp (pt_cmpR op_le (pe_callTy call_int_str (by rfl) X.f_int (by decide +kernel) (pa_cons (pv 0) pa_nil)) (pe_glob (by rfl) X.k_MOST_WEIGHT.choose_spec ⟨_, rfl⟩) (nomark _)) (pe_callTy call_int_str (by rfl) X.f_int (by decide +kernel) (pa_cons (pv 0) pa_nil)) pe_non))))
theorem b_Reading___init__ (X : Txt K mg) : Binds K (fdOf K (He.ma K (He.ga K "Reading") "__init__")) ["self", "words"] [] := X.F_Reading___init__.bindsN fun _ _ _ _ _ _ us hl => match us, hl with | [_, _], _ => rfl
theorem ok_Reading___init__ (X : Txt K mg) : FnOk P w K mg base CX0 1 (He.ma K (He.ga K "Reading") "__init__") (fdOf K (He.ma K (He.ga K "Reading") "__init__")) ["self", "words"] (spOf (cfgM K) (c_Reading___init__ (cfgM K))) := by
  refine X.F_Reading___init__.ok sc_Reading___init__ (fun vs H Q E h => spOf_len len_Reading___init__ h) (fun cdv A outer s H vs Q E hr h => ⟨t_Reading___init__ (cfgM K) E, PSs.nox ?_, fn_go (pure_Reading___init__ (rd_ok X)) vs H Q E h⟩)
  exact (pss_cons (ps_fld (pv 0) (pv 1) rfl)
      (pss_one (ps_fld (pv 0) pe_int rfl)))
theorem b_Reading_word (X : Txt K mg) : Binds K (fdOf K (He.ma K (He.ga K "Reading") "word")) ["self"] [] := X.F_Reading_word.bindsN fun _ _ _ _ _ _ us hl => match us, hl with | [_], _ => rfl
theorem ok_Reading_word (X : Txt K mg) : FnOk P w K mg base CX0 1 (He.ma K (He.ga K "Reading") "word") (fdOf K (He.ma K (He.ga K "Reading") "word")) ["self"] (spOf (cfgM K) (c_Reading_word (cfgM K))) := by
  refine X.F_Reading_word.ok sc_Reading_word (fun vs H Q E h => spOf_len len_Reading_word h) (fun cdv A outer s H vs Q E hr h => ⟨t_Reading_word (cfgM K) E, PSs.nox ?_, fn_go (pure_Reading_word (rd_ok X)) vs H Q E h⟩)
  exact (pss_cons (ps_if (PW.pt (pw_or (pt_cmpR op_eq (pe_fld (pv 0) rfl) (pe_glob (by rfl) X.k_MOST_WORDS.choose_spec ⟨_, rfl⟩) (nomark _)) (pw_or1 (pt_cmpR op_eq (pe_fld (pv 0) rfl) (pe_callB call_len (by rfl) X.f_len (by decide +kernel) (pa_cons (pe_fld (pv 0) rfl) pa_nil)) (nomark _))))) (pss_one ps_nev) pss_nil)
      (pss_cons (ps_fldaug (pv 0) pe_int in_add)
      (pss_one (ps_ret (pe_ix ix_list (pe_fld (pv 0) rfl) (pe_op op_sub (pe_fld (pv 0) rfl) pe_int) (fun _ _ => rfl))))))
theorem b_Reading_told (X : Txt K mg) : Binds K (fdOf K (He.ma K (He.ga K "Reading") "told")) ["self", "reader"] [] := X.F_Reading_told.bindsN fun _ _ _ _ _ _ us hl => match us, hl with | [_, _], _ => rfl
theorem ok_Reading_told (X : Txt K mg) : FnOk P w K mg base CX0 5 (He.ma K (He.ga K "Reading") "told") (fdOf K (He.ma K (He.ga K "Reading") "told")) ["self", "reader"] (spOf (cfgM K) (c_Reading_told (cfgM K))) := by
  refine X.F_Reading_told.ok sc_Reading_told (fun vs H Q E h => spOf_len len_Reading_told h) (fun cdv A outer s H vs Q E hr h => ⟨t_Reading_told (cfgM K) E, PSs.nox ?_, fn_go (pure_Reading_told (rd_ok X)) vs H Q E h⟩)
  exact (pss_cons (ps_set (i := 2) sc_Reading_told.nd rfl (by first | exact Or.inl rfl | exact Or.inr rfl) (pe_eith (pe_callL (i := 1) (ok_sign_in X) (hr.mono (by decide)) (by rfl) (by first | exact Or.inl rfl | exact Or.inr (Or.inl rfl) | exact Or.inr (Or.inr rfl)) X.F_sign_in.kp (b_sign_in X) .nil pass0 (pa_cons (pe_meth0 (pv 0) X.cl_Reading X.m_Readingword (ok_Reading_word X) (hr.mono (by decide)) (b_Reading_word X) .nil pass0) pa_nil)) (pe_eith (pe_callL (i := 1) (ok_signs_in X) (hr.mono (by decide)) (by rfl) (by first | exact Or.inl rfl | exact Or.inr (Or.inl rfl) | exact Or.inr (Or.inr rfl)) X.F_signs_in.kp (b_signs_in X) .nil pass0 (pa_cons (pe_meth0 (pv 0) X.cl_Reading X.m_Readingword (ok_Reading_word X) (hr.mono (by decide)) (b_Reading_word X) .nil pass0) pa_nil)) (pe_eith (pe_callL (i := 1) (ok_pairs_in X) (hr.mono (by decide)) (by rfl) (by first | exact Or.inl rfl | exact Or.inr (Or.inl rfl) | exact Or.inr (Or.inr rfl)) X.F_pairs_in.kp (b_pairs_in X) .nil pass0 (pa_cons (pe_meth0 (pv 0) X.cl_Reading X.m_Readingword (ok_Reading_word X) (hr.mono (by decide)) (b_Reading_word X) .nil pass0) pa_nil)) (pe_callL (i := 1) (ok_weight_in X) (hr.mono (by decide)) (by rfl) (by first | exact Or.inl rfl | exact Or.inr (Or.inl rfl) | exact Or.inr (Or.inr rfl)) X.F_weight_in.kp (b_weight_in X) .nil pass0 (pa_cons (pe_meth0 (pv 0) X.cl_Reading X.m_Readingword (ok_Reading_word X) (hr.mono (by decide)) (b_Reading_word X) .nil pass0) pa_nil))))))
      (pss_cons (ps_if (pt_cmpR op_isN (pv 2) pe_non (nomark _)) (pss_one ps_nev) pss_nil)
      (pss_one (ps_ret (pv 2)))))
theorem b_Reading_next_recipe (X : Txt K mg) : Binds K (fdOf K (He.ma K (He.ga K "Reading") "next_recipe")) ["self"] [] := X.F_Reading_next_recipe.bindsN fun _ _ _ _ _ _ us hl => match us, hl with | [_], _ => rfl
theorem okr_Reading_next_recipe (X : Txt K mg) : ∀ n, FnOk P w K mg base CX0 (6 + n) (He.ma K (He.ga K "Reading") "next_recipe") (fdOf K (He.ma K (He.ga K "Reading") "next_recipe")) ["self"] (spOf (cfgM K) (c_Reading_next_recipe (cfgM K) n))
  | 0 => Pw.fn_none fun vs H Q E h => Pw.sp_none no_Reading_next_recipe h
  | n + 1 => by
    have ih := okr_Reading_next_recipe X n
    rw [← Nat.add_assoc]
    refine X.F_Reading_next_recipe.ok sc_Reading_next_recipe (fun vs H Q E h => spOf_len len_Reading_next_recipe h) (fun cdv A outer s H vs Q E hr h => ⟨t_Reading_next_recipe (cfgM K) n E, PSs.nox ?_, fn_go (pure_Reading_next_recipe (rd_ok X) n) vs H Q E h⟩)
    exact (pss_cons (ps_set (i := 1) sc_Reading_next_recipe.nd rfl (by first | exact Or.inl rfl | exact Or.inr rfl) (pe_meth0 (pv 0) X.cl_Reading X.m_Readingword (ok_Reading_word X) (hr.mono (by omega)) (b_Reading_word X) .nil pass0))
      (pss_cons (ps_if (pt_cmpR op_eq (pv 1) pe_str (nomark _)) (pss_one (ps_ret (pe_tup (pa_cons (pv 1) pa_nil)))) pss_nil)
      (pss_cons (ps_if (pt_cmpR op_eq (pv 1) pe_str (nomark _)) (pss_one (ps_ret (pe_tup (pa_cons (pv 1) (pa_cons (pe_meth (pv 0) X.cl_Reading X.m_Readingtold (ok_Reading_told X) (hr.mono (by omega)) (b_Reading_told X) .nil pass0 (pa_cons (pe_glob (by rfl) X.g_sign_in rfl) pa_nil)) (pa_cons (pe_meth0 (pv 0) X.cl_Reading X.m_Readingnext_recipe ih (hr.mono (by omega)) (b_Reading_next_recipe X) .nil pass0) pa_nil)))))) pss_nil)
      (pss_cons (ps_if (pt_cmpR op_eq (pv 1) pe_str (nomark _)) (pss_cons (ps_set (i := 2) sc_Reading_next_recipe.nd rfl (by first | exact Or.inl rfl | exact Or.inr rfl) (pe_meth (pv 0) X.cl_Reading X.m_Readingtold (ok_Reading_told X) (hr.mono (by omega)) (b_Reading_told X) .nil pass0 (pa_cons (pe_glob (by rfl) X.g_sign_in rfl) pa_nil)))
      (pss_cons (ps_set (i := 3) sc_Reading_next_recipe.nd rfl (by first | exact Or.inl rfl | exact Or.inr rfl) (pe_tup (pa_cons (pe_meth (pv 0) X.cl_Reading X.m_Readingtold (ok_Reading_told X) (hr.mono (by omega)) (b_Reading_told X) .nil pass0 (pa_cons (pe_glob (by rfl) X.g_weight_in rfl) pa_nil)) (pa_cons (pe_meth (pv 0) X.cl_Reading X.m_Readingtold (ok_Reading_told X) (hr.mono (by omega)) (b_Reading_told X) .nil pass0 (pa_cons (pe_glob (by rfl) X.g_weight_in rfl) pa_nil)) pa_nil))))
      (pss_one (ps_ret (pe_tup (pa_cons (pv 1) (pa_cons (pv 2) (pa_cons (pv 3) (pa_cons (pe_meth0 (pv 0) X.cl_Reading X.m_Readingnext_recipe ih (hr.mono (by omega)) (b_Reading_next_recipe X) .nil pass0) (pa_cons (pe_meth0 (pv 0) X.cl_Reading X.m_Readingnext_recipe ih (hr.mono (by omega)) (b_Reading_next_recipe X) .nil pass0) pa_nil)))))))))) pss_nil)
      (pss_cons (ps_if (pt_cmpR op_eq (pv 1) pe_str (nomark _)) (pss_one (ps_ret (pe_tup (pa_cons (pv 1) (pa_cons (pe_meth (pv 0) X.cl_Reading X.m_Readingtold (ok_Reading_told X) (hr.mono (by omega)) (b_Reading_told X) .nil pass0 (pa_cons (pe_glob (by rfl) X.g_signs_in rfl) pa_nil)) (pa_cons (pe_meth0 (pv 0) X.cl_Reading X.m_Readingnext_recipe ih (hr.mono (by omega)) (b_Reading_next_recipe X) .nil pass0) (pa_cons (pe_meth0 (pv 0) X.cl_Reading X.m_Readingnext_recipe ih (hr.mono (by omega)) (b_Reading_next_recipe X) .nil pass0) pa_nil))))))) pss_nil)
      (pss_cons (ps_if (pt_cmpR op_eq (pv 1) pe_str (nomark _)) (pss_one (ps_ret (pe_tup (pa_cons (pv 1) (pa_cons (pe_meth (pv 0) X.cl_Reading X.m_Readingtold (ok_Reading_told X) (hr.mono (by omega)) (b_Reading_told X) .nil pass0 (pa_cons (pe_glob (by rfl) X.g_signs_in rfl) pa_nil)) (pa_cons (pe_meth0 (pv 0) X.cl_Reading X.m_Readingnext_recipe ih (hr.mono (by omega)) (b_Reading_next_recipe X) .nil pass0) pa_nil)))))) pss_nil)
      (pss_cons (ps_if (pt_cmpR op_eq (pv 1) pe_str (nomark _)) (pss_one (ps_ret (pe_tup (pa_cons (pv 1) (pa_cons (pe_meth (pv 0) X.cl_Reading X.m_Readingtold (ok_Reading_told X) (hr.mono (by omega)) (b_Reading_told X) .nil pass0 (pa_cons (pe_glob (by rfl) X.g_pairs_in rfl) pa_nil)) (pa_cons (pe_meth0 (pv 0) X.cl_Reading X.m_Readingnext_recipe ih (hr.mono (by omega)) (b_Reading_next_recipe X) .nil pass0) pa_nil)))))) pss_nil)
      (pss_cons (ps_if (pt_not (pt_val (pe_call (ok_is_part_name X) (hr.mono (by omega)) (by rfl) X.g_is_part_name X.F_is_part_name.kp (b_is_part_name X) .nil pass0 (pa_cons (pv 1) pa_nil)))) (pss_one ps_nev) pss_nil)
      (pss_one (ps_ret (pe_tup (pa_cons pe_str (pa_cons (pv 1) pa_nil)))))))))))))
theorem ok_Reading_next_recipe (X : Txt K mg) : FnOk P w K mg base CX0 37 (He.ma K (He.ga K "Reading") "next_recipe") (fdOf K (He.ma K (He.ga K "Reading") "next_recipe")) ["self"] (spOf (cfgM K) (c_Reading_next_recipe (cfgM K) 31)) := okr_Reading_next_recipe X 31
theorem b_read_recipe (X : Txt K mg) : Binds K (fdOf K (He.ga K "read_recipe")) ["text"] [] := X.F_read_recipe.bindsN fun _ _ _ _ _ _ us hl => match us, hl with | [_], _ => rfl
theorem ok_read_recipe (X : Txt K mg) : FnOk P w K mg base CX0 38 (He.ga K "read_recipe") (fdOf K (He.ga K "read_recipe")) ["text"] (spOf (cfgM K) (pu (c_read_recipe (cfgM K)))) := by
  refine X.F_read_recipe.ok sc_read_recipe (fun vs H Q E h => spOf_len len_read_recipe h) (fun cdv A outer s H vs Q E hr h => ⟨t_read_recipe (cfgM K) E, PSs.nox ?_, fn_go (pure_read_recipe (rd_ok X)) vs H Q E h⟩)
  exact (pss_cons (ps_if (pt_not (pt_val (pe_callB call_isi (by rfl) X.f_isinstance (by decide +kernel) (pa_cons (pv 0) (pa_cons (pe_bltn (by rfl) X.f_str (by decide +kernel) rfl) pa_nil))))) (pss_one ps_nev) pss_nil)
      (pss_cons (ps_set (i := 1) sc_read_recipe.nd rfl (by first | exact Or.inl rfl | exact Or.inr rfl) (pe_make X.mk_Reading (ok_Reading___init__ X) (hr.mono (by decide)) (by rfl) X.g_Reading (b_Reading___init__ X) .nil pass0 (pa_cons (pe_split (pv 0) pe_str) pa_nil)))
      (pss_cons (ps_set (i := 2) sc_read_recipe.nd rfl (by first | exact Or.inl rfl | exact Or.inr rfl) (pe_meth0 (pv 1) X.cl_Reading X.m_Readingnext_recipe (ok_Reading_next_recipe X) (hr.mono (by decide)) (b_Reading_next_recipe X) .nil pass0))
      (pss_cons (ps_if (pt_cmpR op_lt (pe_fld (pv 1) rfl) (pe_callB call_len (by rfl) X.f_len (by decide +kernel) (pa_cons (pe_fld (pv 1) rfl) pa_nil)) (nomark _)) (pss_one ps_nev) pss_nil)
      (pss_one (ps_ret (pv 2)))))))
theorem b_inner_of (X : Txt K mg) : Binds K (fdOf K (He.ga K "inner_of")) ["recipe"] [] := X.F_inner_of.bindsN fun _ _ _ _ _ _ us hl => match us, hl with | [_], _ => rfl
theorem ok_inner_of (X : Txt K mg) : FnOk P w K mg base CX0 1 (He.ga K "inner_of") (fdOf K (He.ga K "inner_of")) ["recipe"] (spOf (cfgM K) (pu (c_inner_of (cfgM K)))) := by
  refine X.F_inner_of.ok sc_inner_of (fun vs H Q E h => spOf_len len_inner_of h) (fun cdv A outer s H vs Q E hr h => ⟨t_inner_of (cfgM K) E, PSs.nox ?_, fn_go (pure_inner_of (sh_ok X)) vs H Q E h⟩)
  exact (pss_cons (ps_if (pt_cmpR op_in_seq (pe_ix ix_tup (pv 0) pe_int (fun _ _ => rfl)) (pe_tup (pa_cons pe_str (pa_cons pe_str pa_nil))) (by rfl)) (pss_one (ps_ret (pe_lst pa_nil))) pss_nil)
      (pss_one (ps_ret (pe_callTy call_list_of (by rfl) X.f_list (by decide +kernel) (pa_cons (pe_slice sl_tupA (pv 0) (po_some (pe_op op_add pe_int (pe_callTy call_int1 (by rfl) X.f_int (by decide +kernel) (pa_cons (pe_cmpR (op_eqD hr.units) (pe_ix ix_tup (pv 0) pe_int (fun _ _ => rfl)) pe_str (nomark _)) pa_nil)))) po_none) pa_nil)))))
theorem b_head_of (X : Txt K mg) : Binds K (fdOf K (He.ga K "head_of")) ["recipe"] [] := X.F_head_of.bindsN fun _ _ _ _ _ _ us hl => match us, hl with | [_], _ => rfl
theorem ok_head_of (X : Txt K mg) : FnOk P w K mg base CX0 1 (He.ga K "head_of") (fdOf K (He.ga K "head_of")) ["recipe"] (spOf (cfgM K) (pu (c_head_of (cfgM K)))) := by
  refine X.F_head_of.ok sc_head_of (fun vs H Q E h => spOf_len len_head_of h) (fun cdv A outer s H vs Q E hr h => ⟨t_head_of (cfgM K) E, PSs.nox ?_, fn_go (pure_head_of (sh_ok X)) vs H Q E h⟩)
  exact (pss_cons (ps_if (pt_cmpR (op_eqD hr.units) (pe_ix ix_tup (pv 0) pe_int (fun _ _ => rfl)) pe_str (nomark _)) (pss_one (ps_ret (pe_lst (pa_cons pe_str pa_nil)))) pss_nil)
      (pss_cons (ps_if (pt_cmpR (op_eqD hr.units) (pe_ix ix_tup (pv 0) pe_int (fun _ _ => rfl)) pe_str (nomark _)) (pss_one (ps_ret (pe_lst (pa_cons (pe_ix ix_tup (pv 0) pe_int (fun _ _ => rfl)) pa_nil)))) pss_nil)
      (pss_cons (ps_if (pt_cmpR (op_eqD hr.units) (pe_ix ix_tup (pv 0) pe_int (fun _ _ => rfl)) pe_str (nomark _)) (pss_one (ps_ret (pe_lst (pa_cons pe_str (pa_cons (pe_ix ix_tup (pv 0) pe_int (fun _ _ => rfl)) pa_nil))))) pss_nil)
      (pss_cons (ps_if (pt_cmpR (op_eqD hr.units) (pe_ix ix_tup (pv 0) pe_int (fun _ _ => rfl)) pe_str (nomark _)) (pss_one (ps_ret (pe_op op_cat (pe_lst (pa_cons pe_str (pa_cons (pe_ix ix_tup (pv 0) pe_int (fun _ _ => rfl)) pa_nil))) (pe_lc (own := [("weight", 1)]) (g := (gName 1)) (tt := tYes) (by rfl) sc_head_of.nd (pi_tup (pe_ix ix_tup (pv 0) pe_int (fun _ _ => rfl))) (blkOk_by (own := [("weight", 1)]) (N := ["recipe", "weight", "pair"]) (sc := defScope s_head_of) (by decide +kernel)) (fun _ _ _ _ _ => (pg_name (i := 1) sc_head_of.nd rfl (by first | exact Or.inl rfl | exact Or.inr rfl))) (fun _ _ _ _ _ => pts_nil) (fun _ _ _ _ _ => (pe_callTy call_str_int (by rfl) X.f_str (by decide +kernel) (pa_cons (pv 1) pa_nil))))))) pss_nil)
      (pss_cons (ps_if (pt_cmpR (op_eqD hr.units) (pe_ix ix_tup (pv 0) pe_int (fun _ _ => rfl)) pe_str (nomark _)) (pss_one (ps_ret (pe_lst (pa_cons pe_str (pa_cons (pe_orT (pe_join pe_str (pe_lc (own := [("pair", 2)]) (g := (gName 2)) (tt := tYes) (by rfl) sc_head_of.nd (pi_tup (pe_ix ix_tup (pv 0) pe_int (fun _ _ => rfl))) (blkOk_by (own := [("pair", 2)]) (N := ["recipe", "weight", "pair"]) (sc := defScope s_head_of) (by decide +kernel)) (fun _ _ _ _ _ => (pg_name (i := 2) sc_head_of.nd rfl (by first | exact Or.inl rfl | exact Or.inr rfl))) (fun _ _ _ _ _ => pts_nil) (fun _ _ _ _ _ => (pe_join pe_str (pv 2))))) (pe_one (pe_glob (by rfl) X.k_NONE.choose_spec ⟨_, rfl⟩))) pa_nil))))) pss_nil)
      (pss_one (ps_ret (pe_lst (pa_cons (pe_ix ix_tup (pv 0) pe_int (fun _ _ => rfl)) (pa_cons (pe_orT (pe_join pe_str (pe_ix ix_tup (pv 0) pe_int (fun _ _ => rfl))) (pe_one (pe_glob (by rfl) X.k_NONE.choose_spec ⟨_, rfl⟩))) pa_nil))))))))))
theorem b_words_of (X : Txt K mg) : Binds K (fdOf K (He.ga K "words_of")) ["recipe"] [] := X.F_words_of.bindsN fun _ _ _ _ _ _ us hl => match us, hl with | [_], _ => rfl
theorem okr_words_of (X : Txt K mg) : ∀ n, FnOk P w K mg base CX0 (2 + n) (He.ga K "words_of") (fdOf K (He.ga K "words_of")) ["recipe"] (spOf (cfgM K) (pu (c_words_of (cfgM K) n)))
  | 0 => Pw.fn_none fun vs H Q E h => Pw.sp_none no_words_of h
  | n + 1 => by
    have ih := okr_words_of X n
    rw [← Nat.add_assoc]
    refine X.F_words_of.ok sc_words_of (fun vs H Q E h => spOf_len len_words_of h) (fun cdv A outer s H vs Q E hr h => ⟨t_words_of (cfgM K) n E, PSs.nox ?_, fn_go (pure_words_of (sh_ok X) n) vs H Q E h⟩)
    exact (pss_cons (ps_set (i := 1) sc_words_of.nd rfl (by first | exact Or.inl rfl | exact Or.inr rfl) (pe_call (ok_head_of X) (hr.mono (by omega)) (by rfl) X.g_head_of X.F_head_of.kp (b_head_of X) .nil pass0 (pa_cons (pv 0) pa_nil)))
      (pss_cons (ps_for PassesOwn.never rfl (pi_list (pe_call (ok_inner_of X) (hr.mono (by omega)) (by rfl) X.g_inner_of X.F_inner_of.kp (b_inner_of X) .nil pass0 (pa_cons (pv 0) pa_nil))) (pg_name (i := 2) sc_words_of.nd rfl (by first | exact Or.inl rfl | exact Or.inr rfl)) (pss_one (ps_set (i := 1) sc_words_of.nd rfl (by first | exact Or.inl rfl | exact Or.inr rfl) (pe_op op_cat (pv 1) (pe_call ih (hr.mono (by omega)) (by rfl) X.g_words_of X.F_words_of.kp (b_words_of X) .nil pass0 (pa_cons (pv 2) pa_nil))))))
      (pss_one (ps_ret (pv 1)))))
theorem ok_words_of (X : Txt K mg) : FnOk P w K mg base CX0 33 (He.ga K "words_of") (fdOf K (He.ga K "words_of")) ["recipe"] (spOf (cfgM K) (pu (c_words_of (cfgM K) 31))) := okr_words_of X 31
theorem b_show_recipe (X : Txt K mg) : Binds K (fdOf K (He.ga K "show_recipe")) ["recipe"] [] := X.F_show_recipe.bindsN fun _ _ _ _ _ _ us hl => match us, hl with | [_], _ => rfl
theorem ok_show_recipe (X : Txt K mg) : FnOk P w K mg base CX0 34 (He.ga K "show_recipe") (fdOf K (He.ga K "show_recipe")) ["recipe"] (spOf (cfgM K) (pu (c_show_recipe (cfgM K)))) := by
  refine X.F_show_recipe.ok sc_show_recipe (fun vs H Q E h => spOf_len len_show_recipe h) (fun cdv A outer s H vs Q E hr h => ⟨t_show_recipe (cfgM K) E, PSs.nox ?_, fn_go (pure_show_recipe (sh_ok X)) vs H Q E h⟩)
  exact (pss_one (ps_ret (pe_join pe_str (pe_call (ok_words_of X) (hr.mono (by decide)) (by rfl) X.g_words_of X.F_words_of.kp (b_words_of X) .nil pass0 (pa_cons (pv 0) pa_nil)))))
theorem b_names_of (X : Txt K mg) : Binds K (fdOf K (He.ga K "names_of")) ["recipe"] [] := X.F_names_of.bindsN fun _ _ _ _ _ _ us hl => match us, hl with | [_], _ => rfl
theorem okr_names_of (X : Txt K mg) : ∀ n, FnOk P w K mg base CX0 (2 + n) (He.ga K "names_of") (fdOf K (He.ga K "names_of")) ["recipe"] (spOf (cfgM K) (pu (c_names_of (cfgM K) n)))
  | 0 => Pw.fn_none fun vs H Q E h => Pw.sp_none no_names_of h
  | n + 1 => by
    have ih := okr_names_of X n
    rw [← Nat.add_assoc]
    refine X.F_names_of.ok sc_names_of (fun vs H Q E h => spOf_len len_names_of h) (fun cdv A outer s H vs Q E hr h => ⟨t_names_of (cfgM K) n E, PSs.nox ?_, fn_go (pure_names_of (sh_ok X) n) vs H Q E h⟩)
    exact (pss_cons (ps_set (i := 1) sc_names_of.nd rfl (by first | exact Or.inl rfl | exact Or.inr rfl) (pe_ifExp (pt_cmpR (op_eqD hr.units) (pe_ix ix_tup (pv 0) pe_int (fun _ _ => rfl)) pe_str (nomark _)) (pe_lst (pa_cons (pe_ix ix_tup (pv 0) pe_int (fun _ _ => rfl)) pa_nil)) (pe_lst pa_nil)))
      (pss_cons (ps_for PassesOwn.never rfl (pi_list (pe_call (ok_inner_of X) (hr.mono (by omega)) (by rfl) X.g_inner_of X.F_inner_of.kp (b_inner_of X) .nil pass0 (pa_cons (pv 0) pa_nil))) (pg_name (i := 2) sc_names_of.nd rfl (by first | exact Or.inl rfl | exact Or.inr rfl)) (pss_one (ps_set (i := 1) sc_names_of.nd rfl (by first | exact Or.inl rfl | exact Or.inr rfl) (pe_op op_cat (pv 1) (pe_call ih (hr.mono (by omega)) (by rfl) X.g_names_of X.F_names_of.kp (b_names_of X) .nil pass0 (pa_cons (pv 2) pa_nil))))))
      (pss_one (ps_ret (pv 1)))))
theorem ok_names_of (X : Txt K mg) : FnOk P w K mg base CX0 33 (He.ga K "names_of") (fdOf K (He.ga K "names_of")) ["recipe"] (spOf (cfgM K) (pu (c_names_of (cfgM K) 31))) := okr_names_of X 31
theorem b_parts_of (X : Txt K mg) : Binds K (fdOf K (He.ga K "parts_of")) ["recipe"] [] := X.F_parts_of.bindsN fun _ _ _ _ _ _ us hl => match us, hl with | [_], _ => rfl
theorem ok_parts_of (X : Txt K mg) : FnOk P w K mg base CX0 34 (He.ga K "parts_of") (fdOf K (He.ga K "parts_of")) ["recipe"] (spOf (cfgM K) (nw (c_parts_of (cfgM K)))) := by
  refine X.F_parts_of.ok sc_parts_of (fun vs H Q E h => spOf_len len_parts_of h) (fun cdv A outer s H vs Q E hr h => ⟨t_parts_of (cfgM K) E, PSs.nox ?_, fn_go (pure_parts_of (sh_ok X)) vs H Q E h⟩)
  exact (pss_one (ps_ret (pe_sortSetT (by rfl) hr.units (by rfl) X.f_sorted (by rfl) X.f_set (pe_call (ok_names_of X) (hr.mono (by decide)) (by rfl) X.g_names_of X.F_names_of.kp (b_names_of X) .nil pass0 (pa_cons (pv 0) pa_nil)))))
theorem b_Lwell (X : Txt K mg) : Binds K (fdOf K (He.ga K "_law_well")) ["_law_cell"] [] := X.F_Lwell.bindsN fun _ _ _ _ _ _ us hl => match us, hl with | [_], _ => rfl
theorem ok_Lwell (X : Txt K mg) : FnOk P w K mg base CX0 1 (He.ga K "_law_well") (fdOf K (He.ga K "_law_well")) ["_law_cell"] (spOf (cfgM K) (c_Lwell (cfgM K))) := by
  refine X.F_Lwell.ok sc_Lwell (fun vs H Q E h => spOf_len len_Lwell h) (fun cdv A outer s H vs Q E hr h => ⟨t_Lwell (cfgM K) E, PSs.nox ?_, fn_go (pure_Lwell (sh_ok X)) vs H Q E h⟩)
  exact (pss_one (ps_ret (pe_lst (pa_cons (pe_op op_mulO (pv 0) (pe_callTy call_int1 (by rfl) X.f_int (by decide +kernel) (pa_cons (pe_cmpR op_ge (pv 0) (pe_op op_pow pe_int pe_int) (nomark _)) pa_nil))) (pa_cons (pe_op op_modN (pv 0) pe_int) (pa_cons pe_int (pa_cons pe_int pa_nil)))))))
theorem b_Ldraw (X : Txt K mg) : Binds K (fdOf K (He.ga K "_law_draw")) ["_law_well_here", "_law_many"] [] := X.F_Ldraw.bindsN fun _ _ _ _ _ _ us hl => match us, hl with | [_, _], _ => rfl
theorem ok_Ldraw (X : Txt K mg) : FnOk P w K mg base CX0 1 (He.ga K "_law_draw") (fdOf K (He.ga K "_law_draw")) ["_law_well_here", "_law_many"] (spOf (cfgM K) (wl (c_Ldraw (cfgM K)))) := by
  refine X.F_Ldraw.ok sc_Ldraw (fun vs H Q E h => spOf_len len_Ldraw h) (fun cdv A outer s H vs Q E hr h => ⟨t_Ldraw (cfgM K) E, PSs.nox ?_, fn_go (pure_Ldraw (sh_ok X)) vs H Q E h⟩)
  exact (pss_cons (ps_if (pt_cmpR op_gt (pe_ix ix_list (pv 0) pe_int (fun _ _ => rfl)) pe_int (nomark _)) (pss_cons (ps_set (i := 4) sc_Ldraw.nd rfl (by first | exact Or.inl rfl | exact Or.inr rfl) (pe_op op_modN (pe_ix ix_list (pv 0) pe_int (fun _ _ => rfl)) (pv 1)))
      (pss_cons (ps_asg (pe_op op_fdivO (pe_ix ix_list (pv 0) pe_int (fun _ _ => rfl)) (pv 1)) (pg_sub (pv 0) pe_int set_list))
      (pss_one (ps_ret (pv 4))))) pss_nil)
      (pss_cons (ps_asg (pe_op op_add (pe_ix ix_list (pv 0) pe_int (fun _ _ => rfl)) pe_int) (pg_sub (pv 0) pe_int set_list))
      (pss_cons (ps_set (i := 2) sc_Ldraw.nd rfl (by first | exact Or.inl rfl | exact Or.inr rfl) (pe_ix ix_list (pe_lst (pa_cons pe_int (pa_cons pe_int (pa_cons pe_int (pa_cons pe_int (pa_cons pe_int (pa_cons pe_int (pa_cons pe_int pa_nil)))))))) (pe_op op_modN (pe_ix ix_list (pv 0) pe_int (fun _ _ => rfl)) pe_int) (fun _ _ => rfl)))
      (pss_cons (ps_set (i := 3) sc_Ldraw.nd rfl (by first | exact Or.inl rfl | exact Or.inr rfl) (pe_op op_modN (pe_op op_pow (pe_op op_add (pe_op op_add (pe_ix ix_list (pv 0) pe_int (fun _ _ => rfl)) (pe_op op_mulO pe_int (pe_ix ix_list (pv 0) pe_int (fun _ _ => rfl)))) pe_int) pe_int) (pv 2)))
      (pss_cons (ps_set (i := 3) sc_Ldraw.nd rfl (by first | exact Or.inl rfl | exact Or.inr rfl) (pe_op op_modN (pe_op op_mulO (pe_op op_add (pv 3) (pe_ix ix_list (pv 0) pe_int (fun _ _ => rfl))) (pe_op op_add (pe_op op_fdivO (pv 3) pe_int) pe_int)) (pv 2)))
      (pss_one (ps_ret (pe_op op_modN (pe_op op_fdivO (pv 3) pe_int) (pv 1)))))))))
theorem b_Lone (X : Txt K mg) : Binds K (fdOf K (He.ga K "_law_one")) ["_law_well_here", "_law_some"] [] := X.F_Lone.bindsN fun _ _ _ _ _ _ us hl => match us, hl with | [_, _], _ => rfl
theorem ok_Lone (X : Txt K mg) : FnOk P w K mg base CX0 2 (He.ga K "_law_one") (fdOf K (He.ga K "_law_one")) ["_law_well_here", "_law_some"] (spOf (cfgM K) (wl (c_Lone (cfgM K)))) := by
  refine X.F_Lone.ok sc_Lone (fun vs H Q E h => spOf_len len_Lone h) (fun cdv A outer s H vs Q E hr h => ⟨t_Lone (cfgM K) E, PSs.nox ?_, fn_go (pure_Lone (sh_ok X)) vs H Q E h⟩)
  exact (pss_one (ps_ret (pe_ix ix_list (pv 1) (pe_call (ok_Ldraw X) (hr.mono (by decide)) (by rfl) X.g_Ldraw X.F_Ldraw.kp (b_Ldraw X) .nil pass0 (pa_cons (pv 0) (pa_cons (pe_callB call_len (by rfl) X.f_len (by decide +kernel) (pa_cons (pv 1) pa_nil)) pa_nil))) (fun _ _ => rfl))))
theorem b_Lword (X : Txt K mg) : Binds K (fdOf K (He.ga K "_law_word")) ["_law_well_here"] [] := X.F_Lword.bindsN fun _ _ _ _ _ _ us hl => match us, hl with | [_], _ => rfl
theorem ok_Lword (X : Txt K mg) : FnOk P w K mg base CX0 3 (He.ga K "_law_word") (fdOf K (He.ga K "_law_word")) ["_law_well_here"] (spOf (cfgM K) (wl (c_Lword (cfgM K)))) := by
  refine X.F_Lword.ok sc_Lword (fun vs H Q E h => spOf_len len_Lword h) (fun cdv A outer s H vs Q E hr h => ⟨t_Lword (cfgM K) E, PSs.nox ?_, fn_go (pure_Lword (sh_ok X)) vs H Q E h⟩)
  exact (pss_cons (ps_if (pt_cmpR op_eq (pe_call (ok_Ldraw X) (hr.mono (by decide)) (by rfl) X.g_Ldraw X.F_Ldraw.kp (b_Ldraw X) .nil pass0 (pa_cons (pv 0) (pa_cons pe_int pa_nil))) pe_int (nomark _)) (pss_one (ps_ret (pe_call (ok_Lone X) (hr.mono (by decide)) (by rfl) X.g_Lone X.F_Lone.kp (b_Lone X) .nil pass0 (pa_cons (pv 0) (pa_cons (pe_lst (pa_cons pe_str (pa_cons pe_str (pa_cons pe_str (pa_cons pe_str (pa_cons pe_str (pa_cons pe_str (pa_cons pe_str (pa_cons pe_str pa_nil))))))))) pa_nil))))) pss_nil)
      (pss_cons (ps_setLc (i := 1) (own := [("_law_k", 2)]) (g := (gName 2)) (tt := tYes) (by rfl) sc_Lword.nd rfl rfl (sw_true rfl rfl rfl (by decide +kernel)) (pi_range1 (by rfl) X.f_range (pa_cons (pe_call (ok_Lone X) (hr.mono (by decide)) (by rfl) X.g_Lone X.F_Lone.kp (b_Lone X) .nil pass0 (pa_cons (pv 0) (pa_cons (pe_lst (pa_cons pe_int (pa_cons pe_int (pa_cons pe_int (pa_cons pe_int pa_nil))))) pa_nil))) pa_nil)) (blkOk_by (own := [("_law_k", 2)]) (N := ["_law_well_here", "_law_letters", "_law_k"]) (sc := defScope s_Lword) (by decide +kernel)) (fun _ _ _ _ _ => (pg_name (i := 2) sc_Lword.nd rfl (by first | exact Or.inl rfl | exact Or.inr rfl))) (fun _ _ _ _ _ => pts_nil) (fun _ _ _ _ _ => (pe_call (ok_Ldraw X) (hr.mono (by decide)) (by rfl) X.g_Ldraw X.F_Ldraw.kp (b_Ldraw X) .nil pass0 (pa_cons (pv 0) (pa_cons pe_int pa_nil)))))
      (pss_one (ps_ret (pe_join pe_str (pe_lc (own := [("_law_k", 2)]) (g := (gName 2)) (tt := tYes) (by rfl) sc_Lword.nd (pi_list (pv 1)) (blkOk_by (own := [("_law_k", 2)]) (N := ["_law_well_here", "_law_letters", "_law_k"]) (sc := defScope s_Lword) (by decide +kernel)) (fun _ _ _ _ _ => (pg_name (i := 2) sc_Lword.nd rfl (by first | exact Or.inl rfl | exact Or.inr rfl))) (fun _ _ _ _ _ => pts_nil) (fun _ _ _ _ _ => (pe_ix ix_str pe_str (pv 2) (fun _ _ => rfl)))))))))
theorem b_Lunlike (X : Txt K mg) : Binds K (fdOf K (He.ga K "_law_unlike")) ["_law_well_here", "_law_most"] [] := X.F_Lunlike.bindsN fun _ _ _ _ _ _ us hl => match us, hl with | [_, _], _ => rfl
theorem ok_Lunlike (X : Txt K mg) : FnOk P w K mg base CX0 4 (He.ga K "_law_unlike") (fdOf K (He.ga K "_law_unlike")) ["_law_well_here", "_law_most"] (spOf (cfgM K) (wl (c_Lunlike (cfgM K)))) := by
  refine X.F_Lunlike.ok sc_Lunlike (fun vs H Q E h => spOf_len len_Lunlike h) (fun cdv A outer s H vs Q E hr h => ⟨t_Lunlike (cfgM K) E, PSs.nox ?_, fn_go (pure_Lunlike (sh_ok X)) vs H Q E h⟩)
  exact (pss_cons (ps_set (i := 2) sc_Lunlike.nd rfl (by first | exact Or.inl rfl | exact Or.inr rfl) (pe_lst pa_nil))
      (pss_cons (ps_for PassesOwn.never rfl (pi_range1 (by rfl) X.f_range (pa_cons (pe_call (ok_Ldraw X) (hr.mono (by decide)) (by rfl) X.g_Ldraw X.F_Ldraw.kp (b_Ldraw X) .nil pass0 (pa_cons (pv 0) (pa_cons (pe_op op_add (pv 1) pe_int) pa_nil))) pa_nil)) (pg_name (i := 3) sc_Lunlike.nd rfl (by first | exact Or.inl rfl | exact Or.inr rfl)) (pss_cons (ps_set (i := 4) sc_Lunlike.nd rfl (by first | exact Or.inl rfl | exact Or.inr rfl) (pe_call (ok_Lword X) (hr.mono (by decide)) (by rfl) X.g_Lword X.F_Lword.kp (b_Lword X) .nil pass0 (pa_cons (pv 0) pa_nil)))
      (pss_one (ps_set (i := 2) sc_Lunlike.nd rfl (by first | exact Or.inl rfl | exact Or.inr rfl) (pe_op op_cat (pv 2) (pe_op op_rep (pe_lst (pa_cons (pv 4) pa_nil)) (pe_callTy call_int1 (by rfl) X.f_int (by decide +kernel) (pa_cons (pe_cmpR op_notIn_seq (pv 4) (pv 2) (by rfl)) pa_nil))))))))
      (pss_one (ps_ret (pe_callTy call_tuple_of (by rfl) X.f_tuple (by decide +kernel) (pa_cons (pv 2) pa_nil))))))
theorem b_Lpairs (X : Txt K mg) : Binds K (fdOf K (He.ga K "_law_pairs")) ["_law_well_here"] [] := X.F_Lpairs.bindsN fun _ _ _ _ _ _ us hl => match us, hl with | [_], _ => rfl
theorem ok_Lpairs (X : Txt K mg) : FnOk P w K mg base CX0 5 (He.ga K "_law_pairs") (fdOf K (He.ga K "_law_pairs")) ["_law_well_here"] (spOf (cfgM K) (wl (c_Lpairs (cfgM K)))) := by
  refine X.F_Lpairs.ok sc_Lpairs (fun vs H Q E h => spOf_len len_Lpairs h) (fun cdv A outer s H vs Q E hr h => ⟨t_Lpairs (cfgM K) E, PSs.nox ?_, fn_go (pure_Lpairs (sh_ok X)) vs H Q E h⟩)
  exact (pss_cons (ps_set (i := 1) sc_Lpairs.nd rfl (by first | exact Or.inl rfl | exact Or.inr rfl) (pe_call (ok_Lunlike X) (hr.mono (by decide)) (by rfl) X.g_Lunlike X.F_Lunlike.kp (b_Lunlike X) .nil pass0 (pa_cons (pv 0) (pa_cons pe_int pa_nil))))
      (pss_cons (ps_set (i := 2) sc_Lpairs.nd rfl (by first | exact Or.inl rfl | exact Or.inr rfl) (pe_call (ok_Lunlike X) (hr.mono (by decide)) (by rfl) X.g_Lunlike X.F_Lunlike.kp (b_Lunlike X) .nil pass0 (pa_cons (pv 0) (pa_cons pe_int pa_nil))))
      (pss_cons (ps_if (pt_cmpR op_eq (pe_call (ok_Ldraw X) (hr.mono (by decide)) (by rfl) X.g_Ldraw X.F_Ldraw.kp (b_Ldraw X) .nil pass0 (pa_cons (pv 0) (pa_cons pe_int pa_nil))) pe_int (nomark _)) (pss_one (ps_set (i := 2) sc_Lpairs.nd rfl (by first | exact Or.inl rfl | exact Or.inr rfl) (pe_op op_catA (pe_slice sl_tupA (pv 1) (po_some pe_int) po_none) (pe_slice sl_tupA (pv 1) po_none (po_some pe_int))))) pss_nil)
      (pss_one (ps_ret (pe_callTy call_tuple_of (by rfl) X.f_tuple (by decide +kernel) (pa_cons (pe_lzT (by rfl) (by rfl) X.f_list (by rfl) X.f_zip (pa_cons (pv 1) (pa_cons (pv 2) pa_nil))) pa_nil)))))))
theorem b_Lweight (X : Txt K mg) : Binds K (fdOf K (He.ga K "_law_weight")) ["_law_well_here"] [] := X.F_Lweight.bindsN fun _ _ _ _ _ _ us hl => match us, hl with | [_], _ => rfl
theorem ok_Lweight (X : Txt K mg) : FnOk P w K mg base CX0 2 (He.ga K "_law_weight") (fdOf K (He.ga K "_law_weight")) ["_law_well_here"] (spOf (cfgM K) (wl (c_Lweight (cfgM K)))) := by
  refine X.F_Lweight.ok sc_Lweight (fun vs H Q E h => spOf_len len_Lweight h) (fun cdv A outer s H vs Q E hr h => ⟨t_Lweight (cfgM K) E, PSs.nox ?_, fn_go (pure_Lweight (sh_ok X)) vs H Q E h⟩)
  exact (pss_one (ps_ret (pe_ix ix_list (pe_lst (pa_cons pe_int (pa_cons pe_int (pa_cons (pe_op op_add pe_int (pe_call (ok_Ldraw X) (hr.mono (by decide)) (by rfl) X.g_Ldraw X.F_Ldraw.kp (b_Ldraw X) .nil pass0 (pa_cons (pv 0) (pa_cons pe_int pa_nil)))) (pa_cons (pe_op op_add pe_int (pe_call (ok_Ldraw X) (hr.mono (by decide)) (by rfl) X.g_Ldraw X.F_Ldraw.kp (b_Ldraw X) .nil pass0 (pa_cons (pv 0) (pa_cons pe_int pa_nil)))) pa_nil))))) (pe_call (ok_Ldraw X) (hr.mono (by decide)) (by rfl) X.g_Ldraw X.F_Ldraw.kp (b_Ldraw X) .nil pass0 (pa_cons (pv 0) (pa_cons pe_int pa_nil))) (fun _ _ => rfl))))
theorem b_Lname (X : Txt K mg) : Binds K (fdOf K (He.ga K "_law_name")) ["_law_well_here"] [] := X.F_Lname.bindsN fun _ _ _ _ _ _ us hl => match us, hl with | [_], _ => rfl
theorem ok_Lname (X : Txt K mg) : FnOk P w K mg base CX0 4 (He.ga K "_law_name") (fdOf K (He.ga K "_law_name")) ["_law_well_here"] (spOf (cfgM K) (wl (c_Lname (cfgM K)))) := by
  refine X.F_Lname.ok sc_Lname (fun vs H Q E h => spOf_len len_Lname h) (fun cdv A outer s H vs Q E hr h => ⟨t_Lname (cfgM K) E, PSs.nox ?_, fn_go (pure_Lname (sh_ok X)) vs H Q E h⟩)
  exact (pss_cons (ps_set (i := 1) sc_Lname.nd rfl (by first | exact Or.inl rfl | exact Or.inr rfl) (pe_call (ok_Lone X) (hr.mono (by decide)) (by rfl) X.g_Lone X.F_Lone.kp (b_Lone X) .nil pass0 (pa_cons (pv 0) (pa_cons (pe_lst (pa_cons pe_str (pa_cons pe_str (pa_cons pe_str (pa_cons pe_str (pa_cons pe_str (pa_cons (pe_call (ok_Lword X) (hr.mono (by decide)) (by rfl) X.g_Lword X.F_Lword.kp (b_Lword X) .nil pass0 (pa_cons (pv 0) pa_nil)) pa_nil))))))) pa_nil))))
      (pss_one (ps_ret (pe_ix ix_list (pe_lst (pa_cons (pv 1) (pa_cons pe_str pa_nil))) (pe_callTy call_int1 (by rfl) X.f_int (by decide +kernel) (pa_cons (pe_cmpR op_in_seq (pv 1) (pe_tup (pa_cons pe_str (pa_cons pe_str (pa_cons pe_str (pa_cons pe_str (pa_cons pe_str (pa_cons pe_str (pa_cons pe_str pa_nil)))))))) (by rfl)) pa_nil)) (fun _ _ => rfl)))))
theorem b_Lrecipe (X : Txt K mg) : Binds K (fdOf K (He.ga K "_law_recipe")) ["_law_well_here", "_law_room"] [] := X.F_Lrecipe.bindsN fun _ _ _ _ _ _ us hl => match us, hl with | [_, _], _ => rfl
theorem okr_Lrecipe (X : Txt K mg) : ∀ n, FnOk P w K mg base CX0 (6 + n) (He.ga K "_law_recipe") (fdOf K (He.ga K "_law_recipe")) ["_law_well_here", "_law_room"] (spOf (cfgM K) (wl (c_Lrecipe (cfgM K) n)))
  | 0 => Pw.fn_none fun vs H Q E h => Pw.sp_none no_Lrecipe h
  | n + 1 => by
    have ih := okr_Lrecipe X n
    rw [← Nat.add_assoc]
    refine X.F_Lrecipe.ok sc_Lrecipe (fun vs H Q E h => spOf_len len_Lrecipe h) (fun cdv A outer s H vs Q E hr h => ⟨t_Lrecipe (cfgM K) n E, PSs.nox ?_, fn_go (pure_Lrecipe (sh_ok X) n) vs H Q E h⟩)
    exact (pss_cons (ps_set (i := 2) sc_Lrecipe.nd rfl (by first | exact Or.inl rfl | exact Or.inr rfl) (pe_call (ok_Ldraw X) (hr.mono (by omega)) (by rfl) X.g_Ldraw X.F_Ldraw.kp (b_Ldraw X) .nil pass0 (pa_cons (pv 0) (pa_cons pe_int pa_nil))))
      (pss_cons (ps_if (PW.pt (pw_or (pt_cmpR op_lt (pv 1) pe_int (nomark _)) (pw_or1 (pt_cmpR op_eq (pv 2) pe_int (nomark _))))) (pss_one (ps_ret (pe_ix ix_list (pe_lst (pa_cons (pe_tup (pa_cons pe_str pa_nil)) (pa_cons (pe_tup (pa_cons pe_str (pa_cons (pe_call (ok_Lname X) (hr.mono (by omega)) (by rfl) X.g_Lname X.F_Lname.kp (b_Lname X) .nil pass0 (pa_cons (pv 0) pa_nil)) pa_nil))) pa_nil))) (pe_callTy call_int1 (by rfl) X.f_int (by decide +kernel) (pa_cons (pe_cmpR op_gt (pe_call (ok_Ldraw X) (hr.mono (by omega)) (by rfl) X.g_Ldraw X.F_Ldraw.kp (b_Ldraw X) .nil pass0 (pa_cons (pv 0) (pa_cons pe_int pa_nil))) pe_int (nomark _)) pa_nil)) (fun _ _ => rfl)))) pss_nil)
      (pss_cons (ps_if (pt_cmpR op_lt (pv 2) pe_int (nomark _)) (pss_one (ps_ret (pe_tup (pa_cons pe_str (pa_cons (pe_call (ok_Lword X) (hr.mono (by omega)) (by rfl) X.g_Lword X.F_Lword.kp (b_Lword X) .nil pass0 (pa_cons (pv 0) pa_nil)) (pa_cons (pe_call ih (hr.mono (by omega)) (by rfl) X.g_Lrecipe X.F_Lrecipe.kp (b_Lrecipe X) .nil pass0 (pa_cons (pv 0) (pa_cons (pe_op op_sub (pv 1) pe_int) pa_nil))) pa_nil)))))) pss_nil)
      (pss_cons (ps_if (pt_cmpR op_eq (pv 2) pe_int (nomark _)) (pss_one (ps_ret (pe_tup (pa_cons pe_str (pa_cons (pe_call (ok_Lunlike X) (hr.mono (by omega)) (by rfl) X.g_Lunlike X.F_Lunlike.kp (b_Lunlike X) .nil pass0 (pa_cons (pv 0) (pa_cons pe_int pa_nil))) (pa_cons (pe_call ih (hr.mono (by omega)) (by rfl) X.g_Lrecipe X.F_Lrecipe.kp (b_Lrecipe X) .nil pass0 (pa_cons (pv 0) (pa_cons (pe_op op_sub (pv 1) pe_int) pa_nil))) pa_nil)))))) pss_nil)
      (pss_cons (ps_if (pt_cmpR op_eq (pv 2) pe_int (nomark _)) (pss_one (ps_ret (pe_tup (pa_cons pe_str (pa_cons (pe_call (ok_Lpairs X) (hr.mono (by omega)) (by rfl) X.g_Lpairs X.F_Lpairs.kp (b_Lpairs X) .nil pass0 (pa_cons (pv 0) pa_nil)) (pa_cons (pe_call ih (hr.mono (by omega)) (by rfl) X.g_Lrecipe X.F_Lrecipe.kp (b_Lrecipe X) .nil pass0 (pa_cons (pv 0) (pa_cons (pe_op op_sub (pv 1) pe_int) pa_nil))) pa_nil)))))) pss_nil)
      (pss_cons (ps_if (pt_cmpR op_lt (pv 1) pe_int (nomark _)) (pss_one (ps_ret (pe_tup (pa_cons pe_str (pa_cons (pe_call (ok_Lword X) (hr.mono (by omega)) (by rfl) X.g_Lword X.F_Lword.kp (b_Lword X) .nil pass0 (pa_cons (pv 0) pa_nil)) (pa_cons (pe_tup (pa_cons pe_str (pa_cons (pe_call (ok_Lname X) (hr.mono (by omega)) (by rfl) X.g_Lname X.F_Lname.kp (b_Lname X) .nil pass0 (pa_cons (pv 0) pa_nil)) pa_nil))) pa_nil)))))) pss_nil)
      (pss_cons (ps_set (i := 3) sc_Lrecipe.nd rfl (by first | exact Or.inl rfl | exact Or.inr rfl) (pe_op op_add pe_int (pe_call (ok_Ldraw X) (hr.mono (by omega)) (by rfl) X.g_Ldraw X.F_Ldraw.kp (b_Ldraw X) .nil pass0 (pa_cons (pv 0) (pa_cons (pe_op op_sub (pv 1) pe_int) pa_nil)))))
      (pss_cons (ps_if (pt_cmpR op_lt (pv 2) pe_int (nomark _)) (pss_cons (ps_set (i := 5) sc_Lrecipe.nd rfl (by first | exact Or.inl rfl | exact Or.inr rfl) (pe_call ih (hr.mono (by omega)) (by rfl) X.g_Lrecipe X.F_Lrecipe.kp (b_Lrecipe X) .nil pass0 (pa_cons (pv 0) (pa_cons (pv 3) pa_nil))))
      (pss_one (ps_ret (pe_tup (pa_cons pe_str (pa_cons (pe_call (ok_Lunlike X) (hr.mono (by omega)) (by rfl) X.g_Lunlike X.F_Lunlike.kp (b_Lunlike X) .nil pass0 (pa_cons (pv 0) (pa_cons pe_int pa_nil))) (pa_cons (pv 5) (pa_cons (pe_call ih (hr.mono (by omega)) (by rfl) X.g_Lrecipe X.F_Lrecipe.kp (b_Lrecipe X) .nil pass0 (pa_cons (pv 0) (pa_cons (pe_op op_sub (pe_op op_sub (pv 1) pe_int) (pv 3)) pa_nil))) pa_nil)))))))) pss_nil)
      (pss_cons (ps_set (i := 4) sc_Lrecipe.nd rfl (by first | exact Or.inl rfl | exact Or.inr rfl) (pe_tup (pa_cons (pe_call (ok_Lweight X) (hr.mono (by omega)) (by rfl) X.g_Lweight X.F_Lweight.kp (b_Lweight X) .nil pass0 (pa_cons (pv 0) pa_nil)) (pa_cons (pe_call (ok_Lweight X) (hr.mono (by omega)) (by rfl) X.g_Lweight X.F_Lweight.kp (b_Lweight X) .nil pass0 (pa_cons (pv 0) pa_nil)) pa_nil))))
      (pss_cons (ps_set (i := 5) sc_Lrecipe.nd rfl (by first | exact Or.inl rfl | exact Or.inr rfl) (pe_call ih (hr.mono (by omega)) (by rfl) X.g_Lrecipe X.F_Lrecipe.kp (b_Lrecipe X) .nil pass0 (pa_cons (pv 0) (pa_cons (pv 3) pa_nil))))
      (pss_one (ps_ret (pe_tup (pa_cons pe_str (pa_cons (pe_call (ok_Lword X) (hr.mono (by omega)) (by rfl) X.g_Lword X.F_Lword.kp (b_Lword X) .nil pass0 (pa_cons (pv 0) pa_nil)) (pa_cons (pv 4) (pa_cons (pv 5) (pa_cons (pe_call ih (hr.mono (by omega)) (by rfl) X.g_Lrecipe X.F_Lrecipe.kp (b_Lrecipe X) .nil pass0 (pa_cons (pv 0) (pa_cons (pe_op op_sub (pe_op op_sub (pv 1) pe_int) (pv 3)) pa_nil))) pa_nil))))))))))))))))))
theorem ok_Lrecipe (X : Txt K mg) : FnOk P w K mg base CX0 37 (He.ga K "_law_recipe") (fdOf K (He.ga K "_law_recipe")) ["_law_well_here", "_law_room"] (spOf (cfgM K) (wl (c_Lrecipe (cfgM K) 31))) := okr_Lrecipe X 31
theorem b_Lwords72 (X : Txt K mg) : Binds K (fdOf K (He.ga K "_law_words")) ["_law_recipe_here"] [] := X.F_Lwords72.bindsN fun _ _ _ _ _ _ us hl => match us, hl with | [_], _ => rfl
theorem okr_Lwords72 (X : Txt K mg) : ∀ n, FnOk P w K mg base CX0 (1 + n) (He.ga K "_law_words") (fdOf K (He.ga K "_law_words")) ["_law_recipe_here"] (spOf (cfgM K) (pu (c_Lwords72 (cfgM K) n)))
  | 0 => Pw.fn_none fun vs H Q E h => Pw.sp_none no_Lwords72 h
  | n + 1 => by
    have ih := okr_Lwords72 X n
    rw [← Nat.add_assoc]
    refine X.F_Lwords72.ok sc_Lwords72 (fun vs H Q E h => spOf_len len_Lwords72 h) (fun cdv A outer s H vs Q E hr h => ⟨t_Lwords72 (cfgM K) n E, PSs.nox ?_, fn_go (pure_Lwords72 (sh_ok X) n) vs H Q E h⟩)
    exact (pss_cons (ps_set (i := 1) sc_Lwords72.nd rfl (by first | exact Or.inl rfl | exact Or.inr rfl) (pe_ix ix_tup (pv 0) pe_int (fun _ _ => rfl)))
      (pss_cons (ps_if (pt_cmpR op_eq (pv 1) pe_str (nomark _)) (pss_one (ps_ret (pe_lst (pa_cons pe_str pa_nil)))) pss_nil)
      (pss_cons (ps_if (pt_cmpR op_eq (pv 1) pe_str (nomark _)) (pss_one (ps_ret (pe_lst (pa_cons (pe_ix ix_tup (pv 0) pe_int (fun _ _ => rfl)) pa_nil)))) pss_nil)
      (pss_cons (ps_if (pt_cmpR op_eq (pv 1) pe_str (nomark _)) (pss_one (ps_ret (pe_op op_cat (pe_lst (pa_cons (pv 1) (pa_cons (pe_ix ix_tup (pv 0) pe_int (fun _ _ => rfl)) pa_nil))) (pe_call ih (hr.mono (by omega)) (by rfl) X.g_Lwords72 X.F_Lwords72.kp (b_Lwords72 X) .nil pass0 (pa_cons (pe_ix ix_tup (pv 0) pe_int (fun _ _ => rfl)) pa_nil))))) pss_nil)
      (pss_cons (ps_if (pt_cmpR op_eq (pv 1) pe_str (nomark _)) (pss_cons (ps_set (i := 2) sc_Lwords72.nd rfl (by first | exact Or.inl rfl | exact Or.inr rfl) (pe_lst (pa_cons (pv 1) (pa_cons (pe_ix ix_tup (pv 0) pe_int (fun _ _ => rfl)) (pa_cons (pe_callTy call_str_int (by rfl) X.f_str (by decide +kernel) (pa_cons (pe_ix ix_tup (pe_ix ix_tup (pv 0) pe_int (fun _ _ => rfl)) pe_int (fun _ _ => rfl)) pa_nil)) (pa_cons (pe_callTy call_str_int (by rfl) X.f_str (by decide +kernel) (pa_cons (pe_ix ix_tup (pe_ix ix_tup (pv 0) pe_int (fun _ _ => rfl)) pe_int (fun _ _ => rfl)) pa_nil)) pa_nil))))))
      (pss_one (ps_ret (pe_op op_cat (pe_op op_cat (pv 2) (pe_call ih (hr.mono (by omega)) (by rfl) X.g_Lwords72 X.F_Lwords72.kp (b_Lwords72 X) .nil pass0 (pa_cons (pe_ix ix_tup (pv 0) pe_int (fun _ _ => rfl)) pa_nil))) (pe_call ih (hr.mono (by omega)) (by rfl) X.g_Lwords72 X.F_Lwords72.kp (b_Lwords72 X) .nil pass0 (pa_cons (pe_ix ix_tup (pv 0) pe_int (fun _ _ => rfl)) pa_nil)))))) pss_nil)
      (pss_cons (ps_if (pt_cmpR op_eq (pv 1) pe_str (nomark _)) (pss_cons (ps_setLc (i := 3) (own := [("_law_elder", 4), ("_law_newer", 5)]) (g := (gTup (cfgM K).K 2 (gCons (gName 4) (gCons (gName 5) gNil)))) (tt := tYes) (by rfl) sc_Lwords72.nd rfl rfl (sw_true rfl rfl rfl (by decide +kernel)) (pi_tup (pe_ix ix_tup (pv 0) pe_int (fun _ _ => rfl))) (blkOk_by (own := [("_law_elder", 4), ("_law_newer", 5)]) (N := ["_law_recipe_here", "_law_kind", "_law_told", "_law_pairs_here", "_law_elder", "_law_newer"]) (sc := defScope s_Lwords72) (by decide +kernel)) (fun _ _ _ _ _ => (pg_tup rfl (pgs_cons (pg_name (i := 4) sc_Lwords72.nd rfl (by first | exact Or.inl rfl | exact Or.inr rfl)) (pgs_cons (pg_name (i := 5) sc_Lwords72.nd rfl (by first | exact Or.inl rfl | exact Or.inr rfl)) pgs_nil)))) (fun _ _ _ _ _ => pts_nil) (fun _ _ _ _ _ => (pe_op op_add_str (pe_op op_add_str (pv 4) pe_str) (pv 5))))
      (pss_one (ps_ret (pe_op op_cat (pe_lst (pa_cons (pv 1) (pa_cons (pe_op op_add_str (pe_join pe_str (pv 3)) (pe_op op_repZ pe_str (pe_callTy call_int1 (by rfl) X.f_int (by decide +kernel) (pa_cons (pe_cmpR (op_eqD hr.units) (pv 3) (pe_lst pa_nil) (nomark _)) pa_nil)))) pa_nil))) (pe_call ih (hr.mono (by omega)) (by rfl) X.g_Lwords72 X.F_Lwords72.kp (b_Lwords72 X) .nil pass0 (pa_cons (pe_ix ix_tup (pv 0) pe_int (fun _ _ => rfl)) pa_nil)))))) pss_nil)
      (pss_cons (ps_set (i := 2) sc_Lwords72.nd rfl (by first | exact Or.inl rfl | exact Or.inr rfl) (pe_op op_cat (pe_lst (pa_cons (pv 1) (pa_cons (pe_op op_add_str (pe_join pe_str (pe_ix ix_tup (pv 0) pe_int (fun _ _ => rfl))) (pe_op op_repZ pe_str (pe_callTy call_int1 (by rfl) X.f_int (by decide +kernel) (pa_cons (pe_cmpR (op_eqD hr.units) (pe_ix ix_tup (pv 0) pe_int (fun _ _ => rfl)) (pe_tup pa_nil) (nomark _)) pa_nil)))) pa_nil))) (pe_call ih (hr.mono (by omega)) (by rfl) X.g_Lwords72 X.F_Lwords72.kp (b_Lwords72 X) .nil pass0 (pa_cons (pe_ix ix_tup (pv 0) pe_int (fun _ _ => rfl)) pa_nil))))
      (pss_cons (ps_if (pt_cmpR op_eq (pv 1) pe_str (nomark _)) (pss_one (ps_set (i := 2) sc_Lwords72.nd rfl (by first | exact Or.inl rfl | exact Or.inr rfl) (pe_op op_cat (pv 2) (pe_call ih (hr.mono (by omega)) (by rfl) X.g_Lwords72 X.F_Lwords72.kp (b_Lwords72 X) .nil pass0 (pa_cons (pe_ix ix_tup (pv 0) pe_int (fun _ _ => rfl)) pa_nil))))) pss_nil)
      (pss_one (ps_ret (pv 2)))))))))))
theorem ok_Lwords72 (X : Txt K mg) : FnOk P w K mg base CX0 32 (He.ga K "_law_words") (fdOf K (He.ga K "_law_words")) ["_law_recipe_here"] (spOf (cfgM K) (pu (c_Lwords72 (cfgM K) 31))) := okr_Lwords72 X 31
theorem b_Lnames72 (X : Txt K mg) : Binds K (fdOf K (He.ga K "_law_names")) ["_law_recipe_here"] [] := X.F_Lnames72.bindsN fun _ _ _ _ _ _ us hl => match us, hl with | [_], _ => rfl
theorem okr_Lnames72 (X : Txt K mg) : ∀ n, FnOk P w K mg base CX0 (1 + n) (He.ga K "_law_names") (fdOf K (He.ga K "_law_names")) ["_law_recipe_here"] (spOf (cfgM K) (pu (c_Lnames72 (cfgM K) n)))
  | 0 => Pw.fn_none fun vs H Q E h => Pw.sp_none no_Lnames72 h
  | n + 1 => by
    have ih := okr_Lnames72 X n
    rw [← Nat.add_assoc]
    refine X.F_Lnames72.ok sc_Lnames72 (fun vs H Q E h => spOf_len len_Lnames72 h) (fun cdv A outer s H vs Q E hr h => ⟨t_Lnames72 (cfgM K) n E, PSs.nox ?_, fn_go (pure_Lnames72 (sh_ok X) n) vs H Q E h⟩)
    exact (pss_cons (ps_if (pt_cmpR op_in_seq (pe_ix ix_tup (pv 0) pe_int (fun _ _ => rfl)) (pe_tup (pa_cons pe_str (pa_cons pe_str pa_nil))) (by rfl)) (pss_one (ps_ret (pe_callTy call_list_of (by rfl) X.f_list (by decide +kernel) (pa_cons (pe_slice sl_tupA (pv 0) (po_some pe_int) po_none) pa_nil)))) pss_nil)
      (pss_cons (ps_set (i := 1) sc_Lnames72.nd rfl (by first | exact Or.inl rfl | exact Or.inr rfl) (pe_lst pa_nil))
      (pss_cons (ps_for PassesOwn.never rfl (pi_tup (pe_slice sl_tupA (pv 0) (po_some (pe_op op_add pe_int (pe_callTy call_int1 (by rfl) X.f_int (by decide +kernel) (pa_cons (pe_cmpR (op_eqD hr.units) (pe_ix ix_tup (pv 0) pe_int (fun _ _ => rfl)) pe_str (nomark _)) pa_nil)))) po_none)) (pg_name (i := 2) sc_Lnames72.nd rfl (by first | exact Or.inl rfl | exact Or.inr rfl)) (pss_one (ps_set (i := 1) sc_Lnames72.nd rfl (by first | exact Or.inl rfl | exact Or.inr rfl) (pe_op op_cat (pv 1) (pe_call ih (hr.mono (by omega)) (by rfl) X.g_Lnames72 X.F_Lnames72.kp (b_Lnames72 X) .nil pass0 (pa_cons (pv 2) pa_nil))))))
      (pss_one (ps_ret (pv 1))))))
theorem ok_Lnames72 (X : Txt K mg) : FnOk P w K mg base CX0 32 (He.ga K "_law_names") (fdOf K (He.ga K "_law_names")) ["_law_recipe_here"] (spOf (cfgM K) (pu (c_Lnames72 (cfgM K) 31))) := okr_Lnames72 X 31
theorem b_Lright72 (X : Txt K mg) : Binds K (fdOf K (He.ga K "_law_right")) ["_law_well_here"] [] := X.F_Lright72.bindsN fun _ _ _ _ _ _ us hl => match us, hl with | [_], _ => rfl
theorem ok_Lright72 (X : Txt K mg) : FnOkG P w K mg base CX0 39 (He.ga K "_law_right") (fdOf K (He.ga K "_law_right")) ["_law_well_here"] (spOf (cfgM K) (c_Lright72 (cfgM K))) := by
  refine okG X.F_Lright72 sc_Lright72 (fun vs H Q E h => spOf_len len_Lright72 h) (fun cdv A outer s H vs Q E hgu hr h => ⟨t_Lright72 (cfgM K) E, PSs.nox ?_, fn_go (pure_Lright72 (rd_ok X)) vs H Q E h⟩)
  exact (pss_cons (ps_set (i := 1) sc_Lright72.nd rfl (by first | exact Or.inl rfl | exact Or.inr rfl) (pe_lst pa_nil))
      (pss_cons (ps_set (i := 2) sc_Lright72.nd rfl (by first | exact Or.inl rfl | exact Or.inr rfl) (pe_lst pa_nil))
      (pss_cons (ps_for PassesOwn.never rfl (pi_range1 (by rfl) X.f_range (pa_cons pe_int pa_nil)) (pg_name (i := 3) sc_Lright72.nd rfl (by first | exact Or.inl rfl | exact Or.inr rfl)) (pss_cons (ps_set (i := 4) sc_Lright72.nd rfl (by first | exact Or.inl rfl | exact Or.inr rfl) (pe_call (ok_Lrecipe X) (hr.mono (by decide)) (by rfl) X.g_Lrecipe X.F_Lrecipe.kp (b_Lrecipe X) .nil pass0 (pa_cons (pv 0) (pa_cons (pe_call (ok_Lone X) (hr.mono (by decide)) (by rfl) X.g_Lone X.F_Lone.kp (b_Lone X) .nil pass0 (pa_cons (pv 0) (pa_cons (pe_lst (pa_cons pe_int (pa_cons pe_int (pa_cons pe_int (pa_cons (pe_op op_add pe_int (pe_call (ok_Ldraw X) (hr.mono (by decide)) (by rfl) X.g_Ldraw X.F_Ldraw.kp (b_Ldraw X) .nil pass0 (pa_cons (pv 0) (pa_cons pe_int pa_nil)))) pa_nil))))) pa_nil))) pa_nil))))
      (pss_cons (ps_set (i := 5) sc_Lright72.nd rfl (by first | exact Or.inl rfl | exact Or.inr rfl) (pe_join pe_str (pe_call (ok_Lwords72 X) (hr.mono (by decide)) (by rfl) X.g_Lwords72 X.F_Lwords72.kp (b_Lwords72 X) .nil pass0 (pa_cons (pv 4) pa_nil))))
      (pss_cons (ps_set (i := 6) sc_Lright72.nd rfl (by first | exact Or.inl rfl | exact Or.inr rfl) (pe_callB (call_reprD hgu hr) (by rfl) X.f_repr (by decide +kernel) (pa_cons (pv 4) pa_nil)))
      (pss_cons (ps_for PassesOwn.never rfl (pi_range1 (by rfl) X.f_range (pa_cons pe_int pa_nil)) (pg_name (i := 7) sc_Lright72.nd rfl (by first | exact Or.inl rfl | exact Or.inr rfl)) (pss_cons (ps_set (i := 8) sc_Lright72.nd rfl (by first | exact Or.inl rfl | exact Or.inr rfl) (pe_call (ok_read_recipe X) (hr.mono (by decide)) (by rfl) X.g_read_recipe X.F_read_recipe.kp (b_read_recipe X) .nil pass0 (pa_cons (pv 5) pa_nil)))
      (pss_cons (ps_if (PW.pt (pw_or (pt_cmpR op_ne (pe_call (ok_show_recipe X) (hr.mono (by decide)) (by rfl) X.g_show_recipe X.F_show_recipe.kp (b_show_recipe X) .nil pass0 (pa_cons (pv 4) pa_nil)) (pv 5) (nomark _)) (pw_or (pt_cmpR op_ne (pe_callB (call_reprD hgu hr) (by rfl) X.f_repr (by decide +kernel) (pa_cons (pv 8) pa_nil)) (pv 6) (nomark _)) (pw_or1 (pt_cmpR op_ne (pe_call (ok_show_recipe X) (hr.mono (by decide)) (by rfl) X.g_show_recipe X.F_show_recipe.kp (b_show_recipe X) .nil pass0 (pa_cons (pv 8) pa_nil)) (pv 5) (nomark _)))))) (pss_one (ps_ret pe_bl)) pss_nil)
      (pss_cons (ps_set (i := 9) sc_Lright72.nd rfl (by first | exact Or.inl rfl | exact Or.inr rfl) (pe_call (ok_parts_of X) (hr.mono (by decide)) (by rfl) X.g_parts_of X.F_parts_of.kp (b_parts_of X) .nil pass0 (pa_cons (pv 4) pa_nil)))
      (pss_cons (ps_if (PW.pt (pw_or (pt_cmpR (op_neD hr.units) (pv 9) (pe_sortSetT (by rfl) hr.units (by rfl) X.f_sorted (by rfl) X.f_set (pe_call (ok_Lnames72 X) (hr.mono (by decide)) (by rfl) X.g_Lnames72 X.F_Lnames72.kp (b_Lnames72 X) .nil pass0 (pa_cons (pv 4) pa_nil))) (nomark _)) (pw_or1 (pt_not (pt_val (pe_callB call_isi (by rfl) X.f_isinstance (by decide +kernel) (pa_cons (pv 9) (pa_cons (pe_bltn (by rfl) X.f_list (by decide +kernel) rfl) pa_nil)))))))) (pss_one (ps_ret pe_bl)) pss_nil)
      (pss_one (ps_expr (pe_bm PySem.F.plainAttrs_list PySem.F.slot_list_append PySem.F.type_list_append mt_append (pv 9) (pa_cons pe_str pa_nil)))))))))
      (pss_cons (ps_if (PW.pt (pw_or (pt_cmpR op_ne (pe_callB (call_reprD hgu hr) (by rfl) X.f_repr (by decide +kernel) (pa_cons (pv 4) pa_nil)) (pv 6) (nomark _)) (pw_or1 (pt_cmpR op_gt (pe_callB call_len (by rfl) X.f_len (by decide +kernel) (pa_cons (pe_split (pv 5) pe_str) pa_nil)) pe_int (nomark _))))) (pss_one (ps_ret pe_bl)) pss_nil)
      (pss_cons (ps_expr (pe_bm PySem.F.plainAttrs_list PySem.F.slot_list_append PySem.F.type_list_append mt_append (pv 1) (pa_cons (pv 5) pa_nil)))
      (pss_one (ps_expr (pe_bm PySem.F.plainAttrs_list PySem.F.slot_list_append PySem.F.type_list_append mt_append (pv 2) (pa_cons (pv 4) pa_nil)))))))))))
      (pss_one (ps_ret (pe_cmpR op_eq (pe_cmpR op_eq (pe_ix ix_list (pv 1) pe_int (fun _ _ => rfl)) (pe_ix ix_list (pv 1) pe_int (fun _ _ => rfl)) (nomark _)) (pe_cmpR (op_eqD hr.units) (pe_ix ix_list (pv 2) pe_int (fun _ _ => rfl)) (pe_ix ix_list (pv 2) pe_int (fun _ _ => rfl)) (nomark _)) (nomark _)))))))
theorem ok_law (X : Txt K mg) : FnOkG P w K mg base CX0 40 (He.ga K "law") (fdOf K (He.ga K "law")) ["_law_script"] (spOf (cfgM K) (c_law (cfgM K))) := by
  refine okG X.F_law sc_law (fun vs H Q E h => spOf_len len_law h) (fun cdv A outer s H vs Q E hgu hr h => ⟨t_law (cfgM K) E, PSs.nox ?_, fn_go (pure_law (rd_ok X)) vs H Q E h⟩)
  exact (pss_cons (ps_for PassesOwn.never rfl (pi_list (pe_op op_cat (pe_lst (pa_cons pe_int (pa_cons pe_int pa_nil))) (pe_slice sl_list (pv 0) po_none (po_some pe_int)))) (pg_name (i := 1) sc_law.nd rfl (by first | exact Or.inl rfl | exact Or.inr rfl)) (pss_one (ps_if (pt_not (pt_val (pe_callG (ok_Lright72 X) hgu (hr.mono (by decide)) (by rfl) X.g_Lright72 X.F_Lright72.kp (b_Lright72 X) .nil pass0 (pa_cons (pe_call (ok_Lwell X) (hr.mono (by decide)) (by rfl) X.g_Lwell X.F_Lwell.kp (b_Lwell X) .nil pass0 (pa_cons (pv 1) pa_nil)) pa_nil)))) (pss_one (ps_ret pe_bl)) pss_nil)))
      (pss_one (ps_ret pe_bl)))
end
end Lw
open PySem PySem.W PySem.Calls PyProof.Rows
theorem PySem.Challenge.cw_farbetween_k72_recipes_as_texts_holds : PySem.Challenge.rw_farbetween_k72_recipes_as_texts.Holds := by
  w_on; o_law
  refine HandSHeadRun.head_any (r := OpenLaw.row PySem.Challenge.rw_farbetween_k72_recipes_as_texts) (q := view (OpenLaw.row PySem.Challenge.rw_farbetween_k72_recipes_as_texts).prog [45]) (H := Lw.hk) (ob := Lw.ob) (M := 6000) (loose := Lw.loose) (d := HandSHeadRun.topDef (OpenLaw.row PySem.Challenge.rw_farbetween_k72_recipes_as_texts).prog 45) (kwd := []) Lw.ob_eq
    (by kernel_rfl) (fun s => by kernel_rfl) Lw.run (by kernel_rfl) (by kernel_rfl) (by kernel_rfl) (by rfl) (by first | assumption | decide +kernel) (by decide +kernel) ⟨rfl, rfl, rfl, rfl, rfl, by decide +kernel⟩ ?hw ?hc
  case hw => w_witness2
  case hc =>
    refine Pw.walk_G (l := PySem.Challenge.rw_farbetween_k72_recipes_as_texts) (n := 63) (k := 40) (x := "_law_script") (CX := L2.CX0) rfl (by decide) (by kernel_rfl) ⟨rfl, by decide, by decide⟩ ?F (fun _ _ _ _ z => z)
    intro w mg fa h Y G hmg0
    obtain ⟨K, KX, c⟩ := Y
    have hmg : mg ("law" : PySem.Str) = some (.ref fa) := by
      have e : (HandSHeadRun.topDef (OpenLaw.row PySem.Challenge.rw_farbetween_k72_recipes_as_texts).prog 45).name = ("law" : PySem.Str) := by kernel_rfl
      rw [← e]
      exact hmg0
    have X := Lw.txt_of KX G c
    have e := hmg.symm.trans X.g_law
    cases e
    exact ⟨K, _, _, KX, fun s v => (L2.FunD.bindsA (ps := ["_law_script"]) X.F_law fun _ _ _ _ _ _ us hl => match us, hl with | [_], _ => rfl) s [v] rfl, fun H a ns hl hS => Pw.law_start hl hS, fun base _ _ => Lw.ok_law X⟩
