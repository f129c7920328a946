import PyProof.Rows.All
import Wide.All
import OpenK.AllK
import Wide.FinOn
import HandS.ForMost
import HandS.ForExc
import HandS.Evl
import HandS.Wide
import HandS.FStr
import HandS.IsInst
import HandS.Defaults
import HandS.OwnEq
import KE.KCallOwn
import HandS.Head0
import HandS.Head1
import HandS.Head2
import HandS.HeadEnd
import HandS.HeadHook1
import HandS.HeadHook2
import HandS.Style
import HandS.TryOnly
import HandS.ExcIs
import HandS.Lambda
import HandS.TupAny
import HandS.Zip
import HandS.SortKw
import KE.DataMinMax
import HandS.More
import HandS.HeadHook3
import HandS.TupLe
import PyProof.NeKinds
import PySem.Challenge.RW_farbetween_k11_plans_judged
set_option Elab.async false
set_option linter.all false
set_option maxRecDepth 100000
set_option maxHeartbeats 4000000

/-! Pw: a pure walk. Data as values of a datatype D; what may change stands in a small store Mu; readings of the hand layer over these, without the heap. -/
namespace Pw
open PySem PySem.Spec PyProof.Rows L2
open Evl (Ex ex_l ex_t fresh_back)

inductive D where
  | non | bl (b : Bool) | int (i : Int) | str (x : Str) | ty (n : String) | ptr (a : Addr)
  | lst (ds : List D) | seq (ds : List D) | tup (ds : List D) | ins (c : Nat) (fs : List (Str × D)) | dic (kvs : List (Key × D))
/-- what may change -/
inductive MO where
  | lst (ds : List D) | dK (kvs : List (Key × D)) | ins (c : Nat) (fs : List (Str × D)) | well (b : Nat)
abbrev Mu := Addr → Option MO
abbrev mu0 : Mu := fun _ => none
def put (μ : Mu) (a : Addr) (m : MO) : Mu := fun b => if b = a then some m else μ b
def del (μ : Mu) (a : Addr) : Mu := fun b => if b = a then none else μ b
theorem put_same {μ : Mu} {a : Addr} {m : MO} : put μ a m a = some m := if_pos rfl
theorem put_ne {μ : Mu} {a b : Addr} {m : MO} (h : b ≠ a) : put μ a m b = μ b := if_neg h
theorem put_put {μ : Mu} {a : Addr} {m n : MO} : put (put μ a m) a n = put μ a n := by
  funext b; unfold put; split <;> rfl
theorem del_put {μ : Mu} {a : Addr} {m : MO} (h : μ a = none) : del (put μ a m) a = μ := by
  funext b; unfold del put; split
  · rename_i e; rw [e, h]
  · rfl
theorem put_get {μ : Mu} {a : Addr} {m : MO} (h : μ a = some m) : put μ a m = μ := by
  funext b; unfold put; split
  · rename_i e; rw [e, h]
  · rfl
structure Cfg where
  K : PySem.W.Frag
  cls : Nat → Addr

inductive Rep (T : Cfg) (H : Hp) : D → V → Prop where
  | non : Rep T H .non .non
  | bl (b : Bool) : Rep T H (.bl b) (.bl b)
  | int (i : Int) : Rep T H (.int i) (.int i)
  | str (x : Str) : Rep T H (.str x) (.str x)
  | ty (n : String) : Rep T H (.ty n) (.ty n)
  | ptr (a : Addr) : Rep T H (.ptr a) (.ref a)
  | lst {a : Addr} {ds : List D} {xs : List V} (h : H a = some (.lst xs)) (l : ds.length = xs.length) (r : ∀ (i : Nat) (d : D) (v : V), ds[i]? = some d → xs[i]? = some v → Rep T H d v) : Rep T H (.lst ds) (.ref a)
  | seq {a : Addr} {ds : List D} {xs : List V} (h : SqL T.K H a xs) (l : ds.length = xs.length) (r : ∀ (i : Nat) (d : D) (v : V), ds[i]? = some d → xs[i]? = some v → Rep T H d v) : Rep T H (.seq ds) (.ref a)
  | tup {a : Addr} {ds : List D} {xs : List V} (h : SqT T.K H a xs) (l : ds.length = xs.length) (r : ∀ (i : Nat) (d : D) (v : V), ds[i]? = some d → xs[i]? = some v → Rep T H d v) : Rep T H (.tup ds) (.ref a)
  | ins {a dx : Addr} {c : Nat} {gs : List (Str × D)} {fs : List (Str × V)} (h : H a = some (.ins (T.cls c) dx fs)) (l : gs.map (·.1) = fs.map (·.1)) (r : ∀ (i : Nat) (g : Str × D) (f : Str × V), gs[i]? = some g → fs[i]? = some f → Rep T H g.2 f.2) : Rep T H (.ins c gs) (.ref a)
  | dic {a : Addr} {gs : List (Key × D)} {fs : List (Key × V)} (h : H a = some (.dK fs)) (l : gs.map (·.1) = fs.map (·.1)) (r : ∀ (i : Nat) (g : Key × D) (f : Key × V), gs[i]? = some g → fs[i]? = some f → Rep T H g.2 f.2) : Rep T H (.dic gs) (.ref a)

def RepL (T : Cfg) (H : Hp) (ds : List D) (xs : List V) : Prop := ds.length = xs.length ∧ ∀ (i : Nat) (d : D) (v : V), ds[i]? = some d → xs[i]? = some v → Rep T H d v
def RepP {α : Type} (T : Cfg) (H : Hp) (gs : List (α × D)) (fs : List (α × V)) : Prop := gs.map (·.1) = fs.map (·.1) ∧ ∀ (i : Nat) (g : α × D) (f : α × V), gs[i]? = some g → fs[i]? = some f → Rep T H g.2 f.2
section
variable {T : Cfg} {H H' : Hp}
theorem Rep.mono {d : D} {v : V} (e : Ex H H') (h : Rep T H d v) : Rep T H' d v := by
  induction h with
  | non => exact .non
  | bl b => exact .bl b
  | int i => exact .int i
  | str x => exact .str x
  | ty n => exact .ty n
  | ptr a => exact .ptr a
  | lst h l r ih => exact .lst (e _ _ h) l ih
  | seq h l r ih => exact .seq (ex_l e h) l ih
  | tup h l r ih => exact .tup (ex_t e h) l ih
  | ins h l r ih => exact .ins (e _ _ h) l ih
  | dic h l r ih => exact .dic (e _ _ h) l ih
theorem RepL.mono {ds : List D} {xs : List V} (e : Ex H H') (h : RepL T H ds xs) : RepL T H' ds xs := ⟨h.1, fun i d v a b => (h.2 i d v a b).mono e⟩
theorem RepP.mono {α : Type} {gs : List (α × D)} {fs : List (α × V)} (e : Ex H H') (h : RepP T H gs fs) : RepP T H' gs fs := ⟨h.1, fun i d v a b => (h.2 i d v a b).mono e⟩
theorem RepL.nil : RepL T H [] [] := ⟨rfl, fun i d v a _ => by simp at a⟩
theorem RepL.cons {d : D} {v : V} {ds : List D} {xs : List V} (h : Rep T H d v) (t : RepL T H ds xs) : RepL T H (d :: ds) (v :: xs) := by
  refine ⟨by simp [t.1], fun i e w a b => ?_⟩
  cases i with
  | zero =>
    simp at a b
    subst a; subst b
    exact h
  | succ i =>
    simp at a b
    exact t.2 i e w a b
theorem RepL.head {d : D} {v : V} {ds : List D} {xs : List V} (h : RepL T H (d :: ds) (v :: xs)) : Rep T H d v := h.2 0 d v rfl rfl
theorem RepL.tail {d : D} {v : V} {ds : List D} {xs : List V} (h : RepL T H (d :: ds) (v :: xs)) : RepL T H ds xs := by
  refine ⟨by have := h.1; simpa using this, fun i e w a b => h.2 (i + 1) e w (by simpa using a) (by simpa using b)⟩
theorem RepL.nil_inv {xs : List V} (h : RepL T H [] xs) : xs = [] := by
  have := h.1
  cases xs with
  | nil => rfl
  | cons _ _ => simp at this
theorem RepL.cons_inv {d : D} {ds : List D} {xs : List V} (h : RepL T H (d :: ds) xs) : ∃ v ys, xs = v :: ys ∧ Rep T H d v ∧ RepL T H ds ys := by
  cases xs with
  | nil => have := h.1; simp at this
  | cons v ys => exact ⟨v, ys, rfl, h.head, h.tail⟩
theorem RepL.app {ds es : List D} {xs ys : List V} (h : RepL T H ds xs) (k : RepL T H es ys) : RepL T H (ds ++ es) (xs ++ ys) := by
  refine ⟨by simp [h.1, k.1], fun i d v a b => ?_⟩
  by_cases hi : i < ds.length
  · rw [List.getElem?_append_left hi] at a
    rw [List.getElem?_append_left (by rw [← h.1]; exact hi)] at b
    exact h.2 i d v a b
  · rw [List.getElem?_append_right (by omega)] at a
    rw [List.getElem?_append_right (by rw [← h.1]; omega), ← h.1] at b
    exact k.2 _ d v a b
theorem RepL.get {ds : List D} {xs : List V} (h : RepL T H ds xs) {i : Nat} {d : D} (a : ds[i]? = some d) : ∃ v, xs[i]? = some v ∧ Rep T H d v := by
  have hi : i < ds.length := (List.getElem?_eq_some_iff.mp a).1
  have hx : i < xs.length := by rw [← h.1]; exact hi
  exact ⟨xs[i], List.getElem?_eq_getElem hx, h.2 i d _ a (List.getElem?_eq_getElem hx)⟩
theorem RepL.getV {ds : List D} {xs : List V} (h : RepL T H ds xs) {i : Nat} {v : V} (a : xs[i]? = some v) : ∃ d, ds[i]? = some d ∧ Rep T H d v := by
  have hi : i < xs.length := (List.getElem?_eq_some_iff.mp a).1
  have hx : i < ds.length := by rw [h.1]; exact hi
  exact ⟨ds[i], List.getElem?_eq_getElem hx, h.2 i _ v (List.getElem?_eq_getElem hx) a⟩
theorem RepL.drop {ds : List D} {xs : List V} (h : RepL T H ds xs) (n : Nat) : RepL T H (ds.drop n) (xs.drop n) :=
  ⟨by simp [h.1], fun i d v a b => h.2 (n + i) d v (by simpa using a) (by simpa using b)⟩
theorem RepL.take {ds : List D} {xs : List V} (h : RepL T H ds xs) (n : Nat) : RepL T H (ds.take n) (xs.take n) := by
  refine ⟨by simp [h.1], fun i d v a b => ?_⟩
  rw [List.getElem?_take] at a b
  split at a
  · rename_i hi
    rw [if_pos hi] at b
    exact h.2 i d v a b
  · cases a
theorem RepL.set {ds : List D} {xs : List V} (h : RepL T H ds xs) {j : Nat} {d : D} {v : V} (r : Rep T H d v) : RepL T H (ds.set j d) (xs.set j v) := by
  refine ⟨by simp [h.1], fun i e w a b => ?_⟩
  rw [List.getElem?_set] at a b
  split at a
  · rename_i hij
    rw [if_pos hij] at b
    split at a
    · split at b
      · cases a; cases b; exact r
      · cases b
    · cases a
  · rename_i hij
    rw [if_neg hij] at b
    exact h.2 i e w a b
theorem RepL.ints {ns : List Int} {xs : List V} (h : RepL T H (ns.map D.int) xs) : xs = ns.map V.int := by
  induction ns generalizing xs with
  | nil => exact h.nil_inv
  | cons n r ih =>
    obtain ⟨v, ys, rfl, a, b⟩ := RepL.cons_inv (d := D.int n) (ds := r.map D.int) h
    cases a
    rw [ih b]
    rfl
theorem RepL.ofInts (ns : List Int) : RepL T H (ns.map D.int) (ns.map V.int) := by
  induction ns with
  | nil => exact .nil
  | cons n r ih => exact .cons (.int n) ih
theorem RepL.bls {bs : List Bool} {xs : List V} (h : RepL T H (bs.map D.bl) xs) : xs = bs.map V.bl := by
  induction bs generalizing xs with
  | nil => exact h.nil_inv
  | cons n r ih =>
    obtain ⟨v, ys, rfl, a, b⟩ := RepL.cons_inv (d := D.bl n) (ds := r.map D.bl) h
    cases a
    rw [ih b]
    rfl
theorem RepL.strs {ss : List Str} {xs : List V} (h : RepL T H (ss.map D.str) xs) : xs = ss.map V.str := by
  induction ss generalizing xs with
  | nil => exact h.nil_inv
  | cons n r ih =>
    obtain ⟨v, ys, rfl, a, b⟩ := RepL.cons_inv (d := D.str n) (ds := r.map D.str) h
    cases a
    rw [ih b]
    rfl
theorem Rep.lst_inv {ds : List D} {v : V} (h : Rep T H (.lst ds) v) : ∃ a xs, v = .ref a ∧ H a = some (.lst xs) ∧ RepL T H ds xs := by
  cases h with
  | lst h l r => exact ⟨_, _, rfl, h, l, r⟩
theorem Rep.seq_inv {ds : List D} {v : V} (h : Rep T H (.seq ds) v) : ∃ a xs, v = .ref a ∧ SqL T.K H a xs ∧ RepL T H ds xs := by
  cases h with
  | seq h l r => exact ⟨_, _, rfl, h, l, r⟩
theorem Rep.tup_inv {ds : List D} {v : V} (h : Rep T H (.tup ds) v) : ∃ a xs, v = .ref a ∧ SqT T.K H a xs ∧ RepL T H ds xs := by
  cases h with
  | tup h l r => exact ⟨_, _, rfl, h, l, r⟩
theorem Rep.ins_inv {c : Nat} {gs : List (Str × D)} {v : V} (h : Rep T H (.ins c gs) v) : ∃ a dx fs, v = .ref a ∧ H a = some (.ins (T.cls c) dx fs) ∧ RepP T H gs fs := by
  cases h with
  | ins h l r => exact ⟨_, _, _, rfl, h, l, r⟩
theorem RepP.look {gs : List (Str × D)} {fs : List (Str × V)} (h : RepP T H gs fs) {f : Str} {d : D} (e : gs.lookup f = some d) : ∃ v, fs.lookup f = some v ∧ Rep T H d v := by
  obtain ⟨h1, h2⟩ := h
  induction gs generalizing fs with
  | nil => simp at e
  | cons g gs ih =>
    cases fs with
    | nil => simp at h1
    | cons z fs =>
      obtain ⟨a, d'⟩ := g
      obtain ⟨b, v'⟩ := z
      simp only [List.map_cons, List.cons.injEq] at h1
      obtain ⟨e1, e2⟩ := h1
      have e1 : a = b := e1
      subst e1
      rw [List.lookup_cons] at e ⊢
      by_cases hf : (f == a) = true
      · rw [hf] at e ⊢
        have := h2 0 (a, d') (a, v') rfl rfl
        cases e
        exact ⟨v', rfl, this⟩
      · simp only [Bool.not_eq_true] at hf
        rw [hf] at e ⊢
        exact ih e e2 fun i g f a b => h2 (i + 1) g f (by simpa using a) (by simpa using b)
theorem RepP.lookNone {gs : List (Str × D)} {fs : List (Str × V)} (h : gs.map (·.1) = fs.map (·.1)) {f : Str} (e : gs.lookup f = none) : fs.lookup f = none := by
  induction gs generalizing fs with
  | nil => cases fs with
    | nil => rfl
    | cons _ _ => simp at h
  | cons g gs ih =>
    cases fs with
    | nil => simp at h
    | cons z fs =>
      obtain ⟨a, d'⟩ := g
      obtain ⟨b, v'⟩ := z
      simp only [List.map_cons, List.cons.injEq] at h
      obtain ⟨e1, e2⟩ := h
      have e1 : a = b := e1
      subst e1
      rw [List.lookup_cons] at e ⊢
      by_cases hf : (f == a) = true
      · rw [hf] at e; cases e
      · simp only [Bool.not_eq_true] at hf
        rw [hf] at e ⊢
        exact ih e2 e
end
def putG (f : Str) (d : D) : List (Str × D) → List (Str × D)
  | [] => [(f, d)]
  | (g, x) :: r => if g = f then (g, d) :: r else (g, x) :: putG f d r

def ObjRep (T : Cfg) (Hb : Hp) : MO → HO → Prop
  | .lst ds, .lst xs => RepL T Hb ds xs
  | .dK kvs, .dK es => RepP T Hb kvs es
  | .ins c gs, .ins C _ fs => C = T.cls c ∧ RepP T Hb gs fs
  | .well b, .lst xs => ∃ w0 w1 w2 : Int, xs = [.int w0, .int w1, .int w2] ∧ 0 ≤ w0 ∧ 0 ≤ w1 ∧ w1 < 2147483647 ∧ 0 ≤ w2 ∧ w2 + (b : Int) ≤ 1073741824
  | _, _ => False
theorem ObjRep.mono {T : Cfg} {H H' : Hp} {m : MO} {o : HO} (e : Ex H H') (h : ObjRep T H m o) : ObjRep T H' m o := by
  cases m <;> cases o <;> first
    | exact h.elim
    | exact RepL.mono e h
    | exact RepP.mono e h
    | exact ⟨h.1, RepP.mono e h.2⟩
    | exact h

def SimMu (T : Cfg) (μ : Mu) (Hb H : Hp) : Prop := ∀ a m, μ a = some m → Hb a = none ∧ ∃ o, H a = some o ∧ ObjRep T Hb m o
theorem SimMu.nil {T : Cfg} {Hb H : Hp} : SimMu T mu0 Hb H := fun _ _ h => nomatch h

/-- from one state to a later one: what is shared is kept, what is nobody's here is kept -/
structure Go (T : Cfg) (μ : Mu) (Hb H : Hp) (μ' : Mu) (Hb' H' : Hp) : Prop where
  ex : Ex Hb Hb'
  keep : ∀ a o, H a = some o → Hb a = none → μ a = none → H' a = some o ∧ Hb' a = none
  new : ∀ a m, μ' a = some m → μ a ≠ none ∨ H a = none
  alive : ∀ a o, H a = some o → ∃ o', H' a = some o'
  sub : Ex Hb' H'
  mu : SimMu T μ' Hb' H'
section
variable {T : Cfg} {μ μ1 μ2 : Mu} {Hb H Hb1 H1 Hb2 H2 : Hp}
theorem Go.refl (s : Ex Hb H) (m : SimMu T μ Hb H) : Go T μ Hb H μ Hb H :=
  ⟨Ex.refl _, fun _ _ h n _ => ⟨h, n⟩, fun _ _ h => .inl (by rw [h]; simp), fun _ o h => ⟨o, h⟩, s, m⟩
theorem Go.trans (a : Go T μ Hb H μ1 Hb1 H1) (b : Go T μ1 Hb1 H1 μ2 Hb2 H2) : Go T μ Hb H μ2 Hb2 H2 where
  ex := a.ex.trans b.ex
  keep := fun c o h n m => by
    obtain ⟨h1, n1⟩ := a.keep c o h n m
    refine b.keep c o h1 n1 ?_
    cases e : μ1 c with
    | none => rfl
    | some z =>
      rcases a.new c z e with q | q
      · exact absurd m q
      · rw [h] at q; cases q
  new := fun c z h => by
    have dead : H1 c = none → H c = none := fun q => by
      cases e : H c with
      | none => rfl
      | some o =>
        obtain ⟨o', e'⟩ := a.alive c o e
        rw [q] at e'; cases e'
    rcases b.new c z h with q | q
    · cases e : μ1 c with
      | none => exact absurd e q
      | some y => exact a.new c y e
    · exact .inr (dead q)
  alive := fun c o h => by
    obtain ⟨o', e⟩ := a.alive c o h
    exact b.alive c o' e
  sub := b.sub
  mu := b.mu
/-- a new shared object -/
theorem Go.lay (s : Ex Hb H) (m : SimMu T μ Hb H) {p : Addr} {o : HO} (hp : H p = none) : Go T μ Hb H μ (upd Hb p o) (upd H p o) := by
  have hb : Hb p = none := fresh_back s hp
  refine ⟨Evl.Ex.new hb, fun a u h n _ => ?_, fun _ _ h => .inl (by rw [h]; simp), fun a u h => ?_, fun a u h => ?_, fun a z h => ?_⟩
  · have ne : a ≠ p := ne_of_none h hp
    rw [upd_ne ne, upd_ne ne]
    exact ⟨h, n⟩
  · have ne : a ≠ p := ne_of_none h hp
    exact ⟨u, by rw [upd_ne ne]; exact h⟩
  · by_cases e : a = p
    · subst e; rw [upd_same] at h ⊢; exact h
    · rw [upd_ne e] at h ⊢; exact s a u h
  · obtain ⟨n, u, hu, r⟩ := m a z h
    have ne : a ≠ p := ne_of_none hu hp
    exact ⟨by rw [upd_ne ne]; exact n, u, by rw [upd_ne ne]; exact hu, r.mono (Evl.Ex.new hb)⟩
/-- a new object of one's own -/
theorem Go.own (s : Ex Hb H) (m : SimMu T μ Hb H) {p : Addr} {o : HO} {z : MO} (hp : H p = none) (r : ObjRep T Hb z o) : Go T μ Hb H (put μ p z) Hb (upd H p o) := by
  have hb : Hb p = none := fresh_back s hp
  refine ⟨Ex.refl _, fun a u h n _ => ⟨by rw [upd_ne (ne_of_none h hp)]; exact h, n⟩, fun a y h => ?_, fun a u h => ⟨u, by rw [upd_ne (ne_of_none h hp)]; exact h⟩, fun a u h => ?_, fun a y h => ?_⟩
  · by_cases e : a = p
    · subst e; exact .inr hp
    · rw [put_ne e] at h; exact .inl (by rw [h]; simp)
  · rw [upd_ne (ne_of_none (s a u h) hp)]; exact s a u h
  · by_cases e : a = p
    · subst e
      rw [put_same] at h
      cases h
      exact ⟨hb, o, upd_same, r⟩
    · rw [put_ne e] at h
      obtain ⟨n, u, hu, q⟩ := m a y h
      exact ⟨n, u, by rw [upd_ne e]; exact hu, q⟩
/-- one's own object is changed -/
theorem Go.chg (s : Ex Hb H) (m : SimMu T μ Hb H) {p : Addr} {o : HO} {z y : MO} (hp : μ p = some y) (r : ObjRep T Hb z o) : Go T μ Hb H (put μ p z) Hb (upd H p o) := by
  obtain ⟨hb, u0, hu0, _⟩ := m p y hp
  refine ⟨Ex.refl _, fun a u h n w => ?_, fun a x h => ?_, fun a u h => ?_, fun a u h => ?_, fun a x h => ?_⟩
  · have ne : a ≠ p := fun e => by subst e; rw [hp] at w; cases w
    exact ⟨by rw [upd_ne ne]; exact h, n⟩
  · by_cases e : a = p
    · subst e; exact .inl (by rw [hp]; simp)
    · rw [put_ne e] at h; exact .inl (by rw [h]; simp)
  · by_cases e : a = p
    · subst e; exact ⟨o, upd_same⟩
    · exact ⟨u, by rw [upd_ne e]; exact h⟩
  · have ne : a ≠ p := fun e => by subst e; rw [h] at hb; cases hb
    rw [upd_ne ne]; exact s a u h
  · by_cases e : a = p
    · subst e
      rw [put_same] at h
      cases h
      exact ⟨hb, o, upd_same, r⟩
    · rw [put_ne e] at h
      obtain ⟨n, u, hu, q⟩ := m a x h
      exact ⟨n, u, by rw [upd_ne e]; exact hu, q⟩
/-- one's own object becomes shared -/
theorem Go.freeze (s : Ex Hb H) (m : SimMu T μ Hb H) {p : Addr} {o : HO} {y : MO} (hp : μ p = some y) (ho : H p = some o) : Go T μ Hb H (del μ p) (upd Hb p o) H := by
  obtain ⟨hb, _⟩ := m p y hp
  have ex : Ex Hb (upd Hb p o) := Evl.Ex.new hb
  refine ⟨ex, fun a u h n w => ?_, fun a x h => ?_, fun a u h => ⟨u, h⟩, fun a u h => ?_, fun a x h => ?_⟩
  · have ne : a ≠ p := fun e => by subst e; rw [hp] at w; cases w
    exact ⟨h, by rw [upd_ne ne]; exact n⟩
  · unfold del at h
    split at h
    · cases h
    · exact .inl (by rw [h]; simp)
  · by_cases e : a = p
    · subst e; rw [upd_same] at h; cases h; exact ho
    · rw [upd_ne e] at h; exact s a u h
  · unfold del at h
    split at h
    · cases h
    · rename_i e
      obtain ⟨n, u, hu, q⟩ := m a x h
      exact ⟨by rw [upd_ne e]; exact n, u, hu, q.mono ex⟩
end
/-- the state: the names' values by slot, the store -/
structure S where
  r : List (Option D)
  m : Mu
structure Sim (T : Cfg) (s : S) (σ : L2.St) (Hb H : Hp) : Prop where
  len : s.r.length = σ.length
  vars : ∀ (i : Nat) (d : D), s.r[i]? = some (some d) → ∃ v, σ[i]? = some (some v) ∧ Rep T Hb d v
  sub : Ex Hb H
  mu : SimMu T s.m Hb H
section
variable {T : Cfg} {s : S} {ρ : List (Option D)} {m0 : Mu} {σ : L2.St} {Hb H Hb' H' : Hp} {μ' : Mu}
theorem Sim.refl (h : Sim T s σ Hb H) : Go T s.m Hb H s.m Hb H := .refl h.sub h.mu
theorem Sim.go (h : Sim T s σ Hb H) (g : Go T s.m Hb H μ' Hb' H') : Sim T ⟨s.r, μ'⟩ σ Hb' H' :=
  ⟨h.len, fun i d e => by obtain ⟨v, a, b⟩ := h.vars i d e; exact ⟨v, a, b.mono g.ex⟩, g.sub, g.mu⟩
theorem Sim.set (h : Sim T s σ Hb H) (i : Nat) {d : D} {v : V} (r : Rep T Hb d v) : Sim T ⟨s.r.set i (some d), s.m⟩ (σ.set i (some v)) Hb H := by
  refine ⟨by simp [h.len], fun j e a => ?_, h.sub, h.mu⟩
  have a : (s.r.set i (some d))[j]? = some (some e) := a
  rw [List.getElem?_set] at a
  rw [List.getElem?_set]
  split at a
  · rename_i hij
    rw [if_pos hij]
    split at a
    · rename_i hl
      rw [if_pos (by rw [← h.len]; exact hl)]
      cases a
      exact ⟨v, rfl, r⟩
    · cases a
  · rename_i hij
    rw [if_neg hij]
    exact h.vars j e a
end
/-- an exception: its class, its value by a name -/
structure XD where
  cls : Value
  val : Option (Str × D)
def RepX (T : Cfg) (Hb : Hp) (x : XD) (cls : Value) (dd : Option Addr) : Prop :=
  cls = x.cls ∧ match x.val with
  | none => dd = none
  | some (f, d) => ∃ a v, dd = some a ∧ Hb a = some (.xd [(f, v)]) ∧ Rep T Hb d v

abbrev XW := XD → Mu → Prop
/-- expressions -/
def EV (T : Cfg) (te : TE) (W : WX) (s : S) (P : D → Mu → Prop) (XP : XW) : Prop :=
  ∀ σ Hb H Q, Sim T s σ Hb H → (∀ d μ' v Hb' H', Go T s.m Hb H μ' Hb' H' → Rep T Hb' d v → P d μ' → Q v H') →
    (∀ x μ' cls dd Hb' H', Go T s.m Hb H μ' Hb' H' → RepX T Hb' x cls dd → XP x μ' → W cls dd σ H') → te σ H Q
def EA (T : Cfg) (ta : TA) (W : WX) (s : S) (P : List D → Mu → Prop) (XP : XW) : Prop :=
  ∀ σ Hb H Q, Sim T s σ Hb H → (∀ ds μ' vs Hb' H', Go T s.m Hb H μ' Hb' H' → RepL T Hb' ds vs → P ds μ' → Q vs H') →
    (∀ x μ' cls dd Hb' H', Go T s.m Hb H μ' Hb' H' → RepX T Hb' x cls dd → XP x μ' → W cls dd σ H') → ta σ H Q
def TV (T : Cfg) (tt : TT) (W : WX) (s : S) (P : Bool → Mu → Prop) (XP : XW) : Prop :=
  ∀ σ Hb H Q, Sim T s σ Hb H → (∀ b μ' Hb' H', Go T s.m Hb H μ' Hb' H' → P b μ' → Q b H') →
    (∀ x μ' cls dd Hb' H', Go T s.m Hb H μ' Hb' H' → RepX T Hb' x cls dd → XP x μ' → W cls dd σ H') → tt σ H Q
def OV' (T : Cfg) (to : TO) (W : WX) (s : S) (P : Option Int → Mu → Prop) (XP : XW) : Prop :=
  ∀ σ Hb H Q, Sim T s σ Hb H → (∀ o μ' Hb' H', Go T s.m Hb H μ' Hb' H' → P o μ' → Q o H') →
    (∀ x μ' cls dd Hb' H', Go T s.m Hb H μ' Hb' H' → RepX T Hb' x cls dd → XP x μ' → W cls dd σ H') → to σ H Q
/-- operations by values: two, one, many -/
def OV (T : Cfg) (r : R2) (d e : D) (μ : Mu) (P : D → Mu → Prop) : Prop :=
  ∀ x y Hb H Q, Ex Hb H → SimMu T μ Hb H → Rep T Hb d x → Rep T Hb e y → (∀ z μ' v Hb' H', Go T μ Hb H μ' Hb' H' → Rep T Hb' z v → P z μ' → Q v H') → r x y H Q
def UV (T : Cfg) (r : V → Hp → VK → Prop) (d : D) (μ : Mu) (P : D → Mu → Prop) : Prop :=
  ∀ x Hb H Q, Ex Hb H → SimMu T μ Hb H → Rep T Hb d x → (∀ z μ' v Hb' H', Go T μ Hb H μ' Hb' H' → Rep T Hb' z v → P z μ' → Q v H') → r x H Q
def CV (T : Cfg) (r : List V → Hp → VK → Prop) (ds : List D) (μ : Mu) (P : D → Mu → Prop) : Prop :=
  ∀ xs Hb H Q, Ex Hb H → SimMu T μ Hb H → RepL T Hb ds xs → (∀ z μ' v Hb' H', Go T μ Hb H μ' Hb' H' → Rep T Hb' z v → P z μ' → Q v H') → r xs H Q
section
variable {T : Cfg} {W : WX} {s : S} {ρ : List (Option D)} {m0 : Mu} {P : D → Mu → Prop} {XP : XW} {ta tb te : TE}
theorem EV.imp {P' : D → Mu → Prop} (h : EV T te W s P XP) (k : ∀ d μ, P d μ → P' d μ) : EV T te W s P' XP := fun σ Hb H Q S q x => h σ Hb H Q S (fun d μ' v Hb' H' g r p => q d μ' v Hb' H' g r (k d μ' p)) x
theorem ev_var {i : Nat} {d : D} (h : ρ[i]? = some (some d)) (p : P d m0) : EV T (tVar i) W ⟨ρ, m0⟩ P XP := fun σ Hb H Q S q _ => by
  obtain ⟨v, e, r⟩ := S.vars i d h
  exact ⟨v, e, q d m0 v Hb H S.refl r p⟩
theorem ev_fz {i : Nat} {a : Addr} {ds : List D} (h : ρ[i]? = some (some (.ptr a))) (hm : m0 a = some (.lst ds)) (p : P (.lst ds) (del m0 a)) : EV T (tVar i) W ⟨ρ, m0⟩ P XP := fun σ Hb H Q S q _ => by
  obtain ⟨v, e, r⟩ := S.vars i _ h
  cases r
  obtain ⟨n, o, ho, r⟩ := S.mu a _ hm
  cases o with
  | lst xs =>
    have g := Go.freeze S.sub S.mu hm ho
    exact ⟨.ref a, e, q _ _ _ _ _ g (.lst upd_same r.1 (RepL.mono g.ex r).2) p⟩
  | _ => exact r.elim
theorem ev_fzI {i : Nat} {a : Addr} {c : Nat} {gs : List (Str × D)} (h : ρ[i]? = some (some (.ptr a))) (hm : m0 a = some (.ins c gs)) (p : P (.ins c gs) (del m0 a)) : EV T (tVar i) W ⟨ρ, m0⟩ P XP := fun σ Hb H Q S q _ => by
  obtain ⟨v, e, r⟩ := S.vars i _ h
  cases r
  obtain ⟨n, o, ho, r⟩ := S.mu a _ hm
  cases o with
  | ins C dx fs =>
    have g := Go.freeze S.sub S.mu hm ho
    obtain ⟨rfl, r1, r2⟩ := r
    exact ⟨.ref a, e, q _ _ _ _ _ g (.ins (upd_same) r1 (RepP.mono g.ex ⟨r1, r2⟩).2) p⟩
  | _ => exact r.elim
theorem ev_int {i : Int} (p : P (.int i) m0) : EV T (tC (.int i)) W ⟨ρ, m0⟩ P XP := fun σ Hb H Q S q _ => q _ _ _ _ _ S.refl (.int i) p
theorem ev_bl {i : Bool} (p : P (.bl i) m0) : EV T (tC (.bl i)) W ⟨ρ, m0⟩ P XP := fun σ Hb H Q S q _ => q _ _ _ _ _ S.refl (.bl i) p
theorem ev_str {i : Str} (p : P (.str i) m0) : EV T (tC (.str i)) W ⟨ρ, m0⟩ P XP := fun σ Hb H Q S q _ => q _ _ _ _ _ S.refl (.str i) p
theorem ev_non (p : P .non m0) : EV T (tC .non) W ⟨ρ, m0⟩ P XP := fun σ Hb H Q S q _ => q _ _ _ _ _ S.refl .non p
theorem ev_ty {n : String} (p : P (.ty n) m0) : EV T (tC (.ty n)) W ⟨ρ, m0⟩ P XP := fun σ Hb H Q S q _ => q _ _ _ _ _ S.refl (.ty n) p
theorem ev_ref {a : Addr} (p : P (.ptr a) m0) : EV T (tC (.ref a)) W ⟨ρ, m0⟩ P XP := fun σ Hb H Q S q _ => q _ _ _ _ _ S.refl (.ptr a) p
theorem ev_op {r : R2} (h : EV T ta W ⟨ρ, m0⟩ (fun d μ1 => EV T tb W ⟨ρ, μ1⟩ (fun e μ2 => OV T r d e μ2 P) XP) XP) : EV T (tOp r ta tb) W ⟨ρ, m0⟩ P XP := fun σ Hb H Q S q x =>
  h σ Hb H _ S (fun d μ1 v Hb1 H1 g1 r1 p1 => p1 σ Hb1 H1 _ (S.go g1) (fun e μ2 w Hb2 H2 g2 r2 p2 =>
    p2 v w Hb2 H2 Q g2.sub g2.mu (r1.mono g2.ex) r2 fun z μ' u Hb' H' g3 r3 p3 => q z μ' u Hb' H' ((g1.trans g2).trans g3) r3 p3)
    (fun y μ' cls dd Hb' H' g r p => x y μ' cls dd Hb' H' (g1.trans g) r p)) x
theorem ev_un {r : V → Hp → VK → Prop} (h : EV T ta W ⟨ρ, m0⟩ (fun d μ1 => UV T r d μ1 P) XP) : EV T (tUn r ta) W ⟨ρ, m0⟩ P XP := fun σ Hb H Q S q x =>
  h σ Hb H _ S (fun d μ1 v Hb1 H1 g1 r1 p1 => p1 v Hb1 H1 Q g1.sub g1.mu r1 fun z μ' u Hb' H' g3 r3 p3 => q z μ' u Hb' H' (g1.trans g3) r3 p3) x
theorem ea_nil {P : List D → Mu → Prop} (p : P [] m0) : EA T tNil W ⟨ρ, m0⟩ P XP := fun σ Hb H Q S q _ => q [] _ [] _ _ S.refl .nil p
theorem ea_cons {tr : TA} {P : List D → Mu → Prop} (h : EV T ta W ⟨ρ, m0⟩ (fun d μ1 => EA T tr W ⟨ρ, μ1⟩ (fun ds μ2 => P (d :: ds) μ2) XP) XP) : EA T (tCons ta tr) W ⟨ρ, m0⟩ P XP := fun σ Hb H Q S q x =>
  h σ Hb H _ S (fun d μ1 v Hb1 H1 g1 r1 p1 => p1 σ Hb1 H1 _ (S.go g1) (fun ds μ2 vs Hb2 H2 g2 r2 p2 => q (d :: ds) μ2 (v :: vs) Hb2 H2 (g1.trans g2) (.cons (r1.mono g2.ex) r2) p2)
    (fun y μ' cls dd Hb' H' g r p => x y μ' cls dd Hb' H' (g1.trans g) r p)) x
theorem ev_cb {r : List V → Hp → VK → Prop} {ta : TA} (h : EA T ta W ⟨ρ, m0⟩ (fun ds μ1 => CV T r ds μ1 P) XP) : EV T (tCB r ta) W ⟨ρ, m0⟩ P XP := fun σ Hb H Q S q x =>
  h σ Hb H _ S (fun ds μ1 vs Hb1 H1 g1 r1 p1 => p1 vs Hb1 H1 Q g1.sub g1.mu r1 fun z μ' u Hb' H' g3 r3 p3 => q z μ' u Hb' H' (g1.trans g3) r3 p3) x
theorem ev_lst {ta : TA} (h : EA T ta W ⟨ρ, m0⟩ (fun ds μ1 => ds.length ≤ 100000 ∧ P (.lst ds) μ1) XP) : EV T (tLst ta) W ⟨ρ, m0⟩ P XP := fun σ Hb H Q S q x =>
  h σ Hb H _ S (fun ds μ1 vs Hb1 H1 g1 r1 ⟨hl, p1⟩ => ⟨by rw [← r1.1]; exact Evl.sz_of hl, fun p hp => by
    have g := Go.lay g1.sub g1.mu (o := .lst vs) hp
    exact q _ _ _ _ _ (g1.trans g) (.lst upd_same r1.1 (r1.mono g.ex).2) p1⟩) x
theorem ev_tup {ta : TA} (h : EA T ta W ⟨ρ, m0⟩ (fun ds μ1 => ds.length ≤ 100000 ∧ P (.tup ds) μ1) XP) : EV T (tTup ta) W ⟨ρ, m0⟩ P XP := fun σ Hb H Q S q x =>
  h σ Hb H _ S (fun ds μ1 vs Hb1 H1 g1 r1 ⟨hl, p1⟩ => ⟨by rw [← r1.1]; exact Evl.sz_of hl, fun p hp => by
    have g := Go.lay g1.sub g1.mu (o := .tup vs) hp
    exact q _ _ _ _ _ (g1.trans g) (.tup (Evl.st_of upd_same) r1.1 (r1.mono g.ex).2) p1⟩) x
/-- a list of one's own, to be changed -/
theorem ev_lstM {ta : TA} (h : EA T ta W ⟨ρ, m0⟩ (fun ds μ1 => ds.length ≤ 100000 ∧ ∀ p, μ1 p = none → P (.ptr p) (put μ1 p (.lst ds))) XP) : EV T (tLst ta) W ⟨ρ, m0⟩ P XP := fun σ Hb H Q S q x =>
  h σ Hb H _ S (fun ds μ1 vs Hb1 H1 g1 r1 ⟨hl, p1⟩ => ⟨by rw [← r1.1]; exact Evl.sz_of hl, fun p hp => by
    have g := Go.own g1.sub g1.mu (o := .lst vs) (z := .lst ds) hp r1
    refine q _ _ _ _ _ (g1.trans g) (.ptr p) (p1 p ?_)
    cases e : μ1 p with
    | none => rfl
    | some m =>
      obtain ⟨_, o, ho, _⟩ := g1.mu p m e
      rw [hp] at ho; cases ho⟩) x
/-- o.f, o shared -/
theorem ev_fld {f : Str} (h : EV T ta W ⟨ρ, m0⟩ (fun d μ1 => ∃ c gs e, d = .ins c gs ∧ Cls T.K (T.cls c) ∧ NoAttr T.K (T.cls c) f ∧ gs.lookup f = some e ∧ P e μ1) XP) : EV T (tFld T.K ta f) W ⟨ρ, m0⟩ P XP := fun σ Hb H Q S q x =>
  h σ Hb H _ S (fun d μ1 v Hb1 H1 g1 r1 p1 => by
    obtain ⟨c, gs, e, rfl, hc, hn, hl, p⟩ := p1
    obtain ⟨a, dx, fs, rfl, ha, r⟩ := r1.ins_inv
    obtain ⟨v, hv, rv⟩ := r.look hl
    exact ⟨a, T.cls c, dx, fs, v, rfl, g1.sub _ _ ha, hc, hn, hv, q e μ1 v Hb1 H1 g1 rv p⟩) x
/-- o.f, o one's own -/
theorem ev_fldM {f : Str} (h : EV T ta W ⟨ρ, m0⟩ (fun d μ1 => ∃ a c gs e, d = .ptr a ∧ μ1 a = some (.ins c gs) ∧ Cls T.K (T.cls c) ∧ NoAttr T.K (T.cls c) f ∧ gs.lookup f = some e ∧ P e μ1) XP) : EV T (tFld T.K ta f) W ⟨ρ, m0⟩ P XP := fun σ Hb H Q S q x =>
  h σ Hb H _ S (fun d μ1 v Hb1 H1 g1 r1 p1 => by
    obtain ⟨a, c, gs, e, rfl, hm, hc, hn, hl, p⟩ := p1
    cases r1
    obtain ⟨_, o, ho, r⟩ := g1.mu a _ hm
    cases o with
    | ins C dx fs =>
      obtain ⟨rfl, r⟩ := r
      obtain ⟨v, hv, rv⟩ := r.look hl
      exact ⟨a, T.cls c, dx, fs, v, rfl, ho, hc, hn, hv, q e μ1 v Hb1 H1 g1 rv p⟩
    | _ => exact r.elim) x
theorem ev_if {t : TT} (h : TV T t W ⟨ρ, m0⟩ (fun b μ1 => (b = true → EV T ta W ⟨ρ, μ1⟩ P XP) ∧ (b = false → EV T tb W ⟨ρ, μ1⟩ P XP)) XP) : EV T (tIf t ta tb) W ⟨ρ, m0⟩ P XP := fun σ Hb H Q S q x =>
  h σ Hb H _ S (fun b μ1 Hb1 H1 g1 ⟨p1, p2⟩ => by
    cases b with
    | true =>
      show ta σ H1 Q
      exact p1 rfl σ Hb1 H1 Q (S.go g1) (fun d μ' v Hb' H' g r p => q d μ' v Hb' H' (g1.trans g) r p) (fun y μ' cls dd Hb' H' g r p => x y μ' cls dd Hb' H' (g1.trans g) r p)
    | false =>
      show tb σ H1 Q
      exact p2 rfl σ Hb1 H1 Q (S.go g1) (fun d μ' v Hb' H' g r p => q d μ' v Hb' H' (g1.trans g) r p) (fun y μ' cls dd Hb' H' g r p => x y μ' cls dd Hb' H' (g1.trans g) r p)) x
theorem ev_and (h : EV T ta W ⟨ρ, m0⟩ (fun d μ1 => ∃ b, d = .bl b ∧ (b = true → EV T tb W ⟨ρ, μ1⟩ P XP) ∧ (b = false → P (.bl false) μ1)) XP) : EV T (tAndV ta tb) W ⟨ρ, m0⟩ P XP := fun σ Hb H Q S q x =>
  h σ Hb H _ S (fun d μ1 v Hb1 H1 g1 r1 p1 => by
    obtain ⟨b, rfl, p1, p2⟩ := p1
    cases r1
    refine ⟨b, rfl, ?_⟩
    cases b with
    | true =>
      show tb σ H1 Q
      exact p1 rfl σ Hb1 H1 Q (S.go g1) (fun d μ' v Hb' H' g r p => q d μ' v Hb' H' (g1.trans g) r p) (fun y μ' cls dd Hb' H' g r p => x y μ' cls dd Hb' H' (g1.trans g) r p)
    | false => exact q _ _ _ _ _ g1 (.bl false) (p2 rfl)) x
theorem ev_or (h : EV T ta W ⟨ρ, m0⟩ (fun d μ1 => ∃ b, d = .bl b ∧ (b = false → EV T tb W ⟨ρ, μ1⟩ P XP) ∧ (b = true → P (.bl true) μ1)) XP) : EV T (tOrV ta tb) W ⟨ρ, m0⟩ P XP := fun σ Hb H Q S q x =>
  h σ Hb H _ S (fun d μ1 v Hb1 H1 g1 r1 p1 => by
    obtain ⟨b, rfl, p1, p2⟩ := p1
    cases r1
    refine ⟨b, rfl, ?_⟩
    cases b with
    | false =>
      show tb σ H1 Q
      exact p1 rfl σ Hb1 H1 Q (S.go g1) (fun d μ' v Hb' H' g r p => q d μ' v Hb' H' (g1.trans g) r p) (fun y μ' cls dd Hb' H' g r p => x y μ' cls dd Hb' H' (g1.trans g) r p)
    | true => exact q _ _ _ _ _ g1 (.bl true) (p2 rfl)) x
theorem ev_not (h : EV T ta W ⟨ρ, m0⟩ (fun d μ1 => ∃ b, d = .bl b ∧ P (.bl (!b)) μ1) XP) : EV T (tNotV ta) W ⟨ρ, m0⟩ P XP := fun σ Hb H Q S q x =>
  h σ Hb H _ S (fun d μ1 v Hb1 H1 g1 r1 p1 => by
    obtain ⟨b, rfl, p⟩ := p1
    cases r1
    exact ⟨b, rfl, q _ _ _ _ _ g1 (.bl _) p⟩) x
/-! tests -/
theorem tv_test {P : Bool → Mu → Prop} (h : EV T te W ⟨ρ, m0⟩ (fun d μ1 => ∃ b, d = .bl b ∧ P b μ1) XP) : TV T (tTest te) W ⟨ρ, m0⟩ P XP := fun σ Hb H Q S q x =>
  h σ Hb H _ S (fun d μ1 v Hb1 H1 g1 r1 p1 => by
    obtain ⟨b, rfl, p⟩ := p1
    cases r1
    exact ⟨b, rfl, q _ _ _ _ g1 p⟩) x
theorem tv_B {P : Bool → Mu → Prop} (h : EV T te W ⟨ρ, m0⟩ (fun d μ1 => ∃ b, d = .bl b ∧ P b μ1) XP) : TV T (tB te) W ⟨ρ, m0⟩ P XP := fun σ Hb H Q S q x =>
  h σ Hb H _ S (fun d μ1 v Hb1 H1 g1 r1 p1 => by
    obtain ⟨b, rfl, p⟩ := p1
    cases r1
    exact ⟨b, rfl, q _ _ _ _ g1 p⟩) x
theorem tv_and {t u : TT} {P : Bool → Mu → Prop} (h : TV T t W ⟨ρ, m0⟩ (fun b μ1 => (b = true → TV T u W ⟨ρ, μ1⟩ P XP) ∧ (b = false → P false μ1)) XP) : TV T (tAnd t u) W ⟨ρ, m0⟩ P XP := fun σ Hb H Q S q x =>
  h σ Hb H _ S (fun b μ1 Hb1 H1 g1 ⟨p1, p2⟩ => by
    cases b with
    | true =>
      show u σ H1 Q
      exact p1 rfl σ Hb1 H1 Q (S.go g1) (fun d μ' Hb' H' g p => q d μ' Hb' H' (g1.trans g) p) (fun y μ' cls dd Hb' H' g r p => x y μ' cls dd Hb' H' (g1.trans g) r p)
    | false => exact q _ _ _ _ g1 (p2 rfl)) x
theorem tv_or {t u : TT} {P : Bool → Mu → Prop} (h : TV T t W ⟨ρ, m0⟩ (fun b μ1 => (b = false → TV T u W ⟨ρ, μ1⟩ P XP) ∧ (b = true → P true μ1)) XP) : TV T (tOr t u) W ⟨ρ, m0⟩ P XP := fun σ Hb H Q S q x =>
  h σ Hb H _ S (fun b μ1 Hb1 H1 g1 ⟨p1, p2⟩ => by
    cases b with
    | false =>
      show u σ H1 Q
      exact p1 rfl σ Hb1 H1 Q (S.go g1) (fun d μ' Hb' H' g p => q d μ' Hb' H' (g1.trans g) p) (fun y μ' cls dd Hb' H' g r p => x y μ' cls dd Hb' H' (g1.trans g) r p)
    | true => exact q _ _ _ _ g1 (p2 rfl)) x
theorem tv_not {t : TT} {P : Bool → Mu → Prop} (h : TV T t W ⟨ρ, m0⟩ (fun b μ1 => P (!b) μ1) XP) : TV T (tNot t) W ⟨ρ, m0⟩ P XP := fun σ Hb H Q S q x =>
  h σ Hb H _ S (fun b μ1 Hb1 H1 g1 p => q _ _ _ _ g1 p) x
theorem tv_yes {P : Bool → Mu → Prop} (p : P true m0) : TV T tYes W ⟨ρ, m0⟩ P XP := fun σ Hb H Q S q _ => q _ _ _ _ S.refl p
theorem po_no {P : Option Int → Mu → Prop} (p : P none m0) : OV' T tNoPart W ⟨ρ, m0⟩ P XP := fun σ Hb H Q S q _ => q _ _ _ _ S.refl p
theorem po_so {P : Option Int → Mu → Prop} (h : EV T te W ⟨ρ, m0⟩ (fun d μ1 => ∃ i, d = .int i ∧ P (some i) μ1) XP) : OV' T (tPart te) W ⟨ρ, m0⟩ P XP := fun σ Hb H Q S q x =>
  h σ Hb H _ S (fun d μ1 v Hb1 H1 g1 r1 p1 => by
    obtain ⟨i, rfl, p⟩ := p1
    cases r1
    exact ⟨i, rfl, q _ _ _ _ g1 p⟩) x
end
end Pw

/-! Pw, part B: statements, loops, comprehensions, calls. -/
namespace Pw
open PySem PySem.Spec PyProof.Rows L2
open Evl (Ex ex_l ex_t fresh_back)
/-- how a statement ends -/
inductive Out where
  | nx (s : S) | rt (d : D) (m : Mu) | bk (s : S) | ct (s : S) | xr (x : XD) (s : S)
structure Cn (T : Cfg) (W : WX) (m : Mu) (Hb H : Hp) (Dn : Ends) (K : Out → Prop) : Prop where
  nx : ∀ s' σ' Hb' H', Go T m Hb H s'.m Hb' H' → Sim T s' σ' Hb' H' → K (.nx s') → Dn.nx σ' H'
  rt : ∀ d μ' v Hb' H', Go T m Hb H μ' Hb' H' → Rep T Hb' d v → K (.rt d μ') → Dn.rt v H'
  bk : ∀ s' σ' Hb' H', Go T m Hb H s'.m Hb' H' → Sim T s' σ' Hb' H' → K (.bk s') → Dn.bk σ' H'
  ct : ∀ s' σ' Hb' H', Go T m Hb H s'.m Hb' H' → Sim T s' σ' Hb' H' → K (.ct s') → Dn.ct σ' H'
  xr : ∀ x s' cls dd σ' Hb' H', Go T m Hb H s'.m Hb' H' → Sim T s' σ' Hb' H' → RepX T Hb' x cls dd → K (.xr x s') → W cls dd σ' H'
def SV (T : Cfg) (ts : TS) (W : WX) (s : S) (K : Out → Prop) : Prop := ∀ σ Hb H Dn, Sim T s σ Hb H → Cn T W s.m Hb H Dn K → ts Dn σ H
section
variable {T : Cfg} {W : WX} {s : S} {ρ : List (Option D)} {m0 : Mu} {K : Out → Prop} {ta tb te : TE} {m m1 : Mu} {Hb H Hb1 H1 : Hp} {Dn : Ends}
theorem Cn.go (c : Cn T W m Hb H Dn K) (g : Go T m Hb H m1 Hb1 H1) : Cn T W m1 Hb1 H1 Dn K :=
  ⟨fun s' σ' Hb' H' g' S k => c.nx s' σ' Hb' H' (g.trans g') S k, fun d μ' v Hb' H' g' r k => c.rt d μ' v Hb' H' (g.trans g') r k, fun s' σ' Hb' H' g' S k => c.bk s' σ' Hb' H' (g.trans g') S k,
    fun s' σ' Hb' H' g' S k => c.ct s' σ' Hb' H' (g.trans g') S k, fun x s' cls dd σ' Hb' H' g' S r k => c.xr x s' cls dd σ' Hb' H' (g.trans g') S r k⟩
theorem SV.imp {ts : TS} {K' : Out → Prop} (h : SV T ts W s K) (k : ∀ o, K o → K' o) : SV T ts W s K' := fun σ Hb H Dn S c => h σ Hb H Dn S
  ⟨fun s' σ' Hb' H' g S q => c.nx s' σ' Hb' H' g S (k _ q), fun d μ' v Hb' H' g r q => c.rt d μ' v Hb' H' g r (k _ q), fun s' σ' Hb' H' g S q => c.bk s' σ' Hb' H' g S (k _ q),
    fun s' σ' Hb' H' g S q => c.ct s' σ' Hb' H' g S (k _ q), fun x s' cls dd σ' Hb' H' g S r q => c.xr x s' cls dd σ' Hb' H' g S r (k _ q)⟩
/-- what a raise in an expression comes to -/
abbrev xk (s : S) (K : Out → Prop) : XW := fun x μ => K (.xr x ⟨s.r, μ⟩)
theorem Cn.x (c : Cn T W s.m Hb H Dn K) {σ : L2.St} (S : Sim T s σ Hb H) : ∀ x μ' cls dd Hb' H', Go T s.m Hb H μ' Hb' H' → RepX T Hb' x cls dd → xk s K x μ' → W cls dd σ H' :=
  fun x μ' cls dd Hb' H' g r k => c.xr x ⟨s.r, μ'⟩ cls dd σ Hb' H' g (S.go g) r k
def seqK (T : Cfg) (u : TS) (W : WX) (K : Out → Prop) : Out → Prop
  | .nx s' => SV T u W s' K
  | o => K o
theorem sv_seq {t u : TS} (h : SV T t W ⟨ρ, m0⟩ (seqK T u W K)) : SV T (tSeq t u) W ⟨ρ, m0⟩ K := fun σ Hb H Dn S c =>
  h σ Hb H { Dn with nx := u Dn } S ⟨fun s' σ' Hb' H' g S' k => k σ' Hb' H' Dn S' (c.go g), c.rt, c.bk, c.ct, c.xr⟩
theorem sv_next (k : K (.nx ⟨ρ, m0⟩)) : SV T tNext W ⟨ρ, m0⟩ K := fun σ Hb H Dn S c => c.nx ⟨ρ, m0⟩ σ Hb H S.refl S k
theorem sv_break (k : K (.bk ⟨ρ, m0⟩)) : SV T tBreak W ⟨ρ, m0⟩ K := fun σ Hb H Dn S c => c.bk ⟨ρ, m0⟩ σ Hb H S.refl S k
theorem sv_cont (k : K (.ct ⟨ρ, m0⟩)) : SV T tCont W ⟨ρ, m0⟩ K := fun σ Hb H Dn S c => c.ct ⟨ρ, m0⟩ σ Hb H S.refl S k
theorem sv_asg {i : Nat} (h : EV T te W ⟨ρ, m0⟩ (fun d μ => K (.nx ⟨ρ.set i (some d), μ⟩)) (xk ⟨ρ, m0⟩ K)) : SV T (tAsg te (gName i)) W ⟨ρ, m0⟩ K := fun σ Hb H Dn S c =>
  h σ Hb H _ S (fun d μ' v Hb' H' g r k => c.nx _ _ _ _ g ((S.go g).set i r) k) (c.x S)
theorem sv_ret (h : EV T te W ⟨ρ, m0⟩ (fun d μ => K (.rt d μ)) (xk ⟨ρ, m0⟩ K)) : SV T (tRet te) W ⟨ρ, m0⟩ K := fun σ Hb H Dn S c =>
  h σ Hb H _ S (fun d μ' v Hb' H' g r k => c.rt _ _ _ _ _ g r k) (c.x S)
theorem sv_retN (k : K (.rt .non m0)) : SV T tRetN W ⟨ρ, m0⟩ K := fun σ Hb H Dn S c => c.rt _ _ _ _ _ S.refl .non k
theorem sv_drop (h : EV T te W ⟨ρ, m0⟩ (fun _ μ => K (.nx ⟨ρ, μ⟩)) (xk ⟨ρ, m0⟩ K)) : SV T (tDrop te) W ⟨ρ, m0⟩ K := fun σ Hb H Dn S c =>
  h σ Hb H _ S (fun d μ' v Hb' H' g r k => c.nx _ _ _ _ g (S.go g) k) (c.x S)
theorem sv_if {t : TT} {u v : TS} (h : TV T t W ⟨ρ, m0⟩ (fun b μ => (b = true → SV T u W ⟨ρ, μ⟩ K) ∧ (b = false → SV T v W ⟨ρ, μ⟩ K)) (xk ⟨ρ, m0⟩ K)) : SV T (tIfS t u v) W ⟨ρ, m0⟩ K := fun σ Hb H Dn S c =>
  h σ Hb H _ S (fun b μ' Hb' H' g ⟨k1, k2⟩ => by
    cases b with
    | true => exact k1 rfl σ Hb' H' Dn (S.go g) (c.go g)
    | false => exact k2 rfl σ Hb' H' Dn (S.go g) (c.go g)) (c.x S)
theorem sv_par {i j : Nat} {ta : TA} (h : EA T ta W ⟨ρ, m0⟩ (fun ds μ => ∃ d e, ds = [d, e] ∧ K (.nx ⟨(ρ.set i (some d)).set j (some e), μ⟩)) (xk ⟨ρ, m0⟩ K)) : SV T (tPar i j ta) W ⟨ρ, m0⟩ K := fun σ Hb H Dn S c =>
  h σ Hb H _ S (fun ds μ' vs Hb' H' g r k => by
    obtain ⟨d, e, rfl, k⟩ := k
    obtain ⟨v, ys, rfl, r1, r⟩ := r.cons_inv
    obtain ⟨w, zs, rfl, r2, r⟩ := r.cons_inv
    obtain rfl := r.nil_inv
    have S1 := ((S.go g).set i r1)
    have S2 := S1.set j (d := e) (v := w) r2
    exact ⟨v, w, rfl, c.nx _ _ _ _ g S2 k⟩) (c.x S)
/-! targets -/
def GV (T : Cfg) (g : TG) (is : List Nat) (d : D) (s : S) (K : S → Prop) : Prop := ∀ x σ Hb H Kt, Sim T s σ Hb H → Rep T Hb d x →
  (∀ s' σ', s'.m = s.m → Sim T s' σ' Hb H → (∀ vs, (∀ i ∈ is, i ∈ vs) → wipe σ' vs = wipe σ vs) → K s' → Kt σ' H) → g x σ H Kt
def GVs (T : Cfg) (g : TGs) (is : List Nat) (ds : List D) (s : S) (K : S → Prop) : Prop := ∀ xs σ Hb H Kt, Sim T s σ Hb H → RepL T Hb ds xs →
  (∀ s' σ', s'.m = s.m → Sim T s' σ' Hb H → (∀ vs, (∀ i ∈ is, i ∈ vs) → wipe σ' vs = wipe σ vs) → K s' → Kt σ' H) → g xs σ H Kt
theorem wipe_set {σ : L2.St} {i : Nat} {x : Option V} : ∀ {vs : List Nat}, i ∈ vs → wipe (σ.set i x) vs = wipe σ vs
  | [], h => by cases h
  | v :: vs, h => by
    unfold wipe
    by_cases e : v = i
    · subst e
      by_cases hi : v ∈ vs
      · rw [wipe_set hi]
      · have comm : ∀ (vs : List Nat), v ∉ vs → wipe (σ.set v x) vs = (wipe σ vs).set v x := by
          intro vs
          induction vs with
          | nil => intro _; rfl
          | cons u us ih =>
            intro hu
            simp only [List.mem_cons, not_or] at hu
            unfold wipe
            rw [ih hu.2, List.set_comm _ _ (fun z => hu.1 z)]
        rw [comm vs hi, List.set_set]
    · have hi : i ∈ vs := by
        rcases List.mem_cons.mp h with z | z
        · exact absurd z.symm e
        · exact z
      rw [wipe_set hi]
theorem gv_name {i : Nat} {d : D} {K : S → Prop} (k : K ⟨ρ.set i (some d), m0⟩) : GV T (gName i) [i] d ⟨ρ, m0⟩ K := fun x σ Hb H Kt S r q =>
  q ⟨ρ.set i (some d), m0⟩ _ rfl (S.set i r) (fun vs hv => wipe_set (hv i (by simp))) k
theorem gvs_nil {K : S → Prop} (k : K ⟨ρ, m0⟩) : GVs T gNil [] [] ⟨ρ, m0⟩ K := fun xs σ Hb H Kt S r q => by
  obtain rfl := r.nil_inv
  exact ⟨rfl, q ⟨ρ, m0⟩ σ rfl S (fun _ _ => rfl) k⟩
theorem gvs_cons {g : TG} {gs : TGs} {is js : List Nat} {d : D} {ds : List D} {K : S → Prop} (h : GV T g is d ⟨ρ, m0⟩ (fun s' => GVs T gs js ds s' K)) : GVs T (gCons g gs) (is ++ js) (d :: ds) ⟨ρ, m0⟩ K := fun xs σ Hb H Kt S r q => by
  obtain ⟨v, ys, rfl, r1, r2⟩ := r.cons_inv
  refine ⟨v, ys, rfl, h v σ Hb H _ S r1 fun s' σ' em S' w k => ?_⟩
  refine k ys σ' Hb H Kt S' r2 fun s'' σ'' em' S'' w' k' => q s'' σ'' (em'.trans em) S'' (fun vs hv => ?_) k'
  rw [w' vs fun i hi => hv i (List.mem_append_right _ hi), w vs fun i hi => hv i (List.mem_append_left _ hi)]
theorem gv_tup {n : Nat} {gs : TGs} {is : List Nat} {ds : List D} {K : S → Prop} (hn : ds.length = n) (h : GVs T gs is ds ⟨ρ, m0⟩ K) : GV T (gTup T.K n gs) is (.tup ds) ⟨ρ, m0⟩ K := fun x σ Hb H Kt S r q => by
  obtain ⟨a, xs, rfl, hx, r⟩ := r.tup_inv
  exact ⟨a, xs, rfl, ex_t S.sub hx, by rw [← r.1]; exact hn, h xs σ Hb H Kt S r q⟩
theorem sv_asgG {g : TG} {is : List Nat} (h : EV T te W ⟨ρ, m0⟩ (fun d μ => GV T g is d ⟨ρ, μ⟩ (fun s' => K (.nx s'))) (xk ⟨ρ, m0⟩ K)) : SV T (tAsg te g) W ⟨ρ, m0⟩ K := fun σ Hb H Dn S c =>
  h σ Hb H _ S (fun d μ' v Hb' H' g' r k => k v σ Hb' H' _ (S.go g') r fun s' σ' em S' _ k' => c.nx s' σ' Hb' H' (by rw [em]; exact g') S' k') (c.x S)
/-! own objects -/
theorem putF_rep {Hb : Hp} {gs : List (Str × D)} {fs : List (Str × V)} {f : Str} {d : D} {v : V} (h : RepP T Hb gs fs) (r : Rep T Hb d v) : RepP T Hb (putG f d gs) (putF f v fs) := by
  obtain ⟨h1, h2⟩ := h
  induction gs generalizing fs with
  | nil =>
    cases fs with
    | nil =>
      refine ⟨rfl, fun i g z a b => ?_⟩
      cases i with
      | zero =>
        simp [putG, putF] at a b
        subst a; subst b
        exact r
      | succ i => simp [putG] at a
    | cons _ _ => simp at h1
  | cons g gs ih =>
    cases fs with
    | nil => simp at h1
    | cons z fs =>
      obtain ⟨a, d'⟩ := g
      obtain ⟨b, v'⟩ := z
      simp only [List.map_cons, List.cons.injEq] at h1
      obtain ⟨e1, e2⟩ := h1
      have e1 : a = b := e1
      subst e1
      have h2t : ∀ (i : Nat) (g : Str × D) (f : Str × V), gs[i]? = some g → fs[i]? = some f → Rep T Hb g.2 f.2 := fun i g f a b => h2 (i + 1) g f (by simpa using a) (by simpa using b)
      have h20 : Rep T Hb d' v' := h2 0 (a, d') (a, v') rfl rfl
      unfold putG putF
      by_cases hf : a = f
      · rw [if_pos hf, if_pos hf]
        refine ⟨by simp [e2], fun i g z p q => ?_⟩
        cases i with
        | zero => simp at p q; subst p; subst q; exact r
        | succ i => exact h2t i g z (by simpa using p) (by simpa using q)
      · rw [if_neg hf, if_neg hf]
        obtain ⟨i1, i2⟩ := ih e2 h2t
        refine ⟨by simp [i1], fun i g z p q => ?_⟩
        cases i with
        | zero => simp at p q; subst p; subst q; exact h20
        | succ i => exact i2 i g z (by simpa using p) (by simpa using q)
theorem sv_fld {f : Str} {tv : TE} (h : EV T tv W ⟨ρ, m0⟩ (fun e μ1 => EV T ta W ⟨ρ, μ1⟩ (fun d μ2 => ∃ a c gs, d = .ptr a ∧ μ2 a = some (.ins c gs) ∧ Cls T.K (T.cls c) ∧ NoAttr T.K (T.cls c) f ∧ gs.length < 1000 ∧ K (.nx ⟨ρ, put μ2 a (.ins c (putG f e gs))⟩)) (xk ⟨ρ, m0⟩ K)) (xk ⟨ρ, m0⟩ K)) : SV T (sFld T.K ta tv f) W ⟨ρ, m0⟩ K := fun σ Hb H Dn S c =>
  h σ Hb H _ S (fun e μ1 v Hb1 H1 g1 r1 p1 => p1 σ Hb1 H1 _ (S.go g1) (fun d μ2 w Hb2 H2 g2 r2 p2 => by
    obtain ⟨a, cc, gs, rfl, hm, hc, hn, hl, k⟩ := p2
    cases r2
    obtain ⟨n, o, ho, r⟩ := g2.mu a _ hm
    cases o with
    | ins C dx fs =>
      obtain ⟨rfl, r⟩ := r
      have hz : fs.length < 1000 := by
        have := congrArg List.length r.1
        simp at this
        omega
      have g3 := Go.chg g2.sub g2.mu (p := a) (o := .ins (T.cls cc) dx (putF f v fs)) (z := .ins cc (putG f e gs)) hm ⟨rfl, putF_rep r (r1.mono g2.ex)⟩
      have g := (g1.trans g2).trans g3
      exact ⟨a, T.cls cc, dx, fs, rfl, ho, hc, hn, hz, c.nx _ _ _ _ g (S.go g) k⟩
    | _ => exact r.elim) (fun x μ' cls dd Hb' H' g r k => c.x S x μ' cls dd Hb' H' (g1.trans g) r k)) (c.x S)
/-- xs.append(e), xs one's own -/
theorem sv_app (h : EV T ta W ⟨ρ, m0⟩ (fun d μ1 => ∃ a ds0, d = .ptr a ∧ μ1 a = some (.lst ds0) ∧ EV T te W ⟨ρ, μ1⟩ (fun e μ2 => ∃ ds, μ2 a = some (.lst ds) ∧ ds.length < 100000 ∧ K (.nx ⟨ρ, put μ2 a (.lst (ds ++ [e]))⟩)) (xk ⟨ρ, m0⟩ K)) (xk ⟨ρ, m0⟩ K)) :
    SV T (tDrop (tBM T.K "list" rAppend ta (tCons te tNil))) W ⟨ρ, m0⟩ K := fun σ Hb H Dn S c => by
  refine h σ Hb H _ S (fun d μ1 v Hb1 H1 g1 r1 p1 => ?_) (c.x S)
  obtain ⟨a, ds0, rfl, hm, p1⟩ := p1
  cases r1
  obtain ⟨n, o, ho, r⟩ := g1.mu a _ hm
  cases o with
  | lst xs0 =>
    refine ⟨Or.inl ⟨rfl, xs0, Evl.sq_of ho⟩, ?_⟩
    refine p1 σ Hb1 H1 _ (S.go g1) (fun e μ2 w Hb2 H2 g2 r2 p2 => ?_) (fun x μ' cls dd Hb' H' g r k => c.x S x μ' cls dd Hb' H' (g1.trans g) r k)
    obtain ⟨ds, hm2, hl, k⟩ := p2
    obtain ⟨n2, o2, ho2, rr⟩ := g2.mu a _ hm2
    cases o2 with
    | lst xs =>
      have rr : RepL T Hb2 ds xs := rr
      have g3 := Go.chg g2.sub g2.mu (p := a) (o := .lst (xs ++ [w])) (z := .lst (ds ++ [e])) hm2 (rr.app (.cons r2 .nil))
      have g := (g1.trans g2).trans g3
      exact ⟨a, xs, w, rfl, rfl, ho2, Evl.sz_lt (by rw [← rr.1]; exact hl), c.nx _ _ _ _ g (S.go g) k⟩
    | _ => exact rr.elim
  | _ => exact r.elim
/-- xs[i] = e, xs one's own -/
theorem sv_setL (h : EV T te W ⟨ρ, m0⟩ (fun e μ1 => EV T ta W ⟨ρ, μ1⟩ (fun d μ2 => EV T tb W ⟨ρ, μ2⟩ (fun i μ3 => ∃ a ds k j, d = .ptr a ∧ μ3 a = some (.lst ds) ∧ i = .int k ∧ ixN ds.length k = some j ∧ K (.nx ⟨ρ, put μ3 a (.lst (ds.set j e))⟩)) (xk ⟨ρ, m0⟩ K)) (xk ⟨ρ, m0⟩ K)) (xk ⟨ρ, m0⟩ K)) :
    SV T (tAsg te (gSub ta tb rSetL)) W ⟨ρ, m0⟩ K := fun σ Hb H Dn S c => by
  refine h σ Hb H _ S (fun e μ1 v Hb1 H1 g1 r1 p1 => ?_) (c.x S)
  refine p1 σ Hb1 H1 _ (S.go g1) (fun d μ2 w Hb2 H2 g2 r2 p2 => ?_) (fun x μ' cls dd Hb' H' g r k => c.x S x μ' cls dd Hb' H' (g1.trans g) r k)
  refine p2 σ Hb2 H2 _ (S.go (g1.trans g2)) (fun i μ3 u Hb3 H3 g3 r3 p3 => ?_) (fun x μ' cls dd Hb' H' g r k => c.x S x μ' cls dd Hb' H' ((g1.trans g2).trans g) r k)
  obtain ⟨a, ds, k, j, rfl, hm, rfl, hj, kk⟩ := p3
  cases r2
  cases r3
  obtain ⟨n, o, ho, rr⟩ := g3.mu a _ hm
  cases o with
  | lst xs =>
    have rr : RepL T Hb3 ds xs := rr
    have g4 := Go.chg g3.sub g3.mu (p := a) (o := .lst (xs.set j v)) (z := .lst (ds.set j e)) hm (rr.set ((r1.mono g2.ex).mono g3.ex))
    have g := ((g1.trans g2).trans g3).trans g4
    exact ⟨a, xs, k, j, rfl, rfl, ho, by rw [← rr.1]; exact hj, c.nx _ _ _ _ g (S.go g) kk⟩
  | _ => exact rr.elim
theorem sv_aug {i : Nat} {f : Int → Int → Int} {a : Int} (hx : ρ[i]? = some (some (.int a))) (h : EV T te W ⟨ρ, m0⟩ (fun d μ => ∃ b, d = .int b ∧ K (.nx ⟨ρ.set i (some (.int (f a b))), μ⟩)) (xk ⟨ρ, m0⟩ K)) : SV T (tAug i te (ipI f)) W ⟨ρ, m0⟩ K := fun σ Hb H Dn S c => by
  obtain ⟨v, e, r⟩ := S.vars i _ hx
  cases r
  refine ⟨.int a, e, h σ Hb H _ S (fun d μ' v Hb' H' g r k => ?_) (c.x S)⟩
  obtain ⟨b, rfl, k⟩ := k
  cases r
  exact ⟨a, b, rfl, rfl, c.nx _ _ _ _ g ((S.go g).set i (.int _)) k⟩
/-! while -/
def whK (I : Nat → S → Prop) (n : Nat) (K : Out → Prop) : Out → Prop
  | .nx s' => ∃ n', n' < n ∧ I n' s'
  | .ct s' => ∃ n', n' < n ∧ I n' s'
  | .bk s' => K (.nx s')
  | o => K o
theorem sv_while {t : TT} {u : TS} (I : Nat → S → Prop) (n0 : Nat) (h0 : I n0 ⟨ρ, m0⟩)
    (hs : ∀ n s', I n s' → TV T t W s' (fun b μ => (b = true → SV T u W ⟨s'.r, μ⟩ (whK I n K)) ∧ (b = false → K (.nx ⟨s'.r, μ⟩))) (xk s' K)) : SV T (tWhile t u) W ⟨ρ, m0⟩ K := fun σ Hb H Dn S c => by
  refine ⟨fun n σ' H' => ∃ s' Hb', Go T m0 Hb H s'.m Hb' H' ∧ Sim T s' σ' Hb' H' ∧ I n s', ⟨n0, ⟨ρ, m0⟩, Hb, S.refl, S, h0⟩, ?_⟩
  rintro n σ' H' ⟨s', Hb', g, S', i'⟩
  refine hs n s' i' σ' Hb' H' _ S' (fun b μ1 Hb1 H1 g1 k1 => ?_) ((c.go g).x S')
  cases b with
  | false =>
    show Dn.nx σ' H1
    exact c.nx _ _ _ _ (g.trans g1) (S'.go g1) (k1.2 rfl)
  | true =>
    show ∃ N : L2.St → Hp → Prop, _ ∧ _
    refine ⟨fun σ2 H2 => ∃ s2 Hb2, Go T m0 Hb H s2.m Hb2 H2 ∧ Sim T s2 σ2 Hb2 H2 ∧ ∃ n', n' < n ∧ I n' s2, ?_, ?_⟩
    · rintro σ2 H2 ⟨s2, Hb2, g2, S2, n', hn, i2⟩
      exact ⟨n', hn, s2, Hb2, g2, S2, i2⟩
    · refine k1.1 rfl σ' Hb1 H1 _ (S'.go g1) ⟨?_, ?_, ?_, ?_, ?_⟩
      · exact fun s2 σ2 Hb2 H2 g2 S2 k => ⟨s2, Hb2, (g.trans g1).trans g2, S2, k⟩
      · exact fun d μ' v Hb2 H2 g2 r k => c.rt d μ' v Hb2 H2 ((g.trans g1).trans g2) r k
      · exact fun s2 σ2 Hb2 H2 g2 S2 k => c.nx s2 σ2 Hb2 H2 ((g.trans g1).trans g2) S2 k
      · exact fun s2 σ2 Hb2 H2 g2 S2 k => ⟨s2, Hb2, (g.trans g1).trans g2, S2, k⟩
      · exact fun x s2 cls dd σ2 Hb2 H2 g2 S2 r k => c.xr x s2 cls dd σ2 Hb2 H2 ((g.trans g1).trans g2) S2 r k
/-! what is walked -/
/-- J takes n turns, the i-th gives f i; only new things are laid -/
def ItOk (T : Cfg) (J : It) (n : Nat) (f : Nat → D) (Hb0 : Hp) : Prop := ∀ Hb H, Ex Hb0 Hb → Ex Hb H →
  (∀ i, i < n → J.go i H) ∧ (∀ i, n ≤ i → J.stop i H) ∧ ∀ i x H', i < n → J.yld i H x H' → ∀ μ, SimMu T μ Hb H → ∃ Hb', Go T μ Hb H μ Hb' H' ∧ Rep T Hb' (f i) x
def IV (T : Cfg) (wi : TI) (W : WX) (s : S) (P : Nat → (Nat → D) → Mu → Prop) (XP : XW) : Prop :=
  ∀ σ Hb H R, Sim T s σ Hb H → (∀ J n f μ' Hb' H', Go T s.m Hb H μ' Hb' H' → ItOk T J n f Hb' → P n f μ' → R J H') →
    (∀ x μ' cls dd Hb' H', Go T s.m Hb H μ' Hb' H' → RepX T Hb' x cls dd → XP x μ' → W cls dd σ H') → wi σ H R
def forK (I : Nat → S → Prop) (i : Nat) (K : Out → Prop) : Out → Prop
  | .nx s' => I (i + 1) s'
  | .ct s' => I (i + 1) s'
  | .bk s' => K (.nx s')
  | o => K o
theorem sv_for {wi : TI} {g : TG} {is : List Nat} {u : TS} (h : IV T wi W ⟨ρ, m0⟩ (fun n f μ => ∃ I : Nat → S → Prop, I 0 ⟨ρ, μ⟩ ∧ (∀ i s', i < n → I i s' → GV T g is (f i) s' (fun s'' => SV T u W s'' (forK I i K))) ∧ ∀ s', I n s' → K (.nx s')) (xk ⟨ρ, m0⟩ K)) :
    SV T (tFor wi g u) W ⟨ρ, m0⟩ K := fun σ Hb H Dn S c => by
  refine h σ Hb H _ S (fun J n f μ Hb1 H1 g1 ok p => ?_) (c.x S)
  obtain ⟨I, i0, turn, done⟩ := p
  have S1 := S.go g1
  refine ⟨fun i m σ' H' => m = n - i ∧ i ≤ n ∧ ∃ s' Hb', Go T μ Hb1 H1 s'.m Hb' H' ∧ Sim T s' σ' Hb' H' ∧ I i s', ⟨n, by simp, Nat.zero_le _, _, Hb1, S1.refl, S1, i0⟩, ?_⟩
  rintro i m σ' H' ⟨rfl, hi, s', Hb', g', S', i'⟩
  obtain ⟨go, stop, yld⟩ := ok Hb' H' g'.ex S'.sub
  by_cases hlt : i < n
  · refine .inr ⟨go i hlt, fun σ2 H2 => ∃ s2 Hb2, Go T μ Hb1 H1 s2.m Hb2 H2 ∧ Sim T s2 σ2 Hb2 H2 ∧ I (i + 1) s2, ?_, ?_⟩
    · rintro σ2 H2 ⟨s2, Hb2, g2, S2, i2⟩
      exact ⟨n - (i + 1), by omega, rfl, hlt, s2, Hb2, g2, S2, i2⟩
    · intro x H2 y
      obtain ⟨Hb2, g2, r2⟩ := yld i x H2 hlt y s'.m S'.mu
      refine turn i s' hlt i' x σ' Hb2 H2 _ (S'.go g2) r2 fun s3 σ3 em S3 _ k => ?_
      have g3 : Go T μ Hb1 H1 s3.m Hb2 H2 := by
        rw [em]
        exact g'.trans g2
      have g03 := g1.trans g3
      refine k σ3 Hb2 H2 _ S3 ⟨?_, ?_, ?_, ?_, ?_⟩
      · exact fun s4 σ4 Hb4 H4 g4 S4 k4 => ⟨s4, Hb4, g3.trans g4, S4, k4⟩
      · exact fun d μ' v Hb4 H4 g4 r k4 => c.rt d μ' v Hb4 H4 (g03.trans g4) r k4
      · exact fun s4 σ4 Hb4 H4 g4 S4 k4 => c.nx s4 σ4 Hb4 H4 (g03.trans g4) S4 k4
      · exact fun s4 σ4 Hb4 H4 g4 S4 k4 => ⟨s4, Hb4, g3.trans g4, S4, k4⟩
      · exact fun x s4 cls dd σ4 Hb4 H4 g4 S4 r k4 => c.xr x s4 cls dd σ4 Hb4 H4 (g03.trans g4) S4 r k4
  · have e : i = n := by omega
    subst e
    exact .inl ⟨stop i (Nat.le_refl _), c.nx s' σ' Hb' H' (g1.trans g') S' (done s' i')⟩
def wipeD (ρ : List (Option D)) : List Nat → List (Option D)
  | [] => ρ
  | v :: vs => (wipeD ρ vs).set v none
theorem Sim.unset {σ : L2.St} {Hb H : Hp} (h : Sim T s σ Hb H) (i : Nat) : Sim T ⟨s.r.set i none, s.m⟩ (σ.set i none) Hb H := by
  refine ⟨by simp [h.len], fun j e a => ?_, h.sub, h.mu⟩
  have a : (s.r.set i none)[j]? = some (some e) := a
  rw [List.getElem?_set] at a
  rw [List.getElem?_set]
  split at a
  · split at a <;> cases a
  · rename_i hij
    rw [if_neg hij]
    exact h.vars j e a
theorem Sim.wipe {σ : L2.St} {Hb H : Hp} (h : Sim T s σ Hb H) : ∀ vs : List Nat, Sim T ⟨wipeD s.r vs, s.m⟩ (L2.wipe σ vs) Hb H
  | [] => h
  | v :: vs => (Sim.wipe h vs).unset (s := ⟨wipeD s.r vs, s.m⟩) v
/-- [e for target in iter if ..] -/
theorem ev_lc {wi : TI} {g : TG} {is vs : List Nat} {tt : TT} {P : D → Mu → Prop} {XP : XW} (hv : ∀ i ∈ is, i ∈ vs)
    (h : IV T wi W ⟨ρ, m0⟩ (fun n f μ => n ≤ 100000 ∧ ∃ I : Nat → List D → Mu → Prop, I 0 [] μ ∧ (∀ i acc μ', i < n → acc.length ≤ i → I i acc μ' → GV T g is (f i) ⟨wipeD ρ vs, μ'⟩ (fun s'' => TV T tt (fun _ _ _ _ => False) s'' (fun b μ1 =>
      (b = true → EV T te (fun _ _ _ _ => False) ⟨s''.r, μ1⟩ (fun e μ2 => I (i + 1) (acc ++ [e]) μ2) (fun _ _ => False)) ∧ (b = false → I (i + 1) acc μ1)) (fun _ _ => False))) ∧ ∀ acc μ', I n acc μ' → P (.lst acc) μ') XP) :
    EV T (tLc wi g tt te vs) W ⟨ρ, m0⟩ P XP := fun σ Hb H Q S q x => by
  refine h σ Hb H _ S (fun J n f μ Hb1 H1 g1 ok p => ?_) x
  obtain ⟨hn, I, i0, turn, done⟩ := p
  have S1 := S.go g1
  intro Dl hD
  have hDb : Hb1 Dl = none := fresh_back S1.sub hD
  have hDm : μ Dl = none := by
    cases e : μ Dl with
    | none => rfl
    | some m =>
      obtain ⟨_, o, ho, _⟩ := g1.mu Dl m e
      rw [hD] at ho; cases ho
  -- the new list is one's own at Dl
  have gD : Go T μ Hb1 H1 (put μ Dl (.lst [])) Hb1 (upd H1 Dl (.lst [])) := Go.own g1.sub g1.mu hD RepL.nil
  refine ⟨fun i m H' => m = n - i ∧ i ≤ n ∧ ∃ acc μ' Hb', acc.length ≤ i ∧ μ' Dl = none ∧ Go T μ Hb1 H1 (put μ' Dl (.lst acc)) Hb' H' ∧ I i acc μ', ⟨n, by simp, Nat.zero_le _, [], μ, Hb1, Nat.le_refl _, hDm, gD, i0⟩, ?_⟩
  rintro i m H' ⟨rfl, hi, acc, μ', Hb', hl, hm', g', i'⟩
  have S' : Sim T ⟨ρ, put μ' Dl (.lst acc)⟩ σ Hb' H' := S1.go g'
  obtain ⟨go, stop, yld⟩ := ok Hb' H' g'.ex g'.sub
  by_cases hlt : i < n
  · refine .inr ⟨go i hlt, fun H2 => ∃ acc2 μ2 Hb2, acc2.length ≤ i + 1 ∧ μ2 Dl = none ∧ Go T μ Hb1 H1 (put μ2 Dl (.lst acc2)) Hb2 H2 ∧ I (i + 1) acc2 μ2, ?_, ?_⟩
    · rintro H2 ⟨acc2, μ2, Hb2, hl2, hm2, g2, i2⟩
      exact ⟨n - (i + 1), by omega, rfl, hlt, acc2, μ2, Hb2, hl2, hm2, g2, i2⟩
    · intro y H2 hy
      obtain ⟨Hb2, g2, r2⟩ := yld i y H2 hlt hy _ g'.mu
      have g02 := g'.trans g2
      -- the list set aside: the store without it
      have aside : ∀ {μa : Mu} {Hba Ha : Hp} {ac : List D}, μa Dl = none → SimMu T (put μa Dl (.lst ac)) Hba Ha → SimMu T μa Hba Ha := fun {μa Hba Ha ac} hn hs a m ha => by
        refine hs a m ?_
        rw [put_ne (fun e => by rw [e, hn] at ha; cases ha)]
        exact ha
      have back : ∀ {μa μb : Mu} {Hba Ha Hbb Hc : Hp} {ac : List D}, μa Dl = none → SimMu T (put μa Dl (.lst ac)) Hba Ha → Go T μa Hba Ha μb Hbb Hc → μb Dl = none ∧ Go T (put μa Dl (.lst ac)) Hba Ha (put μb Dl (.lst ac)) Hbb Hc := fun {μa μb Hba Ha Hbb Hc ac} hn hs gg => by
        obtain ⟨hbn, o, ho, ro⟩ := hs Dl _ put_same
        obtain ⟨ho', hbn'⟩ := gg.keep Dl o ho hbn hn
        have mb : μb Dl = none := by
          cases e : μb Dl with
          | none => rfl
          | some m =>
            rcases gg.new Dl m e with z | z
            · exact absurd hn z
            · rw [ho] at z; cases z
        refine ⟨mb, gg.ex, fun a u h1 h2 h3 => ?_, fun a m h1 => ?_, gg.alive, gg.sub, fun a m h1 => ?_⟩
        · have ne : a ≠ Dl := fun e => by rw [e, put_same] at h3; cases h3
          rw [put_ne ne] at h3
          exact gg.keep a u h1 h2 h3
        · by_cases e : a = Dl
          · subst e; exact .inl (by rw [put_same]; simp)
          · rw [put_ne e] at h1 ⊢; exact gg.new a m h1
        · by_cases e : a = Dl
          · subst e
            rw [put_same] at h1
            cases h1
            exact ⟨hbn', o, ho', ro.mono gg.ex⟩
          · rw [put_ne e] at h1; exact gg.mu a m h1
      have Sw0 : Sim T ⟨ρ, put μ' Dl (.lst acc)⟩ σ Hb2 H2 := S'.go g2
      have Sw : Sim T ⟨ρ, μ'⟩ σ Hb2 H2 := ⟨Sw0.len, Sw0.vars, Sw0.sub, aside hm' Sw0.mu⟩
      have Sww : Sim T ⟨wipeD ρ vs, μ'⟩ (L2.wipe σ vs) Hb2 H2 := Sw.wipe vs
      refine turn i acc μ' hlt hl i' y (L2.wipe σ vs) Hb2 H2 _ Sww r2 fun s3 σ3 em S3 wq k => ?_
      have em : s3.m = μ' := em
      refine ⟨?_, ?_⟩
      · have e1 := wq vs hv
        have idem : ∀ (us : List Nat), (∀ u ∈ us, u ∈ vs) → L2.wipe (L2.wipe σ vs) us = L2.wipe σ vs := by
          intro us
          induction us with
          | nil => intro _; rfl
          | cons u us ih =>
            intro hu
            show (L2.wipe (L2.wipe σ vs) us).set u none = L2.wipe σ vs
            rw [ih fun z hz => hu z (List.mem_cons_of_mem _ hz)]
            have : ∀ (ws : List Nat) (u : Nat), u ∈ ws → (L2.wipe σ ws).set u none = L2.wipe σ ws := by
              intro ws
              induction ws with
              | nil => intro u hu; cases hu
              | cons w ws ih2 =>
                intro u hu
                show ((L2.wipe σ ws).set w none).set u none = (L2.wipe σ ws).set w none
                by_cases e : u = w
                · subst e; rw [List.set_set]
                · have hu2 : u ∈ ws := by
                    rcases List.mem_cons.mp hu with z | z
                    · exact absurd z e
                    · exact z
                  rw [List.set_comm _ _ (fun z => e z.symm), ih2 u hu2]
            exact this vs u (hu u (by simp))
        rw [e1]
        exact idem vs fun _ z => z
      · refine k σ3 Hb2 H2 _ S3 (fun b μ3 Hb3 H3 g3 kk => ?_) (fun _ _ _ _ _ _ _ _ z => z.elim)
        rw [em] at g3
        obtain ⟨hm3, g3'⟩ := back hm' Sw0.mu g3
        have S3' : Sim T ⟨s3.r, μ3⟩ σ3 Hb3 H3 := S3.go (by rw [em]; exact g3)
        cases b with
        | false =>
          show ∃ acc2 μ2 Hb2, _
          exact ⟨acc, μ3, Hb3, by omega, hm3, g02.trans g3', kk.2 rfl⟩
        | true =>
          show te σ3 H3 _
          refine kk.1 rfl σ3 Hb3 H3 _ S3' (fun e μ4 w Hb4 H4 g4 r4 i4 => ?_) (fun _ _ _ _ _ _ _ _ z => z.elim)
          obtain ⟨hm4, g4'⟩ := back hm3 g3'.mu g4
          obtain ⟨_, o, ho, ro⟩ := g4'.mu Dl _ put_same
          cases o with
          | lst xs =>
            have ro : RepL T Hb4 acc xs := ro
            have g5 := Go.chg g4'.sub g4'.mu (p := Dl) (o := .lst (xs ++ [w])) (z := .lst (acc ++ [e])) put_same (ro.app (.cons r4 .nil))
            rw [put_put] at g5
            exact ⟨xs, ho, Evl.sz_lt (by rw [← ro.1]; omega), acc ++ [e], μ4, Hb4, by simp; omega, hm4, ((g02.trans g3').trans g4').trans g5, i4⟩
          | _ => exact ro.elim
  · have e : i = n := by omega
    subst e
    obtain ⟨hbn, o, ho, ro⟩ := g'.mu Dl _ put_same
    cases o with
    | lst xs =>
      have gf := Go.freeze g'.sub g'.mu (p := Dl) put_same ho
      rw [del_put hm'] at gf
      have ro : RepL T Hb' acc xs := ro
      exact .inl ⟨stop i (Nat.le_refl _), q _ _ _ _ _ ((g1.trans g').trans gf) (.lst upd_same ro.1 (ro.mono gf.ex).2) (done acc μ' i')⟩
    | _ => exact ro.elim
end
end Pw

/-! Pw, part C: what is walked, calls by contracts, operators and built-ins by values. -/
namespace Pw
open PySem PySem.Spec PyProof.Rows L2
open Evl (Ex ex_l ex_t fresh_back)
section
variable {T : Cfg} {W : WX} {s : S} {ρ : List (Option D)} {m0 : Mu} {XP : XW} {ta tb te : TE} {P : D → Mu → Prop}
/-! ### what is walked -/
def nth (ds : List D) (i : Nat) : D := ds.getD i .non
theorem nth_get {ds : List D} {i : Nat} (h : i < ds.length) : ds[i]? = some (nth ds i) := by
  unfold nth
  rw [List.getD_eq_getElem?_getD, List.getElem?_eq_getElem h] <;> rfl
theorem nth_of {ds : List D} {i : Nat} {d : D} (h : ds[i]? = some d) : nth ds i = d := by
  unfold nth
  rw [List.getD_eq_getElem?_getD, h] <;> rfl
theorem itl_ok {a : Addr} {ds : List D} {xs : List V} {Hb0 : Hp} (hx : SqL T.K Hb0 a xs) (r : RepL T Hb0 ds xs) : ItOk T (Itl T.K a) ds.length (nth ds) Hb0 := fun Hb H e1 e2 => by
  have hH : SqL T.K H a xs := ex_l e2 (ex_l e1 hx)
  refine ⟨fun i hi => ⟨xs, xs[i]'(by rw [← r.1]; exact hi), hH, List.getElem?_eq_getElem _⟩, fun i hi => ⟨xs, hH, by rw [← r.1]; exact hi⟩, ?_⟩
  rintro i x H' hi ⟨rfl, y⟩ μ sm
  refine ⟨Hb, .refl e2 sm, ?_⟩
  exact (r.2 i _ x (nth_get hi) (y xs hH)).mono e1
theorem itt_ok {a : Addr} {ds : List D} {xs : List V} {Hb0 : Hp} (hx : SqT T.K Hb0 a xs) (r : RepL T Hb0 ds xs) : ItOk T (Itt T.K a) ds.length (nth ds) Hb0 := fun Hb H e1 e2 => by
  have hH : SqT T.K H a xs := ex_t e2 (ex_t e1 hx)
  refine ⟨fun i hi => ⟨xs, xs[i]'(by rw [← r.1]; exact hi), hH, List.getElem?_eq_getElem _⟩, fun i hi => ⟨xs, hH, by rw [← r.1]; exact hi⟩, ?_⟩
  rintro i x H' hi ⟨rfl, y⟩ μ sm
  refine ⟨Hb, .refl e2 sm, ?_⟩
  exact (r.2 i _ x (nth_get hi) (y xs hH)).mono e1
theorem itr_ok {lo : Int} {n : Nat} {Hb0 : Hp} : ItOk T (Itr lo n) n (fun i => .int (lo + (i : Nat))) Hb0 := fun Hb H e1 e2 => by
  refine ⟨fun i hi => hi, fun i hi => hi, ?_⟩
  rintro i x H' hi ⟨rfl, rfl⟩ μ sm
  exact ⟨Hb, .refl e2 sm, .int _⟩
def Seqd (d : D) (ds : List D) : Prop := d = .lst ds ∨ d = .seq ds
theorem Seqd.inv {d : D} {ds : List D} {v : V} {Hb : Hp} (h : Seqd d ds) (r : Rep T Hb d v) : ∃ a xs, v = .ref a ∧ SqL T.K Hb a xs ∧ RepL T Hb ds xs := by
  rcases h with rfl | rfl
  · obtain ⟨a, xs, e, h, r⟩ := r.lst_inv
    exact ⟨a, xs, e, Evl.sq_of h, r⟩
  · exact r.seq_inv
theorem iv_list {P : Nat → (Nat → D) → Mu → Prop} (h : EV T te W ⟨ρ, m0⟩ (fun d μ => ∃ ds, Seqd d ds ∧ P ds.length (nth ds) μ) XP) : IV T (iList T.K te) W ⟨ρ, m0⟩ P XP := fun σ Hb H R S q x =>
  h σ Hb H _ S (fun d μ v Hb1 H1 g r p => by
    obtain ⟨ds, hd, p⟩ := p
    obtain ⟨a, xs, rfl, hx, r⟩ := hd.inv r
    exact ⟨a, rfl, ⟨xs, ex_l g.sub hx⟩, q _ _ _ _ _ _ g (itl_ok hx r) p⟩) x
theorem iv_tup {P : Nat → (Nat → D) → Mu → Prop} (h : EV T te W ⟨ρ, m0⟩ (fun d μ => ∃ ds, d = .tup ds ∧ P ds.length (nth ds) μ) XP) : IV T (iTup T.K te) W ⟨ρ, m0⟩ P XP := fun σ Hb H R S q x =>
  h σ Hb H _ S (fun d μ v Hb1 H1 g r p => by
    obtain ⟨ds, rfl, p⟩ := p
    obtain ⟨a, xs, rfl, hx, r⟩ := r.tup_inv
    exact ⟨a, rfl, ⟨xs, ex_t g.sub hx⟩, q _ _ _ _ _ _ g (itt_ok hx r) p⟩) x
theorem iv_rng1 {ta : TA} {P : Nat → (Nat → D) → Mu → Prop} (h : EA T ta W ⟨ρ, m0⟩ (fun ds μ => ∃ n : Int, ds = [.int n] ∧ n ≤ 1000000 ∧ -1000000 ≤ n ∧ P n.toNat (fun i => .int (0 + (i : Nat))) μ) XP) : IV T (iRng1 ta) W ⟨ρ, m0⟩ P XP := fun σ Hb H R S q x =>
  h σ Hb H _ S (fun ds μ vs Hb1 H1 g r p => by
    obtain ⟨n, rfl, h1, h2, p⟩ := p
    obtain ⟨v, ys, rfl, r1, r⟩ := r.cons_inv
    obtain rfl := r.nil_inv
    cases r1
    exact ⟨n, rfl, by omega, by omega, q _ _ _ _ _ _ g itr_ok p⟩) x
theorem iv_rng2 {ta : TA} {P : Nat → (Nat → D) → Mu → Prop} (h : EA T ta W ⟨ρ, m0⟩ (fun ds μ => ∃ m n : Int, ds = [.int m, .int n] ∧ (m ≤ 1000000 ∧ -1000000 ≤ m) ∧ (n ≤ 1000000 ∧ -1000000 ≤ n) ∧ P (n - m).toNat (fun i => .int (m + (i : Nat))) μ) XP) : IV T (iRng2 ta) W ⟨ρ, m0⟩ P XP := fun σ Hb H R S q x =>
  h σ Hb H _ S (fun ds μ vs Hb1 H1 g r p => by
    obtain ⟨m, n, rfl, h1, h2, p⟩ := p
    obtain ⟨v, ys, rfl, r1, r⟩ := r.cons_inv
    obtain ⟨w, ys, rfl, r2, r⟩ := r.cons_inv
    obtain rfl := r.nil_inv
    cases r1
    cases r2
    exact ⟨m, n, rfl, ⟨by omega, by omega, by omega, by omega⟩, q _ _ _ _ _ _ g itr_ok p⟩) x
theorem ite_ok {a : Addr} {ds : List D} {xs : List V} {Hb0 : Hp} (hx : SqL T.K Hb0 a xs) (r : RepL T Hb0 ds xs) : ItOk T (Ite T.K a) ds.length (fun i => .tup [.int (i : Nat), nth ds i]) Hb0 := fun Hb H e1 e2 => by
  have hH : SqL T.K H a xs := ex_l e2 (ex_l e1 hx)
  refine ⟨fun i hi => ⟨xs, xs[i]'(by rw [← r.1]; exact hi), hH, List.getElem?_eq_getElem _⟩, fun i hi => ⟨xs, hH, by rw [← r.1]; exact hi⟩, ?_⟩
  rintro i x H' hi ⟨Tp, y, rfl, hT, rfl, hy⟩ μ sm
  have g := Go.lay e2 sm (o := .tup [.int (i : Nat), y]) hT
  refine ⟨_, g, ?_⟩
  have rl : RepL T (upd Hb Tp (.tup [.int (i : Nat), y])) [.int (i : Nat), nth ds i] [.int (i : Nat), y] :=
    .cons (.int _) (.cons (((r.2 i _ y (nth_get hi) (hy xs hH)).mono e1).mono g.ex) .nil)
  exact .tup (Evl.st_of upd_same) rl.1 rl.2
theorem iv_enum {ta : TA} {P : Nat → (Nat → D) → Mu → Prop} (h : EA T ta W ⟨ρ, m0⟩ (fun es μ => ∃ d ds, es = [d] ∧ Seqd d ds ∧ P ds.length (fun i => .tup [.int (i : Nat), nth ds i]) μ) XP) : IV T (iEnum T.K ta) W ⟨ρ, m0⟩ P XP := fun σ Hb H R S q x =>
  h σ Hb H _ S (fun ds μ vs Hb1 H1 g r p => by
    obtain ⟨d, ds, rfl, hd, p⟩ := p
    obtain ⟨v, ys, rfl, r1, r⟩ := r.cons_inv
    obtain rfl := r.nil_inv
    obtain ⟨a, xs, rfl, hx, r⟩ := hd.inv r1
    exact ⟨a, xs, rfl, ex_l g.sub hx, q _ _ _ _ _ _ g (ite_ok hx r) p⟩) x
theorem itz_ok {a b : Addr} {ds es : List D} {xs ys : List V} {Hb0 : Hp} (hx : SqL T.K Hb0 a xs) (r : RepL T Hb0 ds xs) (hy : SqL T.K Hb0 b ys) (r' : RepL T Hb0 es ys) : ItOk T (Itz T.K a b) (min ds.length es.length) (fun i => .tup [nth ds i, nth es i]) Hb0 := fun Hb H e1 e2 => by
  have hH : SqL T.K H a xs := ex_l e2 (ex_l e1 hx)
  have hH' : SqL T.K H b ys := ex_l e2 (ex_l e1 hy)
  have l1 := r.1
  have l2 := r'.1
  refine ⟨fun i hi => ⟨xs, ys, xs[i]'(by omega), ys[i]'(by omega), hH, hH', List.getElem?_eq_getElem _, List.getElem?_eq_getElem _⟩, fun i hi => ⟨xs, ys, hH, hH', by omega⟩, ?_⟩
  rintro i x H' hi ⟨Tp, y, z, rfl, hT, rfl, hy, hz⟩ μ sm
  have g := Go.lay e2 sm (o := .tup [y, z]) hT
  refine ⟨_, g, ?_⟩
  have rl : RepL T (upd Hb Tp (.tup [y, z])) [nth ds i, nth es i] [y, z] :=
    .cons (((r.2 i _ y (nth_get (by omega)) (hy xs hH)).mono e1).mono g.ex) (.cons (((r'.2 i _ z (nth_get (by omega)) (hz ys hH')).mono e1).mono g.ex) .nil)
  exact .tup (Evl.st_of upd_same) rl.1 rl.2
theorem iv_zip {ta : TA} {P : Nat → (Nat → D) → Mu → Prop} (h : EA T ta W ⟨ρ, m0⟩ (fun fs μ => ∃ d ds e es, fs = [d, e] ∧ Seqd d ds ∧ Seqd e es ∧ P (min ds.length es.length) (fun i => .tup [nth ds i, nth es i]) μ) XP) : IV T (iZip T.K ta) W ⟨ρ, m0⟩ P XP := fun σ Hb H R S q x =>
  h σ Hb H _ S (fun ds μ vs Hb1 H1 g r p => by
    obtain ⟨d, ds, e, es, rfl, hd, he, p⟩ := p
    obtain ⟨v, ys, rfl, r1, r⟩ := r.cons_inv
    obtain ⟨w, ys, rfl, r2, r⟩ := r.cons_inv
    obtain rfl := r.nil_inv
    obtain ⟨a, xs, rfl, hx, rr⟩ := hd.inv r1
    obtain ⟨b, zs, rfl, hz, r'⟩ := he.inv r2
    exact ⟨a, b, xs, zs, rfl, ex_l g.sub hx, ex_l g.sub hz, q _ _ _ _ _ _ g (itz_ok hx rr hz r') p⟩) x
theorem its_ok {x : Str} {Hb0 : Hp} : ItOk T (Its x) x.cps.size (fun i => .str ⟨#[x.cps.getD i 0]⟩) Hb0 := fun Hb H e1 e2 => by
  refine ⟨fun i hi => hi, fun i hi => hi, ?_⟩
  rintro i v H' hi ⟨rfl, c, hc, rfl⟩ μ sm
  refine ⟨Hb, .refl e2 sm, ?_⟩
  have : x.cps.getD i 0 = c := by
    rw [Array.getD_eq_getD_getElem?, hc] <;> rfl
  show Rep T Hb (.str ⟨#[x.cps.getD i 0]⟩) _
  rw [this]
  exact .str _
theorem iv_str {P : Nat → (Nat → D) → Mu → Prop} (h : EV T te W ⟨ρ, m0⟩ (fun d μ => ∃ x : Str, d = .str x ∧ P x.cps.size (fun i => .str ⟨#[x.cps.getD i 0]⟩) μ) XP) : IV T (iStr te) W ⟨ρ, m0⟩ P XP := fun σ Hb H R S q x =>
  h σ Hb H _ S (fun d μ v Hb1 H1 g r p => by
    obtain ⟨z, rfl, p⟩ := p
    cases r
    exact ⟨z, rfl, q _ _ _ _ _ _ g its_ok p⟩) x
/-! ### calls -/
end
abbrev Ct := List D → Mu → (D → Mu → Prop) → XW → Prop
def spOf (T : Cfg) (c : Ct) : Sp := fun vs H Q E => ∃ ds μ Hb P XP, Ex Hb H ∧ SimMu T μ Hb H ∧ RepL T Hb ds vs ∧ c ds μ P XP ∧
  (∀ d μ' v Hb' H', Go T μ Hb H μ' Hb' H' → Rep T Hb' d v → P d μ' → Q v H') ∧ (∀ x μ' cls dd Hb' H', Go T μ Hb H μ' Hb' H' → RepX T Hb' x cls dd → XP x μ' → E cls dd H')
theorem spOf_len {T : Cfg} {c : Ct} {n : Nat} (h : ∀ ds μ P XP, c ds μ P XP → ds.length = n) {vs : List V} {H : Hp} {Q : VK} {E : XK} (q : spOf T c vs H Q E) : vs.length = n := by
  obtain ⟨ds, μ, Hb, P, XP, _, _, r, hc, _⟩ := q
  rw [← r.1]
  exact h ds μ P XP hc
def fnK (P : D → Mu → Prop) (XP : XW) : Out → Prop
  | .nx s => P .non s.m
  | .rt d m => P d m
  | .xr x s => XP x s.m
  | _ => False
/-- the slots at a def's begin -/
def slots (n : Nat) (ds : List D) : List (Option D) := ds.map some ++ List.replicate (n - ds.length) none
theorem fn_go {T : Cfg} {t : XK → TS} {c : Ct} {N : List Str} (h : ∀ E ds μ P XP, c ds μ P XP → SV T (t E) (fun cls dd _ H => E cls dd H) ⟨slots N.length ds, μ⟩ (fnK P XP))
    (vs : List V) (H : Hp) (Q : VK) (E : XK) (q : spOf T c vs H Q E) : t E { nx := fun _ H' => Q .non H', rt := Q } (start N vs) H := by
  obtain ⟨ds, μ, Hb, P, XP, ex, sm, r, hc, hq, hx⟩ := q
  refine h E ds μ P XP hc (start N vs) Hb H _ ⟨?_, ?_, ex, sm⟩ ⟨?_, ?_, ?_, ?_, ?_⟩
  · simp [slots, L2.start, r.1]
  · intro i d e
    have e : (ds.map some ++ List.replicate (N.length - ds.length) none)[i]? = some (some d) := e
    by_cases hi : i < ds.length
    · rw [List.getElem?_append_left (by simpa using hi), List.getElem?_map, Option.map_eq_some_iff] at e
      obtain ⟨d', e1, e2⟩ := e
      cases e2
      obtain ⟨v, hv, rv⟩ := r.get e1
      refine ⟨v, ?_, rv⟩
      unfold L2.start
      rw [List.getElem?_append_left (by rw [List.length_map, ← r.1]; exact hi), List.getElem?_map, hv] <;> rfl
    · rw [List.getElem?_append_right (by simpa using hi)] at e
      have := List.mem_of_getElem? e
      rw [List.mem_replicate] at this
      cases this.2
  · exact fun s' σ' Hb' H' g S k => hq .non s'.m .non Hb' H' g .non k
  · exact fun d μ' v Hb' H' g r k => hq d μ' v Hb' H' g r k
  · exact fun _ _ _ _ _ _ k => k.elim
  · exact fun _ _ _ _ _ _ k => k.elim
  · exact fun x s' cls dd σ' Hb' H' g S r k => hx x s'.m cls dd Hb' H' g r k
def mrg (μ μ1 μ2 : Mu) : Mu := fun a => match μ2 a with
  | some m => some m
  | none => if (μ1 a).isSome = true then none else μ a
section
variable {T : Cfg} {W : WX} {s : S} {ρ : List (Option D)} {m0 : Mu} {XP : XW} {ta tb te : TE} {P : D → Mu → Prop} {μ μ1 μ2 : Mu} {Hb H Hb' H' : Hp}
def Subm (μ1 μ : Mu) : Prop := ∀ a m, μ1 a = some m → μ a = some m
theorem Subm.sim (h : Subm μ1 μ) (m : SimMu T μ Hb H) : SimMu T μ1 Hb H := fun a z e => m a z (h a z e)
theorem Go.widen (h : Subm μ1 μ) (m : SimMu T μ Hb H) (g : Go T μ1 Hb H μ2 Hb' H') : Go T μ Hb H (mrg μ μ1 μ2) Hb' H' := by
  have sub0 : ∀ a, μ a = none → μ1 a = none := fun a e => by
    cases q : μ1 a with
    | none => rfl
    | some z => rw [h a z q] at e; cases e
  refine ⟨g.ex, fun a o h1 h2 h3 => g.keep a o h1 h2 (sub0 a h3), fun a z e => ?_, g.alive, g.sub, fun a z e => ?_⟩
  · unfold mrg at e
    cases q : μ2 a with
    | some y =>
      rcases g.new a y q with w | w
      · left
        intro e0
        exact w (sub0 a e0)
      · exact .inr w
    | none =>
      rw [q] at e
      left
      intro e0
      simp [e0] at e
  · unfold mrg at e
    cases q : μ2 a with
    | some y =>
      rw [q] at e
      cases e
      exact g.mu a _ q
    | none =>
      rw [q] at e
      by_cases w : (μ1 a).isSome = true
      · simp [w] at e
      · simp [w] at e
        have w1 : μ1 a = none := by simpa using w
        obtain ⟨n, o, ho, r⟩ := m a z e
        obtain ⟨ho', n'⟩ := g.keep a o ho n w1
        exact ⟨n', o, ho', r.mono g.ex⟩
theorem Go.forget (g : Go T μ Hb H μ1 Hb' H') (h : Subm μ2 μ1) : Go T μ Hb H μ2 Hb' H' :=
  ⟨g.ex, g.keep, fun a z e => g.new a z (h a z e), g.alive, g.sub, h.sim g.mu⟩
theorem sub_nil : Subm mu0 μ := fun _ _ e => nomatch e
theorem mrg_nil : mrg μ mu0 mu0 = μ := by funext a; unfold mrg; simp
/-- a def that changes nothing that was there -/
def pu (c : List D → (D → Prop) → (XD → Prop) → Prop) : Ct := fun ds μ P XP => μ = mu0 ∧ ∃ Pf Xf, c ds Pf Xf ∧ (∀ d, Pf d → P d mu0) ∧ ∀ x, Xf x → XP x mu0
theorem ev_callM {c : Ct} {dvs : List V} {dds : List D} {E : XK} {ta : TA} (hW : ∀ σ cls dd H, W cls dd σ H → E cls dd H) (hd : ∀ Hb, RepL T Hb dds dvs)
    (h : EA T ta W ⟨ρ, m0⟩ (fun ds μ => ∃ μ1, Subm μ1 μ ∧ c (ds ++ dds) μ1 (fun d μ2 => P d (mrg μ μ1 μ2)) (fun x μ2 => XP x (mrg μ μ1 μ2))) XP) : EV T (tCall (spOf T c) dvs E ta) W ⟨ρ, m0⟩ P XP := fun σ Hb H Q S q x =>
  h σ Hb H _ S (fun ds μ vs Hb1 H1 g r p => by
    obtain ⟨μ1, hs, p⟩ := p
    refine ⟨ds ++ dds, μ1, Hb1, _, _, g.sub, hs.sim g.mu, r.app (hd Hb1), p, fun d μ' v Hb' H' g' r' k => ?_, fun y μ' cls dd Hb' H' g' r' k => ?_⟩
    · exact q _ _ _ _ _ (g.trans (g'.widen hs g.mu)) r' k
    · exact hW σ _ _ _ (x _ _ _ _ _ _ (g.trans (g'.widen hs g.mu)) r' k)) x
theorem ev_call {c : List D → (D → Prop) → (XD → Prop) → Prop} {dvs : List V} {dds : List D} {E : XK} {ta : TA} (hW : ∀ σ cls dd H, W cls dd σ H → E cls dd H) (hd : ∀ Hb, RepL T Hb dds dvs)
    (h : EA T ta W ⟨ρ, m0⟩ (fun ds μ => c (ds ++ dds) (fun d => P d μ) (fun x => XP x μ)) XP) : EV T (tCall (spOf T (pu c)) dvs E ta) W ⟨ρ, m0⟩ P XP := fun σ Hb H Q S q x =>
  h σ Hb H _ S (fun ds μ vs Hb1 H1 g r p => by
    refine ⟨ds ++ dds, mu0, Hb1, fun d μ' => μ' = mu0 ∧ P d μ, fun y μ' => μ' = mu0 ∧ XP y μ, g.sub, SimMu.nil, r.app (hd Hb1), ⟨rfl, _, _, p, fun d k => ⟨rfl, k⟩, fun y k => ⟨rfl, k⟩⟩, fun d μ' v Hb' H' g' r' k => ?_, fun y μ' cls dd Hb' H' g' r' k => ?_⟩
    · obtain ⟨rfl, k⟩ := k
      have g'' := g'.widen sub_nil g.mu
      rw [mrg_nil] at g''
      exact q _ _ _ _ _ (g.trans g'') r' k
    · obtain ⟨rfl, k⟩ := k
      have g'' := g'.widen sub_nil g.mu
      rw [mrg_nil] at g''
      exact hW σ _ _ _ (x _ _ _ _ _ _ (g.trans g'') r' k)) x
/-- a call from which nothing is raised -/
theorem ev_call0 {c : List D → (D → Prop) → (XD → Prop) → Prop} {dvs : List V} {dds : List D} {E : XK} {ta : TA} (hd : ∀ Hb, RepL T Hb dds dvs)
    (h : EA T ta W ⟨ρ, m0⟩ (fun ds μ => c (ds ++ dds) (fun d => P d μ) (fun _ => False)) XP) : EV T (tCall (spOf T (pu c)) dvs E ta) W ⟨ρ, m0⟩ P XP := fun σ Hb H Q S q x =>
  h σ Hb H _ S (fun ds μ vs Hb1 H1 g r p => by
    refine ⟨ds ++ dds, mu0, Hb1, fun d μ' => μ' = mu0 ∧ P d μ, fun y μ' => False, g.sub, SimMu.nil, r.app (hd Hb1), ⟨rfl, _, _, p, fun d k => ⟨rfl, k⟩, fun y k => k⟩, fun d μ' v Hb' H' g' r' k => ?_, fun y μ' cls dd Hb' H' g' r' k => k.elim⟩
    obtain ⟨rfl, k⟩ := k
    have g'' := g'.widen sub_nil g.mu
    rw [mrg_nil] at g''
    exact q _ _ _ _ _ (g.trans g'') r' k) x
/-- a def that draws from a well (its first argument): the rest, what is left of the well -/
def wl (c : Nat → List D → (D → Nat → Prop) → Prop) : Ct := fun ds μ P _ => ∃ a b rest, ds = .ptr a :: rest ∧ μ = put mu0 a (.well b) ∧ ∃ Pf, c b rest Pf ∧ ∀ d b', Pf d b' → P d (put mu0 a (.well b'))
theorem mrg_one {a : Addr} {m n : MO} : mrg μ (put mu0 a m) (put mu0 a n) = put μ a n := by
  funext b
  unfold mrg put
  by_cases e : b = a
  · simp [e]
  · simp [e]
theorem sub_one {a : Addr} {m : MO} (h : μ a = some m) : Subm (put mu0 a m) μ := fun b z e => by
  unfold put at e
  split at e
  · rename_i q; cases e; rw [q]; exact h
  · cases e
theorem ev_callW {c : Nat → List D → (D → Nat → Prop) → Prop} {dvs : List V} {dds : List D} {E : XK} {ta : TA} (hd : ∀ Hb, RepL T Hb dds dvs)
    (h : EA T ta W ⟨ρ, m0⟩ (fun ds μ => ∃ a b rest, ds ++ dds = .ptr a :: rest ∧ μ a = some (.well b) ∧ c b rest (fun d b' => P d (put μ a (.well b')))) XP) : EV T (tCall (spOf T (wl c)) dvs E ta) W ⟨ρ, m0⟩ P XP := fun σ Hb H Q S q x =>
  h σ Hb H _ S (fun ds μ vs Hb1 H1 g r p => by
    obtain ⟨a, b, rest, e1, hm, p⟩ := p
    refine ⟨ds ++ dds, put mu0 a (.well b), Hb1, fun d μ' => ∃ b', μ' = put mu0 a (.well b') ∧ P d (put μ a (.well b')), fun y μ' => False, g.sub, (sub_one hm).sim g.mu, r.app (hd Hb1), ⟨a, b, rest, e1, rfl, _, p, fun d b' k => ⟨b', rfl, k⟩⟩, fun d μ' v Hb' H' g' r' k => ?_, fun y μ' cls dd Hb' H' g' r' k => k.elim⟩
    obtain ⟨b', rfl, k⟩ := k
    have g'' := g'.widen (sub_one hm) g.mu
    rw [mrg_one] at g''
    exact q _ _ _ _ _ (g.trans g'') r' k) x
/-- __init__ of the class k -/
def ini (k : Nat) (c : List D → (List (Str × D) → Prop) → (XD → Prop) → Prop) : Ct := fun ds μ P XP => ∃ a rest, ds = .ptr a :: rest ∧ μ = put mu0 a (.ins k []) ∧ ∃ Pf Xf, c rest Pf Xf ∧ (∀ fs, Pf fs → P .non (put mu0 a (.ins k fs))) ∧ ∀ x fs, Xf x → XP x (put mu0 a (.ins k fs))
theorem ev_makeG {k : Nat} {XC : XW} {c : List D → (List (Str × D) → Prop) → (XD → Prop) → Prop} {dvs : List V} {dds : List D} {E : XK} {ta : TA} (hX : ∀ y μ, XC y μ → XP y μ ∧ ∀ σ cls dd H, W cls dd σ H → E cls dd H) (hd : ∀ Hb, RepL T Hb dds dvs)
    (h : EA T ta W ⟨ρ, m0⟩ (fun ds μ => c (ds ++ dds) (fun fs => P (.ins k fs) μ) (fun x => XC x μ)) XP) : EV T (tMake (T.cls k) (spOf T (ini k c)) dvs E ta) W ⟨ρ, m0⟩ P XP := fun σ Hb H Q S q x =>
  h σ Hb H _ S (fun ds μ vs Hb1 H1 g r p => by
    intro a dx ha hdx hne
    have hb1 : Hb1 a = none := fresh_back g.sub ha
    have hm1 : μ a = none := by
      cases e : μ a with
      | none => rfl
      | some m =>
        obtain ⟨_, o, ho, _⟩ := g.mu a m e
        rw [ha] at ho; cases ho
    -- the dict, then the instance
    have g1 : Go T μ Hb1 H1 μ (upd Hb1 dx (.own a)) (upd H1 dx (.own a)) := Go.lay g.sub g.mu hdx
    have ha' : (upd H1 dx (.own a)) a = none := by rw [upd_ne (fun e => hne e.symm)]; exact ha
    have g2 := Go.own g1.sub g1.mu (o := .ins (T.cls k) dx []) (z := .ins k []) ha' ⟨rfl, rfl, fun i g f e => by simp at e⟩
    have hs : Subm (put mu0 a (.ins k [])) (put μ a (.ins k [])) := sub_one put_same
    refine ⟨.ptr a :: (ds ++ dds), put mu0 a (.ins k []), _, fun d μ' => ∃ fs, d = .non ∧ μ' = put mu0 a (.ins k fs) ∧ P (.ins k fs) μ, fun y μ' => (∃ fs, μ' = put mu0 a (.ins k fs)) ∧ XC y μ, g2.sub, hs.sim g2.mu,
      .cons (.ptr a) ((r.mono (g1.trans g2).ex).app (hd _)), ⟨a, ds ++ dds, rfl, rfl, _, _, p, fun fs z => ⟨fs, rfl, rfl, z⟩, fun y fs z => ⟨⟨fs, rfl⟩, z⟩⟩, fun d μ' v Hb' H' g' r' z => ?_, fun y μ' cls dd Hb' H' g' r' z => ?_⟩
    · obtain ⟨fs, rfl, rfl, z⟩ := z
      cases r'
      refine ⟨rfl, ?_⟩
      have g3 := g'.widen hs g2.mu
      rw [mrg_one, put_put] at g3
      obtain ⟨n, o, ho, ro⟩ := g3.mu a _ put_same
      have g4 := Go.freeze g3.sub g3.mu put_same ho
      rw [del_put hm1] at g4
      cases o with
      | ins C dx' fs' =>
        obtain ⟨rfl, ro⟩ := ro
        exact q _ _ _ _ _ ((((g.trans g1).trans g2).trans g3).trans g4) (.ins upd_same ro.1 (ro.mono g4.ex).2) z
      | _ => exact ro.elim
    · obtain ⟨⟨fs, rfl⟩, z⟩ := z
      have g3 := g'.widen hs g2.mu
      rw [mrg_one, put_put] at g3
      have g4 := ((((g.trans g1).trans g2).trans g3)).forget (μ2 := μ) (fun b m e => by
        have ne : b ≠ a := fun w => by rw [w, hm1] at e; cases e
        rw [put_ne ne]
        exact e)
      exact (hX _ _ z).2 σ _ _ _ (x _ _ _ _ _ _ g4 r' (hX _ _ z).1)) x
theorem ev_make {k : Nat} {c : List D → (List (Str × D) → Prop) → (XD → Prop) → Prop} {dvs : List V} {dds : List D} {E : XK} {ta : TA} (hW : ∀ σ cls dd H, W cls dd σ H → E cls dd H) (hd : ∀ Hb, RepL T Hb dds dvs)
    (h : EA T ta W ⟨ρ, m0⟩ (fun ds μ => c (ds ++ dds) (fun fs => P (.ins k fs) μ) (fun x => XP x μ)) XP) : EV T (tMake (T.cls k) (spOf T (ini k c)) dvs E ta) W ⟨ρ, m0⟩ P XP := ev_makeG (fun y μ z => ⟨z, hW⟩) hd h
theorem ev_make0 {k : Nat} {c : List D → (List (Str × D) → Prop) → (XD → Prop) → Prop} {dvs : List V} {dds : List D} {E : XK} {ta : TA} (hd : ∀ Hb, RepL T Hb dds dvs)
    (h : EA T ta W ⟨ρ, m0⟩ (fun ds μ => c (ds ++ dds) (fun fs => P (.ins k fs) μ) (fun _ => False)) XP) : EV T (tMake (T.cls k) (spOf T (ini k c)) dvs E ta) W ⟨ρ, m0⟩ P XP := ev_makeG (XC := fun _ _ => False) (fun y μ z => z.elim) hd h
end
end Pw

/-! Pw, part D: operators and built-ins by values. -/
namespace Pw
open PySem PySem.Spec PyProof.Rows L2
open Evl (Ex ex_l ex_t fresh_back)
/-! ### rules of the layer with wider bounds -/
def CFd (_ j : Int) : Prop := j ≠ 0 ∧ j.natAbs.log2 < 9000
section
variable {X : Cx}
theorem op_mulO : OpR X (binaryOp .Mult) (rI IntMulOk fun i j => .int (i * j)) := opI fun _ _ _ _ _ _ _ hc q => mul_int q hc
theorem op_fdivO : OpR X (binaryOp .FloorDiv) (rI CFd fun i j => .int (i.fdiv j)) := opI fun i j _ _ _ _ _ hc q => floordiv_int hc.1 q (.inl (PyProof.noPylong_of_log2 hc.2))
end
def Bt (n : Nat) (i : Int) : Prop := i.natAbs < 2 ^ n
theorem Bt.log {n : Nat} {i : Int} (h : Bt n i) (h0 : 0 < n) : i.natAbs.log2 < n := PySem.Flt.log2_lt_of h0 h
theorem Bt.mono {n m : Nat} {i : Int} (h : Bt n i) (k : n ≤ m) : Bt m i := Nat.lt_of_lt_of_le h (Nat.pow_le_pow_right (by decide) k)
theorem Bt.mul {n m : Nat} {i j : Int} (h : Bt n i) (k : Bt m j) : Bt (n + m) (i * j) := wide_lt h k
theorem Bt.add {n m : Nat} {i j : Int} (h : Bt n i) (k : Bt n j) (hm : n + 1 ≤ m) : Bt m (i + j) := by
  have h1 : i.natAbs < 2 ^ n := h
  have h2 : j.natAbs < 2 ^ n := k
  have h3 : (2 : Nat) ^ (n + 1) = 2 ^ n + 2 ^ n := by rw [Nat.pow_succ]; omega
  have h4 : (2 : Nat) ^ (n + 1) ≤ 2 ^ m := Nat.pow_le_pow_right (by decide) hm
  show (i + j).natAbs < 2 ^ m
  omega
theorem Bt.neg {n : Nat} {i : Int} (h : Bt n i) : Bt n (-i) := by
  show (-i).natAbs < 2 ^ n
  rw [Int.natAbs_neg]
  exact h
theorem Bt.sub {n m : Nat} {i j : Int} (h : Bt n i) (k : Bt n j) (hm : n + 1 ≤ m) : Bt m (i - j) := by
  have := h.add k.neg hm
  rwa [← Int.sub_eq_add_neg] at this
theorem Bt.ok {n m : Nat} {i j : Int} (h : Bt n i) (k : Bt m j) (hm : n + m ≤ 100000000) : IntMulOk i j := by
  have b : ∀ (x : Int) (p : Nat), Bt p x → Builtin.Int.intBits x ≤ p + 1 := fun x p hx => by
    unfold Builtin.Int.intBits
    split
    · omega
    · cases p with
      | zero =>
        have h0 : x.natAbs < 2 ^ 0 := hx
        have : x.natAbs = 0 := by simpa using h0
        rw [this]
        decide
      | succ p =>
        have := hx.log (by omega)
        omega
  have h1 := b i n h
  have h2 := b j m k
  have e : bitsLine = 134217728 := by decide
  unfold IntMulOk
  intro z
  rw [Bool.and_eq_true] at z
  have z2 := z.2
  unfold Builtin.Int.intTooBig at z2
  have z3 := of_decide_eq_true z2
  rw [e] at z3
  omega
section
variable {T : Cfg} {W : WX} {s : S} {ρ : List (Option D)} {m0 : Mu} {XP : XW} {ta tb te : TE} {P : D → Mu → Prop} {μ : Mu}
theorem ov_of {r : R2} {d e z : D} (h : ∀ x y Hb H Q, Ex Hb H → Rep T Hb d x → Rep T Hb e y → (∀ v, Rep T Hb z v → Q v H) → r x y H Q) (p : P z μ) : OV T r d e μ P := fun x y Hb H Q ex sm rx ry q =>
  h x y Hb H Q ex rx ry fun v rv => q z μ v Hb H (.refl ex sm) rv p
theorem ov_I0 {g : Int → Int → Int} {i j : Int} (p : P (.int (g i j)) μ) : OV T (rI0 fun i j => .int (g i j)) (.int i) (.int j) μ P := ov_of (fun x y Hb H Q ex rx ry q => by
  cases rx; cases ry
  exact ⟨i, j, rfl, rfl, q _ (.int _)⟩) p
theorem ov_I {C : Int → Int → Prop} {g : Int → Int → Int} {i j : Int} (hc : C i j) (p : P (.int (g i j)) μ) : OV T (rI C fun i j => .int (g i j)) (.int i) (.int j) μ P := ov_of (fun x y Hb H Q ex rx ry q => by
  cases rx; cases ry
  exact ⟨i, j, rfl, rfl, hc, q _ (.int _)⟩) p
theorem ov_B0 {g : Int → Int → Bool} {i j : Int} (p : P (.bl (g i j)) μ) : OV T (rI0 fun i j => .bl (g i j)) (.int i) (.int j) μ P := ov_of (fun x y Hb H Q ex rx ry q => by
  cases rx; cases ry
  exact ⟨i, j, rfl, rfl, q _ (.bl _)⟩) p
theorem ov_add {i j : Int} (p : P (.int (i + j)) μ) : OV T (rI0 fun i j => .int (i + j)) (.int i) (.int j) μ P := ov_I0 p
theorem ov_sub {i j : Int} (p : P (.int (i - j)) μ) : OV T (rI0 fun i j => .int (i - j)) (.int i) (.int j) μ P := ov_I0 p
theorem ov_mul {i j : Int} (hc : IntMulOk i j) (p : P (.int (i * j)) μ) : OV T (rI IntMulOk fun i j => .int (i * j)) (.int i) (.int j) μ P := ov_I hc p
theorem ov_fdiv {i j : Int} (hc : CFd i j) (p : P (.int (i.fdiv j)) μ) : OV T (rI CFd fun i j => .int (i.fdiv j)) (.int i) (.int j) μ P := ov_I hc p
theorem ov_mod {i j : Int} (hc : j ≠ 0) (p : P (.int (i.fmod j)) μ) : OV T (rI (fun _ j => j ≠ 0) fun i j => .int (i.fmod j)) (.int i) (.int j) μ P := ov_I hc p
theorem ov_pow {i j : Int} (hc : CPow i j) (p : P (.int (i ^ j.toNat)) μ) : OV T (rI CPow fun i j => .int (i ^ j.toNat)) (.int i) (.int j) μ P := ov_I hc p
theorem ov_lt {i j : Int} (p : P (.bl (decide (i < j))) μ) : OV T (rI0 fun i j => .bl (decide (i < j))) (.int i) (.int j) μ P := ov_B0 p
theorem ov_le {i j : Int} (p : P (.bl (decide (i ≤ j))) μ) : OV T (rI0 fun i j => .bl (decide (i ≤ j))) (.int i) (.int j) μ P := ov_B0 p
theorem ov_gt {i j : Int} (p : P (.bl (decide (j < i))) μ) : OV T (rI0 fun i j => .bl (decide (j < i))) (.int i) (.int j) μ P := ov_B0 (g := fun i j => decide (j < i)) p
theorem ov_ge {i j : Int} (p : P (.bl (decide (j ≤ i))) μ) : OV T (rI0 fun i j => .bl (decide (j ≤ i))) (.int i) (.int j) μ P := ov_B0 (g := fun i j => decide (j ≤ i)) p
theorem ov_eqI {i j : Int} (p : P (.bl (decide (i = j))) μ) : OV T rEq (.int i) (.int j) μ P := ov_of (fun x y Hb H Q ex rx ry q => by
  cases rx; cases ry
  refine ⟨rfl, q _ ?_⟩
  rw [show decide (V.int i = V.int j) = decide (i = j) by simp]
  exact .bl _) p
theorem ov_neI {i j : Int} (p : P (.bl (!decide (i = j))) μ) : OV T rNe (.int i) (.int j) μ P := ov_of (fun x y Hb H Q ex rx ry q => by
  cases rx; cases ry
  refine ⟨rfl, q _ ?_⟩
  rw [show decide (V.int i = V.int j) = decide (i = j) by simp]
  exact .bl _) p
theorem ov_eqS {i j : Str} (p : P (.bl (decide (i = j))) μ) : OV T rEq (.str i) (.str j) μ P := ov_of (fun x y Hb H Q ex rx ry q => by
  cases rx; cases ry
  refine ⟨rfl, q _ ?_⟩
  rw [show decide (V.str i = V.str j) = decide (i = j) by simp]
  exact .bl _) p
theorem ov_neS {i j : Str} (p : P (.bl (!decide (i = j))) μ) : OV T rNe (.str i) (.str j) μ P := ov_of (fun x y Hb H Q ex rx ry q => by
  cases rx; cases ry
  refine ⟨rfl, q _ ?_⟩
  rw [show decide (V.str i = V.str j) = decide (i = j) by simp]
  exact .bl _) p
theorem ov_eqB {i j : Bool} (p : P (.bl (decide (i = j))) μ) : OV T rEq (.bl i) (.bl j) μ P := ov_of (fun x y Hb H Q ex rx ry q => by
  cases rx; cases ry
  refine ⟨rfl, q _ ?_⟩
  rw [show decide (V.bl i = V.bl j) = decide (i = j) by simp]
  exact .bl _) p
theorem ov_neB {i j : Bool} (p : P (.bl (!decide (i = j))) μ) : OV T rNe (.bl i) (.bl j) μ P := ov_of (fun x y Hb H Q ex rx ry q => by
  cases rx; cases ry
  refine ⟨rfl, q _ ?_⟩
  rw [show decide (V.bl i = V.bl j) = decide (i = j) by simp]
  exact .bl _) p
/-! items -/
theorem at_rep {Hb : Hp} {ds : List D} {xs : List V} {i : Int} {d : D} (r : RepL T Hb ds xs) (h : atI ds i = some d) : ∃ v, atI xs i = some v ∧ Rep T Hb d v := by
  unfold atI at h ⊢
  rw [← r.1]
  cases e : ixN ds.length i with
  | none => rw [e] at h; cases h
  | some j =>
    rw [e] at h
    exact r.get h
theorem ov_ixL {d e : D} {ds : List D} {i : Int} (hd : Seqd d ds) (h : atI ds i = some e) (p : P e μ) : OV T (rIxL T.K) d (.int i) μ P := ov_of (fun x y Hb H Q ex rx ry q => by
  cases ry
  obtain ⟨a, xs, rfl, hx, r⟩ := hd.inv rx
  obtain ⟨v, hv, rv⟩ := at_rep r h
  exact ⟨a, xs, i, v, rfl, rfl, ex_l ex hx, hv, q v rv⟩) p
theorem ov_ixT {e : D} {ds : List D} {i : Int} (h : atI ds i = some e) (p : P e μ) : OV T (rIxT T.K) (.tup ds) (.int i) μ P := ov_of (fun x y Hb H Q ex rx ry q => by
  cases ry
  obtain ⟨a, xs, rfl, hx, r⟩ := rx.tup_inv
  obtain ⟨v, hv, rv⟩ := at_rep r h
  exact ⟨a, xs, i, v, rfl, rfl, ex_t ex hx, hv, q v rv⟩) p
theorem ov_ixM {e : D} {ds : List D} {i : Int} {a : Addr} (hm : μ a = some (.lst ds)) (h : atI ds i = some e) (p : P e μ) : OV T (rIxL T.K) (.ptr a) (.int i) μ P := fun x y Hb H Q ex sm rx ry q => by
  cases rx; cases ry
  obtain ⟨n, o, ho, r⟩ := sm a _ hm
  cases o with
  | lst xs =>
    obtain ⟨v, hv, rv⟩ := at_rep (show RepL T Hb ds xs from r) h
    exact ⟨a, xs, i, v, rfl, rfl, Evl.sq_of ho, hv, q _ _ _ _ _ (.refl ex sm) rv p⟩
  | _ => exact r.elim
theorem ov_cat {ds es : List D} (hl : ds.length + es.length ≤ 100000) (p : P (.lst (ds ++ es)) μ) : OV T rCat (.lst ds) (.lst es) μ P := fun x y Hb H Q ex sm rx ry q => by
  obtain ⟨a, xs, rfl, hx, r⟩ := rx.lst_inv
  obtain ⟨b, ys, rfl, hy, r'⟩ := ry.lst_inv
  refine ⟨a, b, xs, ys, rfl, rfl, ex _ _ hx, ex _ _ hy, by rw [← r.1, ← r'.1]; exact Evl.sz_of hl, fun p' hp => ?_⟩
  have g := Go.lay ex sm (o := .lst (xs ++ ys)) hp
  have rr := (r.app r').mono g.ex
  exact q _ _ _ _ _ g (.lst upd_same rr.1 rr.2) p
def cutD (ds : List D) (lo hi : Option Int) : List D := (ds.drop (HT.sIx ds.length 0 lo)).take (HT.sIx ds.length ds.length hi - HT.sIx ds.length 0 lo)
theorem ev_slL {tl th : TO} (h : EV T te W ⟨ρ, m0⟩ (fun d μ1 => OV' T tl W ⟨ρ, μ1⟩ (fun lo μ2 => OV' T th W ⟨ρ, μ2⟩ (fun hi μ3 => ∃ ds, Seqd d ds ∧ P (.lst (cutD ds lo hi)) μ3) XP) XP) XP) : EV T (tSl (rSlL T.K) te tl th) W ⟨ρ, m0⟩ P XP := fun σ Hb H Q S q x =>
  h σ Hb H _ S (fun d μ1 v Hb1 H1 g1 r1 p1 => p1 σ Hb1 H1 _ (S.go g1) (fun lo μ2 Hb2 H2 g2 p2 => p2 σ Hb2 H2 _ (S.go (g1.trans g2)) (fun hi μ3 Hb3 H3 g3 p3 => by
    obtain ⟨ds, hd, p⟩ := p3
    obtain ⟨a, xs, rfl, hx, r⟩ := hd.inv ((r1.mono g2.ex).mono g3.ex)
    refine ⟨a, xs, rfl, ex_l g3.sub hx, fun p' hp => ?_⟩
    have g := Go.lay g3.sub g3.mu (o := .lst (cutV xs lo hi)) hp
    have r0 : RepL T Hb3 (cutD ds lo hi) (cutV xs lo hi) := by
      unfold cutD cutV
      rw [← r.1]
      exact (r.drop _).take _
    have rr := r0.mono g.ex
    exact q _ _ _ _ _ (((g1.trans g2).trans g3).trans g) (.lst upd_same rr.1 rr.2) p)
    (fun y μ' cls dd Hb' H' g r p => x y μ' cls dd Hb' H' ((g1.trans g2).trans g) r p)) (fun y μ' cls dd Hb' H' g r p => x y μ' cls dd Hb' H' (g1.trans g) r p)) x
/-! ### built-ins -/
theorem cv_of {r : List V → Hp → VK → Prop} {ds : List D} {z : D} (h : ∀ xs Hb H Q, Ex Hb H → RepL T Hb ds xs → (∀ v, Rep T Hb z v → Q v H) → r xs H Q) (p : P z μ) : CV T r ds μ P := fun xs Hb H Q ex sm rx q =>
  h xs Hb H Q ex rx fun v rv => q z μ v Hb H (.refl ex sm) rv p
theorem one_inv {Hb : Hp} {d : D} {xs : List V} (r : RepL T Hb [d] xs) : ∃ v, xs = [v] ∧ Rep T Hb d v := by
  obtain ⟨v, ys, rfl, r1, r⟩ := r.cons_inv
  obtain rfl := r.nil_inv
  exact ⟨v, rfl, r1⟩
theorem two_inv {Hb : Hp} {d e : D} {xs : List V} (r : RepL T Hb [d, e] xs) : ∃ v w, xs = [v, w] ∧ Rep T Hb d v ∧ Rep T Hb e w := by
  obtain ⟨v, ys, rfl, r1, r⟩ := r.cons_inv
  obtain ⟨w, rfl, r2⟩ := one_inv r
  exact ⟨v, w, rfl, r1, r2⟩
abbrev rLen (K : PySem.W.Frag) : List V → Hp → VK → Prop := fun xs H Q => ∃ x n, xs = [x] ∧ LenV K x H n ∧ Q (.int n) H
theorem cv_len {d : D} {ds : List D} (hd : Seqd d ds) (p : P (.int (ds.length : Int)) μ) : CV T (rLen T.K) [d] μ P := cv_of (fun xs Hb H Q ex r q => by
  obtain ⟨v, rfl, r1⟩ := one_inv r
  obtain ⟨a, xs, rfl, hx, r2⟩ := hd.inv r1
  exact ⟨_, ds.length, rfl, Or.inl ⟨xs, ex_l ex hx, r2.1⟩, q _ (.int _)⟩) p
theorem cv_lenT {ds : List D} (p : P (.int (ds.length : Int)) μ) : CV T (rLen T.K) [.tup ds] μ P := cv_of (fun xs Hb H Q ex r q => by
  obtain ⟨v, rfl, r1⟩ := one_inv r
  obtain ⟨a, xs, rfl, hx, r2⟩ := r1.tup_inv
  exact ⟨_, ds.length, rfl, Or.inr ⟨xs, ex_t ex hx, r2.1⟩, q _ (.int _)⟩) p
theorem cv_lenS {x : Str} (h : x.length ≤ 100000) (p : P (.int (x.length : Int)) μ) : CV T (rLen T.K) [.str x] μ P := cv_of (fun xs Hb H Q ex r q => by
  obtain ⟨v, rfl, r1⟩ := one_inv r
  cases r1
  exact ⟨_, x.length, rfl, ⟨Evl.sz_of h, rfl⟩, q _ (.int _)⟩) p
theorem cv_lenM {ds : List D} {a : Addr} (hm : μ a = some (.lst ds)) (p : P (.int (ds.length : Int)) μ) : CV T (rLen T.K) [.ptr a] μ P := fun xs Hb H Q ex sm r q => by
  obtain ⟨v, rfl, r1⟩ := one_inv r
  cases r1
  obtain ⟨n, o, ho, r⟩ := sm a _ hm
  cases o with
  | lst xs => exact ⟨_, ds.length, rfl, Or.inl ⟨xs, Evl.sq_of ho, (show RepL T Hb ds xs from r).1⟩, q _ _ _ _ _ (.refl ex sm) (.int _) p⟩
  | _ => exact r.elim
abbrev rAbs : List V → Hp → VK → Prop := fun xs H Q => ∃ i, xs = [.int i] ∧ Q (.int (if i < 0 then -i else i)) H
theorem cv_abs {i : Int} (p : P (.int (i.natAbs : Int)) μ) : CV T rAbs [.int i] μ P := cv_of (fun xs Hb H Q ex r q => by
  obtain ⟨v, rfl, r1⟩ := one_inv r
  cases r1
  refine ⟨i, rfl, q _ ?_⟩
  rw [show (if i < 0 then -i else i) = (i.natAbs : Int) by split <;> omega]
  exact .int _) p
abbrev rInt1 : List V → Hp → VK → Prop := fun xs H Q => (∃ i, xs = [.int i] ∧ Q (.int i) H) ∨ ∃ k, xs = [.bl k] ∧ Q (.int (if k then 1 else 0)) H
theorem cv_intB {b : Bool} (p : P (.int (if b then 1 else 0)) μ) : CV T rInt1 [.bl b] μ P := cv_of (fun xs Hb H Q ex r q => by
  obtain ⟨v, rfl, r1⟩ := one_inv r
  cases r1
  exact .inr ⟨b, rfl, q _ (.int _)⟩) p
abbrev rStrI : List V → Hp → VK → Prop := fun xs H Q => ∃ i, xs = [.int i] ∧ i.natAbs.log2 < 1920 ∧ Q (.str (toString i)) H
theorem cv_strI {i : Int} (h : i.natAbs.log2 < 1920) (p : P (.str (toString i)) μ) : CV T rStrI [.int i] μ P := cv_of (fun xs Hb H Q ex r q => by
  obtain ⟨v, rfl, r1⟩ := one_inv r
  cases r1
  exact ⟨i, rfl, h, q _ (.str _)⟩) p
theorem cv_any {d : D} {bs : List Bool} (hd : Seqd d (bs.map D.bl)) (p : P (.bl (bs.any id)) μ) : CV T (rAny T.K) [d] μ P := cv_of (fun xs Hb H Q ex r q => by
  obtain ⟨v, rfl, r1⟩ := one_inv r
  obtain ⟨a, xs, rfl, hx, r2⟩ := hd.inv r1
  obtain rfl := r2.bls
  exact ⟨a, bs, rfl, ex_l ex hx, q _ (.bl _)⟩) p
theorem cv_all {d : D} {bs : List Bool} (hd : Seqd d (bs.map D.bl)) (p : P (.bl (bs.all id)) μ) : CV T (rAll T.K) [d] μ P := cv_of (fun xs Hb H Q ex r q => by
  obtain ⟨v, rfl, r1⟩ := one_inv r
  obtain ⟨a, xs, rfl, hx, r2⟩ := hd.inv r1
  obtain rfl := r2.bls
  exact ⟨a, bs, rfl, ex_l ex hx, q _ (.bl _)⟩) p
theorem cv_sum {d : D} {ns : List Int} (hd : Seqd d (ns.map D.int)) (p : P (.int ns.sum) μ) : CV T (rSum T.K) [d] μ P := cv_of (fun xs Hb H Q ex r q => by
  obtain ⟨v, rfl, r1⟩ := one_inv r
  obtain ⟨a, xs, rfl, hx, r2⟩ := hd.inv r1
  obtain rfl := r2.ints
  exact ⟨a, ns, rfl, ex_l ex hx, q _ (.int _)⟩) p
/-! isinstance -/
/-- what isinstance asks of an own class -/
structure InsCls (K : PySem.W.Frag) (C : Addr) : Prop where
  cl : Cls K C
  ha : PySem.W.findIn K (.ref C) "__class__" = some (some (.builtin "object.__class__"))
  hn : PySem.W.specialIn K (.builtin "object.__class__") "__get__" = some (some (.builtin "getset_descriptor.__get__"))
  htk : PySem.W.takesIn K (.builtin "object.__class__") = some true
  hm : PySem.W.mroIn K C (.type "object") = some true
/-- a datum's type -/
inductive TyD (T : Cfg) : D → Value → Prop where
  | non : TyD T .non (.type "NoneType")
  | bl (b : Bool) : TyD T (.bl b) (.type "bool")
  | int (i : Int) : TyD T (.int i) (.type "int")
  | str (x : Str) : TyD T (.str x) (.type "str")
  | lst (ds : List D) : TyD T (.lst ds) (.type "list")
  | tup (ds : List D) : TyD T (.tup ds) (.type "tuple")
  | dic (kvs : List (Key × D)) : TyD T (.dic kvs) (.type "dict")
  | ins {c : Nat} {gs : List (Str × D)} (h : InsCls T.K (T.cls c)) : TyD T (.ins c gs) (.ref (T.cls c))
theorem TyD.tyx {d : D} {t : Value} {v : V} {Hb H : Hp} (h : TyD T d t) (r : Rep T Hb d v) (ex : Ex Hb H) : TyX T.K H v t := by
  cases h with
  | non => cases r; exact .base .non
  | bl b => cases r; exact .base (.bl b)
  | int i => cases r; exact .base (.int i)
  | str x => cases r; exact .base (.str x)
  | lst ds =>
    obtain ⟨a, xs, rfl, h, _⟩ := r.lst_inv
    exact .base (.lst (ex _ _ h))
  | tup ds =>
    obtain ⟨a, xs, rfl, h, _⟩ := r.tup_inv
    rcases h with (h | ⟨o, h⟩) | ⟨o, its, n, h, c, _⟩
    · exact .base (.tup (ex _ _ h))
    · exact .fTuple (ex _ _ h)
    · exact .kTuple h c
  | dic kvs =>
    cases r with
    | dic h l r => exact .base (.dK (ex _ _ h))
  | ins hc =>
    obtain ⟨a, dx, fs, rfl, h, _⟩ := r.ins_inv
    exact .base (.ins (ex _ _ h) hc.cl hc.ha hc.hn hc.htk hc.hm)
theorem cv_isi {d : D} {t : Value} {C : Addr} {b : Bool} (ht : TyD T d t) (hk : PySem.W.kitOne T.K t (.ref C) = some b) (p : P (.bl b) μ) : CV T (rIsi T.K) [d, .ptr C] μ P := cv_of (fun xs Hb H Q ex r q => by
  obtain ⟨v, w, rfl, r1, r2⟩ := two_inv r
  cases r2
  exact ⟨v, _, t, _, b, rfl, .own C, ht.tyx r1 ex, hk, q _ (.bl _)⟩) p
theorem cv_isiT {d : D} {t : Value} {n : String} {b : Bool} (ht : TyD T d t) (hk : PySem.W.kitOne T.K t (.type n) = some b) (p : P (.bl b) μ) : CV T (rIsi T.K) [d, .ty n] μ P := cv_of (fun xs Hb H Q ex r q => by
  obtain ⟨v, w, rfl, r1, r2⟩ := two_inv r
  cases r2
  exact ⟨v, _, t, _, b, rfl, .ty n, ht.tyx r1 ex, hk, q _ (.bl _)⟩) p
/-! ### wells -/
theorem well_open {a : Addr} {b : Nat} {Hb H : Hp} (sm : SimMu T μ Hb H) (h : μ a = some (.well b)) : ∃ w0 w1 w2 : Int, 0 ≤ w0 ∧ 0 ≤ w1 ∧ w1 < 2147483647 ∧ 0 ≤ w2 ∧ w2 + (b : Int) ≤ 1073741824 ∧ SimMu T (put μ a (.lst [.int w0, .int w1, .int w2])) Hb H := by
  obtain ⟨n, o, ho, r⟩ := sm a _ h
  cases o with
  | lst xs =>
    obtain ⟨w0, w1, w2, rfl, h0, h1, h2, h3, h4⟩ := r
    refine ⟨w0, w1, w2, h0, h1, h2, h3, h4, fun c m e => ?_⟩
    by_cases ec : c = a
    · subst ec
      rw [put_same] at e
      cases e
      exact ⟨n, _, ho, .cons (.int w0) (.cons (.int w1) (.cons (.int w2) .nil))⟩
    · rw [put_ne ec] at e; exact sm c m e
  | _ => exact r.elim
theorem well_close {a : Addr} {b : Nat} {w0 w1 w2 : Int} {Hb H : Hp} (sm : SimMu T μ Hb H) (h : μ a = some (.lst [.int w0, .int w1, .int w2])) (h0 : 0 ≤ w0) (h1 : 0 ≤ w1) (h2 : w1 < 2147483647) (h3 : 0 ≤ w2) (h4 : w2 + (b : Int) ≤ 1073741824) : SimMu T (put μ a (.well b)) Hb H := by
  intro c m e
  by_cases ec : c = a
  · subst ec
    rw [put_same] at e
    cases e
    obtain ⟨n, o, ho, r⟩ := sm c _ h
    cases o with
    | lst xs =>
      have r : RepL T Hb [.int w0, .int w1, .int w2] xs := r
      obtain ⟨v, ys, rfl, r1, rr⟩ := r.cons_inv
      obtain ⟨v', w', rfl, r2, r3⟩ := two_inv rr
      cases r1; cases r2; cases r3
      exact ⟨n, _, ho, w0, w1, w2, rfl, h0, h1, h2, h3, h4⟩
    | _ => exact r.elim
  · rw [put_ne ec] at e; exact sm c m e
/-- a step to the same place, the store told otherwise -/
theorem Go.told {μ1 μ2 : Mu} {Hb H Hb' H' : Hp} (g : Go T μ Hb H μ1 Hb' H') (hn : ∀ a m, μ2 a = some m → μ1 a ≠ none) (sm : SimMu T μ2 Hb' H') : Go T μ Hb H μ2 Hb' H' :=
  ⟨g.ex, g.keep, fun a m e => by
    cases q : μ1 a with
    | none => exact absurd q (hn a m e)
    | some z => exact g.new a z q, g.alive, g.sub, sm⟩
theorem sv_well {ts : TS} {K : Out → Prop} {a : Addr} {b : Nat} (h : m0 a = some (.well b)) (k : ∀ w0 w1 w2 : Int, 0 ≤ w0 → 0 ≤ w1 → w1 < 2147483647 → 0 ≤ w2 → w2 + (b : Int) ≤ 1073741824 → SV T ts W ⟨ρ, put m0 a (.lst [.int w0, .int w1, .int w2])⟩ K) : SV T ts W ⟨ρ, m0⟩ K := fun σ Hb H Dn S c => by
  obtain ⟨w0, w1, w2, h0, h1, h2, h3, h4, sm⟩ := well_open S.mu h
  have g : Go T m0 Hb H (put m0 a (.lst [.int w0, .int w1, .int w2])) Hb H := S.refl.told (fun c m e => by
    show m0 c ≠ none
    by_cases ec : c = a
    · rw [ec, h]; simp
    · rw [put_ne ec] at e; rw [e]; simp) sm
  exact k w0 w1 w2 h0 h1 h2 h3 h4 σ Hb H Dn (S.go g) (c.go g)
/-- .. closed at the end of an expression -/
theorem ev_close {a : Addr} (h : EV T te W ⟨ρ, m0⟩ (fun d μ => ∃ b w0 w1 w2, μ a = some (.lst [.int w0, .int w1, .int w2]) ∧ 0 ≤ w0 ∧ 0 ≤ w1 ∧ w1 < 2147483647 ∧ 0 ≤ w2 ∧ w2 + ((b : Nat) : Int) ≤ 1073741824 ∧ P d (put μ a (.well b))) XP) : EV T te W ⟨ρ, m0⟩ P XP := fun σ Hb H Q S q x =>
  h σ Hb H Q S (fun d μ v Hb' H' g r p => by
    obtain ⟨b, w0, w1, w2, hm, h0, h1, h2, h3, h4, p⟩ := p
    exact q _ _ _ _ _ (g.told (fun c m e => by
      by_cases ec : c = a
      · rw [ec, hm]; simp
      · rw [put_ne ec] at e; rw [e]; simp) (well_close g.mu hm h0 h1 h2 h3 h4)) r p) x
/-- a new list of three numbers is a well -/
theorem ev_newWell {ta : TA} (h : EA T ta W ⟨ρ, m0⟩ (fun ds μ => ∃ (b : Nat) (w0 w1 w2 : Int), ds = [.int w0, .int w1, .int w2] ∧ 0 ≤ w0 ∧ 0 ≤ w1 ∧ w1 < 2147483647 ∧ 0 ≤ w2 ∧ w2 + (b : Int) ≤ 1073741824 ∧ ∀ a, μ a = none → P (.ptr a) (put μ a (.well b))) XP) : EV T (tLst ta) W ⟨ρ, m0⟩ P XP := fun σ Hb H Q S q x =>
  h σ Hb H _ S (fun ds μ1 vs Hb1 H1 g1 r1 p1 => by
    obtain ⟨b, w0, w1, w2, rfl, h0, h1, h2, h3, h4, p1⟩ := p1
    refine ⟨by rw [← r1.1]; exact Evl.sz_of (by simp), fun p hp => ?_⟩
    have g := Go.own g1.sub g1.mu (o := .lst vs) (z := .lst [.int w0, .int w1, .int w2]) hp r1
    have g2 := (g1.trans g).told (μ2 := put μ1 p (.well b)) (fun c m e => by
      by_cases ec : c = p
      · rw [ec, put_same]; simp
      · rw [put_ne ec] at e ⊢; rw [e]; simp) (by
        have := well_close g.mu put_same h0 h1 h2 h3 h4
        rwa [put_put] at this)
    refine q _ _ _ _ _ g2 (.ptr p) (p1 p ?_)
    cases e : μ1 p with
    | none => rfl
    | some m =>
      obtain ⟨_, o, ho, _⟩ := g1.mu p m e
      rw [hp] at ho; cases ho) x
end
end Pw

/-! Pw, part E: == and != by an own __eq__, str by an own __str__. -/
namespace Pw
open PySem PySem.Spec PyProof.Rows L2
open Evl (Ex ex_l ex_t fresh_back)
section
variable {X : Cx} {n : Nat} {CX : CXT} {C f : Addr} {fd : FuncData} {ps : List Str} {sp : Sp} {E : XK} {pins : List (Addr × Obj)} {s : Shared} {σ : L2.St} {H : Hp}
/-- a def called from somewhere below the running body -/
theorem call_under (F : FnOk X.prog X.w X.K X.mg X.base CX n f fd ps sp) (hb : Binds X.K fd ps []) (hx : Passes CX X E) {A : Around} (sb : Sub X n A) (I : Inv X pins σ H s) {vs : List V} {us : List Value} {Q : VK} (r : Vals vs us) (hsp : sp vs H Q E) :
    wpAny (model X.prog X.w) A (call (.ref f) us) (EP X pins σ Q) X.xe s := by
  have e0 : Env0 X.prog X.w X.K X.mg X.base A X.stack s H := by
    have e := I.env0
    exact ⟨by rw [sb.fr]; exact e.frames, e.mod, e.bs, e.bsz, e.funs, e.frf, e.hok, e.bare⟩
  have hl := F.len _ _ _ _ hsp
  refine wpAny_call (codeAny_mono (F.run A X.stack s H ⟨us, []⟩ us vs _ E sb.room e0 (by
    have := hb s us I.kIn (by rw [List.append_nil, ← r.length]; exact hl)
    simpa using this) r hsp) fun r s' hq => ?_)
  cases r with
  | error e => exact hx pins σ H s e s' I hq
  | ok fl =>
    cases fl with
    | ret w => exact I.after hq
    | next => exact False.elim hq
    | brk => exact False.elim hq
    | cont => exact False.elim hq
def rOwnEq (K : PySem.W.Frag) (C : Addr) (sp : Sp) (E : XK) : R2 := fun x y H Q => ∃ a dx fs t, x = .ref a ∧ H a = some (.ins C dx fs) ∧ TyX K H y t ∧ PySem.W.notFirst K C t = true ∧ sp [x, y] H (fun v H' => (∃ b, v = .bl b) ∧ Q v H') E
theorem op_ownEq (F : FnOk X.prog X.w X.K X.mg X.base CX n f fd ps sp) (hs : PySem.W.findIn X.K (.ref C) "__eq__" = some (some (.ref f))) (hf : PySem.W.isFn X.K (.ref f) = true) (hb : Binds X.K fd ps []) (hx : Passes CX X E) (hr : Room n X.A) :
    OpR X (compareOp .Eq) (rOwnEq X.K C sp E) := by
  intro pins s σ H x y v u Q I rx ry h
  obtain ⟨a, dx, fs, t, rfl, ha, ty, nf, hsp⟩ := h
  cases (show v = Value.ref a from rx)
  obtain ⟨mA, J, _⟩ := ins_get I.hok ha
  obtain ⟨od, J, _⟩ := J.look
  obtain ⟨m, hF⟩ := I.fr
  obtain ⟨P, Z, p, _⟩ := kit_of I ry ty
  show wpAny (model X.prog X.w) X.A (richCompare .Eq (.ref a) u) (EP X pins σ Q) X.xe s
  refine PySem.W.cmp_K (op := .Eq) (tb := t) hr.units0 hF I.ok.mod.kin J (Z.ty _ _ I.kIn p) nf hs hf ?_
  refine wpAny_mono (call_under F hb hx (⟨hr, rfl⟩ : Sub X n X.A) I (vs := [.ref a, y]) (us := [.ref a, u]) (.cons rfl (.cons ry .nil)) hsp) (fun z s' hz => ?_) fun _ _ e => e
  obtain ⟨v, H', I', rv, ⟨b, rfl⟩, q⟩ := hz
  cases (show z = Value.bool b from rv)
  exact ⟨.bl b, H', I', rfl, q⟩
def rOwnNe (K : PySem.W.Frag) (C : Addr) (sp : Sp) (E : XK) : R2 := fun x y H Q => ∃ a dx fs t, x = .ref a ∧ H a = some (.ins C dx fs) ∧ TyX K H y t ∧ PySem.W.notFirst K C t = true ∧ sp [x, y] H (fun v H' => ∃ b, v = .bl b ∧ Q (.bl (!b)) H') E
theorem ne_K {prog : Program} {w : World} {A : Around} {Ex : Value → Shared → Prop} {K : PySem.W.Frag} {x C L f : Addr} {h₀ : Heap} {m : Str → Option Value} {ox : Obj} {od : Option Obj} {b tb : Value} {Q : Value → Shared → Prop} (hu : A.units + 1 < cLine) (Fh : Fr h₀ L s.heap m) (X₀ : K.In h₀) (I : PySem.W.InstAt s.heap x ox C od)
    (hb : PySem.W.Looks (model prog w) s.heap (typeOf b) tb) (hn : PySem.W.notFirst K C tb = true) (hm : PySem.W.mroIn K C (.type "object") = some true)
    (hne : PySem.W.findIn K (.ref C) "__ne__" = some (some (.builtin "object.__ne__"))) (hs : PySem.W.findIn K (.ref C) "__eq__" = some (some (.ref f))) (hf : PySem.W.isFn K (.ref f) = true)
    (h : wpAny (model prog w) A.in1 (call (.ref f) [.ref x, b]) (fun v s' => ∃ k, v = .bool k ∧ Q (.bool (!k)) s') Ex s) : wpAny (model prog w) A (richCompare .NotEq (.ref x) b) Q Ex s := by
  have XX := X₀.keeps Fh.keep
  have body : wpAny (model prog w) A (call (.builtin "object.__ne__") [.ref x, b]) (fun v s' => ∃ k, v = .bool k ∧ Q (.bool k) s') Ex s := by
    refine wpAny_call (codeAny_call_builtin F.cmp_object.ne.plain F.cmpEntry_ne (PySem.W.check_slot (i := "object.__ne__") (owner := "object") (n := "__ne__") (by decide +kernel) (by decide +kernel) (I.type.andThen (PySem.W.looks_mroIn XX hm)) (F.cmpArgs_ne _ _) ?_))
    obtain ⟨hp, g, d, t, os⟩ := s
    unfold Builtin.«object.__ne__»
    repeat (first
      | with_reducible refine wpAny_cRoomFor hu ?_
      | (refine wpAny_bind (m := callSpecialIfBound? (.ref x) (Str.ofString "__eq__") [b])
          (PySem.W.ifBound_K XX I hs hf (wpAny_mono h (fun r s' hr => by
            obtain ⟨k, rfl, hq⟩ := hr
            repeat (first | exact ⟨_, rfl, hq⟩ | exact wpAny_pure ⟨_, rfl, hq⟩ | exact wpAny_truthy_bool ⟨_, rfl, hq⟩ | (refine wpAny_bind (m := truthy (.bool _)) (wpAny_truthy_bool ?_)) | wp_step)) fun _ _ e => e)))
      | wp_step)
  have one : wpAny (model prog w) A (tryCompare (.ref x) "__ne__" b) (fun r s' => ∃ v, r = some v ∧ Q v s') Ex s := by
    unfold tryCompare
    simp only [callSpecialIfBound?, bindSpecialIfBound?]
    refine wpAny_bind ?_
    refine wpAny_holding (wpAny_bind (wpAny_bind (wpAny_bind (I.type.here ((PySem.W.looks_findIn XX hne).here ?_)))))
    simp only [F.cmp_object.ne.bind]
    refine wpAny_bind (wpAny_askSetting (wpAny_ite ?_))
    have fin : wpAny (model prog w) A (call (.builtin "object.__ne__") ([.ref x] ++ [b]) >>= fun v => pure (some v)) (fun a s' => wpAny (model prog w) A (match a with
        | some .notImplemented | none => pure none
        | some v => pure (some v)) (fun r s' => ∃ v, r = some v ∧ Q v s') Ex s') Ex s := wpAny_bind (wpAny_mono body (fun v s' hv => by
      obtain ⟨k, rfl, hq⟩ := hv
      exact wpAny_pure (wpAny_pure ⟨_, rfl, hq⟩)) fun _ _ e => e)
    split
    · exact wpAny_bind (wpAny_pure (wpAny_pure fin))
    · exact wpAny_tryCatch (wpAny_bind (wpAny_pure (wpAny_pure fin)))
  unfold richCompare
  simp only [oneThing_ref]
  refine wpAny_holding (wpAny_bind (wpAny_cRoomFor (Nat.lt_of_succ_lt hu) ?_))
  refine wpAny_bind (I.type.here (wpAny_bind (hb.here ?_)))
  split
  · rename_i q
    have e : PySem.W.subIn K tb (.ref C) = some false := by
      rcases Bool.or_eq_true_iff.mp hn with e | e
      · rw [beq_iff_eq.mp e] at q; simp at q
      · exact beq_iff_eq.mp e
    refine wpAny_bind ((PySem.W.looks_subIn XX e).here ?_)
    simp only [Bool.false_eq_true, if_false]
    refine wpAny_bind (wpAny_mono one (fun r s' z => ?_) fun _ _ e => e)
    obtain ⟨v, rfl, hq⟩ := z
    exact wpAny_pure hq
  · refine wpAny_bind (wpAny_pure ?_)
    simp only [Bool.false_eq_true, if_false]
    refine wpAny_bind (wpAny_mono one (fun r s' z => ?_) fun _ _ e => e)
    obtain ⟨v, rfl, hq⟩ := z
    exact wpAny_pure hq
theorem op_ownNe (F : FnOk X.prog X.w X.K X.mg X.base CX n f fd ps sp) (hm : PySem.W.mroIn X.K C (.type "object") = some true) (hne : PySem.W.findIn X.K (.ref C) "__ne__" = some (some (.builtin "object.__ne__"))) (hs : PySem.W.findIn X.K (.ref C) "__eq__" = some (some (.ref f))) (hf : PySem.W.isFn X.K (.ref f) = true) (hb : Binds X.K fd ps []) (hx : Passes CX X E) (hr : Room (n + 1) X.A) :
    OpR X (compareOp .NotEq) (rOwnNe X.K C sp E) := by
  intro pins s σ H x y v u Q I rx ry h
  obtain ⟨a, dx, fs, t, rfl, ha, ty, nf, hsp⟩ := h
  cases (show v = Value.ref a from rx)
  obtain ⟨mA, J, _⟩ := ins_get I.hok ha
  obtain ⟨od, J, _⟩ := J.look
  obtain ⟨m, hF⟩ := I.fr
  obtain ⟨P, Z, p, _⟩ := kit_of I ry ty
  show wpAny (model X.prog X.w) X.A (richCompare .NotEq (.ref a) u) (EP X pins σ Q) X.xe s
  refine ne_K (tb := t) (hu_of hr) hF I.ok.mod.kin J (Z.ty _ _ I.kIn p) nf hm hne hs hf ?_
  refine wpAny_mono (call_under F hb hx (⟨hr.in1, rfl⟩ : L2.Sub X n X.A.in1) I (vs := [.ref a, y]) (us := [.ref a, u]) (.cons rfl (.cons ry .nil)) hsp) (fun z s' hz => ?_) fun _ _ e => e
  obtain ⟨v, H', I', rv, b, rfl, q⟩ := hz
  cases (show z = Value.bool b from rv)
  exact ⟨b, rfl, .bl (!b), H', I', rfl, q⟩
def rStrOwn (C : Addr) (sp : Sp) (E : XK) : List V → Hp → VK → Prop := fun xs H Q => ∃ a dx fs, xs = [.ref a] ∧ H a = some (.ins C dx fs) ∧ sp [.ref a] H (fun v H' => (∃ z, v = .str z) ∧ Q v H') E
theorem call_strOwn (F : FnOk X.prog X.w X.K X.mg X.base CX n f fd ps sp) (hs : PySem.W.findIn X.K (.ref C) "__str__" = some (some (.ref f))) (hf : PySem.W.isFn X.K (.ref f) = true) (hb : Binds X.K fd ps []) (hx : Passes CX X E) (hr : Room (n + 2) X.A) :
    CallR X (.type "str") (rStrOwn C sp E) := by
  intro pins s σ H xs us Q I r h
  obtain ⟨a, dx, fs, rfl, ha, hsp⟩ := h
  obtain ⟨u, rfl, r1⟩ := vals1 r
  cases (show u = Value.ref a from r1)
  obtain ⟨mA, J, _⟩ := ins_get I.hok ha
  obtain ⟨od, J, _⟩ := J.look
  have hr1 : Room n X.A.in1.in1 := hr.in1.in1
  refine PySem.W.kso_call hr1.units0 I.kIn J hs hf ?_
  refine wpAny_mono (call_under F hb hx (⟨hr1, rfl⟩ : L2.Sub X n X.A.in1.in1) I (vs := [.ref a]) (us := [.ref a]) (.cons rfl .nil) hsp) (fun z s' hz => ?_) fun _ _ e => e
  obtain ⟨v, H', I', rv, ⟨b, rfl⟩, q⟩ := hz
  obtain ⟨t, rfl⟩ := (show ∃ t, z = Value.str b t from rv)
  exact ⟨.str b, H', I', ⟨t, rfl⟩, q⟩
end
section
variable {T : Cfg} {P : D → Mu → Prop} {μ : Mu}
/-- an own __eq__ by its contract -/
theorem ov_ownEq {c : List D → (D → Prop) → (XD → Prop) → Prop} {k : Nat} {gs : List (Str × D)} {e : D} {t : Value} {E : XK} (ht : TyD T e t) (hn : PySem.W.notFirst T.K (T.cls k) t = true) (h : c [.ins k gs, e] (fun d => (∃ b, d = .bl b) ∧ P d μ) (fun _ => False)) :
    OV T (rOwnEq T.K (T.cls k) (spOf T (pu c)) E) (.ins k gs) e μ P := fun x y Hb H Q ex sm rx ry q => by
  obtain ⟨a, dx, fs, rfl, ha, r⟩ := id rx.ins_inv
  refine ⟨a, dx, fs, t, rfl, ex _ _ ha, ht.tyx ry ex, hn, [.ins k gs, e], mu0, Hb, fun d μ' => μ' = mu0 ∧ (∃ b, d = .bl b) ∧ P d μ, fun _ _ => False, ex, SimMu.nil, .cons rx (.cons ry .nil), ⟨rfl, _, _, h, fun d k => ⟨rfl, k⟩, fun _ k => k⟩, fun d μ' v Hb' H' g r k => ?_, fun _ _ _ _ _ _ _ _ k => k.elim⟩
  obtain ⟨rfl, ⟨b, rfl⟩, k⟩ := k
  cases r
  have g' := g.widen sub_nil sm
  rw [mrg_nil] at g'
  exact ⟨⟨b, rfl⟩, q _ _ _ _ _ g' (.bl b) k⟩
theorem ov_ownNe {c : List D → (D → Prop) → (XD → Prop) → Prop} {k : Nat} {gs : List (Str × D)} {e : D} {t : Value} {E : XK} (ht : TyD T e t) (hn : PySem.W.notFirst T.K (T.cls k) t = true) (h : c [.ins k gs, e] (fun d => ∃ b, d = .bl b ∧ P (.bl (!b)) μ) (fun _ => False)) :
    OV T (rOwnNe T.K (T.cls k) (spOf T (pu c)) E) (.ins k gs) e μ P := fun x y Hb H Q ex sm rx ry q => by
  obtain ⟨a, dx, fs, rfl, ha, r⟩ := id rx.ins_inv
  refine ⟨a, dx, fs, t, rfl, ex _ _ ha, ht.tyx ry ex, hn, [.ins k gs, e], mu0, Hb, fun d μ' => μ' = mu0 ∧ ∃ b, d = .bl b ∧ P (.bl (!b)) μ, fun _ _ => False, ex, SimMu.nil, .cons rx (.cons ry .nil), ⟨rfl, _, _, h, fun d k => ⟨rfl, k⟩, fun _ k => k⟩, fun d μ' v Hb' H' g r k => ?_, fun _ _ _ _ _ _ _ _ k => k.elim⟩
  obtain ⟨rfl, b, rfl, k⟩ := k
  cases r
  have g' := g.widen sub_nil sm
  rw [mrg_nil] at g'
  exact ⟨b, rfl, q _ _ _ _ _ g' (.bl _) k⟩
theorem cv_strOwn {c : List D → (D → Prop) → (XD → Prop) → Prop} {k : Nat} {gs : List (Str × D)} {E : XK} (h : c [.ins k gs] (fun d => (∃ z, d = .str z) ∧ P d μ) (fun _ => False)) :
    CV T (rStrOwn (T.cls k) (spOf T (pu c)) E) [.ins k gs] μ P := fun xs Hb H Q ex sm r q => by
  obtain ⟨v, rfl, r1⟩ := one_inv r
  obtain ⟨a, dx, fs, rfl, ha, r⟩ := id r1.ins_inv
  refine ⟨a, dx, fs, rfl, ex _ _ ha, [.ins k gs], mu0, Hb, fun d μ' => μ' = mu0 ∧ (∃ z, d = .str z) ∧ P d μ, fun _ _ => False, ex, SimMu.nil, .cons r1 .nil, ⟨rfl, _, _, h, fun d k => ⟨rfl, k⟩, fun _ k => k⟩, fun d μ' v Hb' H' g r k => ?_, fun _ _ _ _ _ _ _ _ k => k.elim⟩
  obtain ⟨rfl, ⟨b, rfl⟩, k⟩ := k
  cases r
  have g' := g.widen sub_nil sm
  rw [mrg_nil] at g'
  exact ⟨⟨b, rfl⟩, q _ _ _ _ _ g' (.str b) k⟩
end
end Pw

/-! Pw, part F: texts, plain equality, raising, the head's facts. -/
namespace Pw
open PySem PySem.Spec PyProof.Rows L2
open Evl (Ex ex_l ex_t fresh_back)
abbrev rAddS : R2 := fun x y H Q => ∃ i j, x = .str i ∧ y = .str j ∧ i.length + j.length ≤ sizeLine ∧ Q (.str (i ++ j)) H
abbrev rIsN : R2 := fun x y H Q => y = .non ∧ Q (.bl (decide (x = .non))) H
abbrev rNotN : R2 := fun x y H Q => y = .non ∧ Q (.bl (!decide (x = .non))) H
abbrev tJoin (ts : List TE) : TE := fun σ H Q => tJs ts Str.empty σ H fun out H1 => Q (.str out) H1
abbrev tRaise0 (C : Addr) (E : XK) : TS := fun _ _ H => E (.ref C) none H
abbrev tTru (K : PySem.W.Frag) (te : TE) : TT := fun σ H Q => te σ H fun x H' => ∃ k, TruV K x H' k ∧ Q k H'
abbrev rListOf (K : PySem.W.Frag) : List V → Hp → VK → Prop := fun xs H Q => ∃ p ys, xs = [.ref p] ∧ (SqL K H p ys ∨ SqT K H p ys) ∧ ∀ l, H l = none → Q (.ref l) (upd H l (.lst ys))
abbrev rTupOf (K : PySem.W.Frag) : List V → Hp → VK → Prop := fun xs H Q => ∃ p ys, xs = [.ref p] ∧ ((SqL K H p ys ∧ ∀ l, H l = none → Q (.ref l) (upd H l (.tup ys))) ∨ (SqT K H p ys ∧ Q (.ref p) H))
section
variable {T : Cfg} {W : WX} {s : S} {ρ : List (Option D)} {m0 : Mu} {XP : XW} {ta tb te : TE} {P : D → Mu → Prop} {μ : Mu} {K : Out → Prop}
theorem ov_addS {x y : Str} (h : x.length + y.length ≤ 100000) (p : P (.str (x ++ y)) μ) : OV T rAddS (.str x) (.str y) μ P := ov_of (fun a b Hb H Q ex rx ry q => by
  cases rx; cases ry
  exact ⟨x, y, rfl, rfl, Evl.sz_of h, q _ (.str _)⟩) p
theorem uv_neg {i : Int} (p : P (.int (-i)) μ) : UV T (rU fun i => .int (-i)) (.int i) μ P := fun x Hb H Q ex sm rx q => by
  cases rx
  exact ⟨i, rfl, q _ _ _ _ _ (.refl ex sm) (.int _) p⟩
theorem sv_raise0 {C : Addr} {E : XK} (hW : ∀ σ cls dd H, W cls dd σ H → E cls dd H) (k : K (.xr ⟨.ref C, none⟩ ⟨ρ, m0⟩)) : SV T (tRaise0 C E) W ⟨ρ, m0⟩ K := fun σ Hb H Dn S c =>
  hW σ _ _ _ (c.xr ⟨.ref C, none⟩ ⟨ρ, m0⟩ (.ref C) none σ Hb H S.refl S ⟨rfl, rfl⟩ k)
/-! f-strings -/
def JV (T : Cfg) (ts : List TE) (W : WX) (s : S) (acc : Str) (P : D → Mu → Prop) (XP : XW) : Prop :=
  ∀ σ Hb H Q, Sim T s σ Hb H → (∀ z μ' Hb' H', Go T s.m Hb H μ' Hb' H' → P (.str z) μ' → Q z H') →
    (∀ x μ' cls dd Hb' H', Go T s.m Hb H μ' Hb' H' → RepX T Hb' x cls dd → XP x μ' → W cls dd σ H') → tJs ts acc σ H Q
theorem jv_nil {acc : Str} (p : P (.str acc) m0) : JV T [] W ⟨ρ, m0⟩ acc P XP := fun σ Hb H Q S q _ => q _ _ _ _ S.refl p
theorem jv_cons {ts : List TE} {acc : Str} (h : EV T te W ⟨ρ, m0⟩ (fun d μ1 => ∃ y : Str, d = .str y ∧ acc.length + y.length ≤ 100000 ∧ JV T ts W ⟨ρ, μ1⟩ (acc ++ y) P XP) XP) : JV T (te :: ts) W ⟨ρ, m0⟩ acc P XP := fun σ Hb H Q S q x =>
  h σ Hb H _ S (fun d μ1 v Hb1 H1 g1 r1 p1 => by
    obtain ⟨y, rfl, hl, p1⟩ := p1
    cases r1
    exact ⟨y, rfl, by rw [strLen_append]; exact Evl.sz_of hl, p1 σ Hb1 H1 _ (S.go g1) (fun z μ' Hb' H' g p => q z μ' Hb' H' (g1.trans g) p) (fun y μ' cls dd Hb' H' g r p => x y μ' cls dd Hb' H' (g1.trans g) r p)⟩) x
theorem ev_join {ts : List TE} (h : JV T ts W ⟨ρ, m0⟩ Str.empty P XP) : EV T (tJoin ts) W ⟨ρ, m0⟩ P XP := fun σ Hb H Q S q x =>
  h σ Hb H _ S (fun z μ' Hb' H' g p => q _ _ _ _ _ g (.str z) p) x
theorem ev_fmtI (h : EV T te W ⟨ρ, m0⟩ (fun d μ1 => ∃ i : Int, d = .int i ∧ i.natAbs.log2 < 1920 ∧ P (.str (toString i)) μ1) XP) : EV T (tFmt te) W ⟨ρ, m0⟩ P XP := fun σ Hb H Q S q x =>
  h σ Hb H _ S (fun d μ1 v Hb1 H1 g1 r1 p1 => by
    obtain ⟨i, rfl, hl, p1⟩ := p1
    cases r1
    exact .inr ⟨i, rfl, hl, q _ _ _ _ _ g1 (.str _) p1⟩) x
/-! == of plain data -/
end
mutual
inductive DPy : D → PyData → Prop
  | non : DPy .non .none
  | bl (b : Bool) : DPy (.bl b) (.bool b)
  | int (i : Int) : DPy (.int i) (.int i)
  | str (x : Str) : DPy (.str x) (.str x)
  | lst {ds : List D} {ps : List PyData} : DPyL ds ps → DPy (.lst ds) (.list ps)
  | seq {ds : List D} {ps : List PyData} : DPyL ds ps → DPy (.seq ds) (.list ps)
  | tup {ds : List D} {ps : List PyData} : DPyL ds ps → DPy (.tup ds) (.tuple ps)
inductive DPyL : List D → List PyData → Prop
  | nil : DPyL [] []
  | cons {d : D} {p : PyData} {ds : List D} {ps : List PyData} : DPy d p → DPyL ds ps → DPyL (d :: ds) (p :: ps)
end
section
variable {T : Cfg} {Hb H : Hp}
mutual
theorem DPy.dp (ex : Ex Hb H) : ∀ (p : PyData) (d : D) (v : V), DPy d p → Rep T Hb d v → Dp T.K H v p
  | .none, _, _, h, r => by cases h; cases r; exact .non
  | .bool b, _, _, h, r => by cases h; cases r; exact .bl b
  | .int i, _, _, h, r => by cases h; cases r; exact .int i
  | .str x, _, _, h, r => by cases h; cases r; exact .str x
  | .list ps, _, _, h, r => by
    cases h with
    | lst hl =>
      obtain ⟨a, xs, rfl, ha, rl⟩ := r.lst_inv
      exact .lst (Evl.sq_of (ex _ _ ha)) (DPyL.dp ex ps _ xs hl rl)
    | seq hl =>
      obtain ⟨a, xs, rfl, ha, rl⟩ := r.seq_inv
      exact .lst (ex_l ex ha) (DPyL.dp ex ps _ xs hl rl)
  | .tuple ps, _, _, h, r => by
    cases h with
    | tup hl =>
      obtain ⟨a, xs, rfl, ha, rl⟩ := r.tup_inv
      exact .tup (ex_t ex ha) (DPyL.dp ex ps _ xs hl rl)
  | .dict _, _, _, h, _ => by cases h
theorem DPyL.dp (ex : Ex Hb H) : ∀ (ps : List PyData) (ds : List D) (vs : List V), DPyL ds ps → RepL T Hb ds vs → DpAll T.K H vs ps
  | [], _, _, h, r => by
    cases h
    obtain rfl := r.nil_inv
    exact .nil
  | p :: ps, _, _, h, r => by
    cases h with
    | cons h1 h2 =>
      obtain ⟨v, ys, rfl, r1, r2⟩ := r.cons_inv
      exact .cons (DPy.dp ex p _ v h1 r1) (DPyL.dp ex ps _ ys h2 r2)
end
variable {P : D → Mu → Prop} {μ : Mu}
theorem ov_eqD {d e : D} {p q : PyData} (hd : DPy d p) (he : DPy e q) (sd : SeqAt.shaped p = true) (se : SeqAt.shaped q = true) (k : P (.bl (PyData.eqv p q)) μ) : OV T (rEqD T.K) d e μ P := ov_of (fun x y Hb H Q ex rx ry w =>
  ⟨p, q, DPy.dp ex p d x hd rx, DPy.dp ex q e y he ry, sd, se, w _ (.bl _)⟩) k
theorem ov_neD {d e : D} {p q : PyData} (hd : DPy d p) (he : DPy e q) (sd : SeqAt.shaped p = true) (se : SeqAt.shaped q = true) (k : P (.bl (!PyData.eqv p q)) μ) : OV T (rNeD T.K) d e μ P := ov_of (fun x y Hb H Q ex rx ry w =>
  ⟨p, q, DPy.dp ex p d x hd rx, DPy.dp ex q e y he ry, sd, se, w _ (.bl _)⟩) k
theorem dpy2 {a b : Int} : DPy (.tup [.int a, .int b]) (.tuple [.int a, .int b]) := .tup (.cons (.int a) (.cons (.int b) .nil))
theorem eqv2 {a b c d : Int} : PyData.eqv (.tuple [.int a, .int b]) (.tuple [.int c, .int d]) = decide (a = c ∧ b = d) := by
  show (a == c && (b == d && true)) = _
  by_cases h1 : a = c
  · by_cases h2 : b = d
    · simp [h1, h2]
    · simp [h1, h2]
  · simp [h1]
theorem ov_eq2 {a b c d : Int} (k : P (.bl (decide (a = c ∧ b = d))) μ) : OV T (rEqD T.K) (.tup [.int a, .int b]) (.tup [.int c, .int d]) μ P := ov_eqD dpy2 dpy2 rfl rfl (by rw [eqv2]; exact k)
theorem ov_ne2 {a b c d : Int} (k : P (.bl (!decide (a = c ∧ b = d))) μ) : OV T (rNeD T.K) (.tup [.int a, .int b]) (.tup [.int c, .int d]) μ P := ov_neD dpy2 dpy2 rfl rfl (by rw [eqv2]; exact k)
end
/-! ### the head -/
def fdOf (K : PySem.W.Frag) (f : Addr) : FuncData := match K.lookup f with
  | some ⟨_, _, .func fd, _⟩ => fd
  | _ => PySem.W.fnOf "" "" ⟨[], [], none, [], [], none, []⟩ [] ⟨.function, [], false, false, []⟩ .none .none .none .none none .none .none
theorem fdOf_ok {K : PySem.W.Frag} {x qual : Str} {params : Arguments} {body : List Stmt} {scope : Scope} {dvs : List V} {kws : List (Str × V)} {f : Addr} (h : ∃ fd, FunD K x qual params body scope dvs kws f fd) : FunD K x qual params body scope dvs kws f (fdOf K f) := by
  obtain ⟨fd, F⟩ := h
  obtain ⟨oc, od, dV, kV, doc, pm, an, cdv, ct, osl, e, lk, _⟩ := F.ex
  have : fdOf K f = fd := by
    unfold fdOf
    rw [lk]
  rw [this]
  exact F
abbrev AlF : Type := He.AlD × Bool
def obsF (fa : List He.Fa) (fn : List He.DefD) (exs : List (PySem.W.Frag → Bool)) (K : PySem.W.Frag) : AlF := (He.obsD fa fn K, exs.all fun e => e K)
def valF (fn : List He.DefD) : AlF := (He.valD fn, true)
def SaysF (fa : List He.Fa) (fn : List He.DefD) (exs : List (PySem.W.Frag → Bool)) (K : PySem.W.Frag) : Prop := obsF fa fn exs K = valF fn
def obsFG (n : Nat) (fa : List He.Fa) (fn : List He.DefD) (exs : List (PySem.W.Frag → Bool)) (g : Addr → Option Obj) : AlF := obsF fa fn exs (He.frG g (He.asD g n))
def hookF (n : Nat) (fa : List He.Fa) (fn : List He.DefD) (exs : List (PySem.W.Frag → Bool)) : PySem.W.Hook where
  α := AlF
  obs := fun s => obsFG n fa fn exs s.heap.get?
  val := fun _ => valF fn
  says := fun _ h => ∃ K : PySem.W.Frag, K.In h ∧ SaysF fa fn exs K
  of := fun _ _ e => ⟨_, He.frG_in, e⟩
  keeps := fun _ _ _ ⟨K, hK, c⟩ k => ⟨K, PySem.W.Frag.In.keeps hK k, c⟩
theorem obsFG_eq {n : Nat} {fa : List He.Fa} {fn : List He.DefD} {exs : List (PySem.W.Frag → Bool)} {g : Addr → Option Obj} {s : Shared} (h : ∀ a, g a = s.heap.get? a) : obsFG n fa fn exs g = (hookF n fa fn exs).obs s := by
  have e : g = s.heap.get? := funext h
  rw [e] <;> rfl
section
variable {fa : List He.Fa} {fn : List He.DefD} {exs : List (PySem.W.Frag → Bool)} {K : PySem.W.Frag}
theorem SaysF.d (c : SaysF fa fn exs K) : He.SaysD fa fn K := congrArg (fun z : AlF => z.1) c
theorem SaysF.fact (c : SaysF fa fn exs K) (i : Nat) {f : He.Fa} (h : fa[i]? = some f) : f.ok K = true := c.d.fact i h
theorem SaysF.def_ (c : SaysF fa fn exs K) (i : Nat) {d : He.DefD} (h : fn[i]? = some d) : ∃ fd, FunD K d.name d.qual d.params d.body d.scope (d.dvs K) (d.kws K) (He.fAd K d.at_) fd := c.d.def_ i h
theorem SaysF.ex_ (c : SaysF fa fn exs K) (i : Nat) {e : PySem.W.Frag → Bool} (h : exs[i]? = some e) : e K = true := by
  have c1 : (exs.all fun e => e K) = true := congrArg (fun z : AlF => z.2) c
  exact List.all_eq_true.mp c1 e (List.mem_of_getElem? h)
end
/-- the classes by number -/
def cfg (K : PySem.W.Frag) : Cfg := ⟨K, fun n => match n with
  | 0 => He.ga K "Share" | 1 => He.ga K "Machine" | 2 => He.ga K "Carrying" | 3 => He.ga K "Reading" | 4 => He.ga K "Kept" | 5 => He.ga K "House" | 6 => He.ga K "Desk" | _ => He.ga K "Going"⟩
end Pw
namespace Pw
open PySem PySem.Spec PyProof.Rows L2
section
variable {T : Cfg} {W : WX} {K : Out → Prop} {u : TS} {s' : S} {d : D} {m : Mu} {x : XD} {P : D → Mu → Prop} {XP : XW} {I : Nat → S → Prop} {i : Nat}
theorem seqK_nx (h : SV T u W s' K) : seqK T u W K (.nx s') := h
theorem seqK_rt (h : K (.rt d m)) : seqK T u W K (.rt d m) := h
theorem seqK_xr (h : K (.xr x s')) : seqK T u W K (.xr x s') := h
theorem seqK_ct (h : K (.ct s')) : seqK T u W K (.ct s') := h
theorem seqK_bk (h : K (.bk s')) : seqK T u W K (.bk s') := h
theorem whK_rt (h : K (.rt d m)) : whK I i K (.rt d m) := h
theorem whK_xr (h : K (.xr x s')) : whK I i K (.xr x s') := h
theorem whK_bk (h : K (.nx s')) : whK I i K (.bk s') := h
theorem forK_nx (h : I (i + 1) s') : forK I i K (.nx s') := h
theorem forK_ct (h : I (i + 1) s') : forK I i K (.ct s') := h
theorem forK_rt (h : K (.rt d m)) : forK I i K (.rt d m) := h
theorem forK_xr (h : K (.xr x s')) : forK I i K (.xr x s') := h
theorem forK_bk (h : K (.nx s')) : forK I i K (.bk s') := h
theorem fnK_rt (h : P d m) : fnK P XP (.rt d m) := h
theorem fnK_nx (h : P .non s'.m) : fnK P XP (.nx s') := h
theorem fnK_xr (h : XP x s'.m) : fnK P XP (.xr x s') := h
end
end Pw
namespace Pw
open PySem PySem.Spec PyProof.Rows L2
section
variable {T : Cfg} {W : WX} {ρ : List (Option D)} {m0 : Mu} {XP : XW} {P : D → Mu → Prop} {ta : TA} {E : XK}
theorem ev_cal0 {c : List D → (D → Prop) → (XD → Prop) → Prop} (h : EA T ta W ⟨ρ, m0⟩ (fun ds μ => c ds (fun d => P d μ) (fun _ => False)) XP) : EV T (tCall (spOf T (pu c)) [] E ta) W ⟨ρ, m0⟩ P XP :=
  ev_call0 (dds := []) (fun _ => RepL.nil) (by simpa using h)
theorem ev_cal {c : List D → (D → Prop) → (XD → Prop) → Prop} (hW : ∀ σ cls dd H, W cls dd σ H → E cls dd H) (h : EA T ta W ⟨ρ, m0⟩ (fun ds μ => c ds (fun d => P d μ) (fun x => XP x μ)) XP) : EV T (tCall (spOf T (pu c)) [] E ta) W ⟨ρ, m0⟩ P XP :=
  ev_call (dds := []) hW (fun _ => RepL.nil) (by simpa using h)
theorem ev_calW {c : Nat → List D → (D → Nat → Prop) → Prop} (h : EA T ta W ⟨ρ, m0⟩ (fun ds μ => ∃ a b rest, ds = .ptr a :: rest ∧ μ a = some (.well b) ∧ c b rest (fun d b' => P d (put μ a (.well b')))) XP) : EV T (tCall (spOf T (wl c)) [] E ta) W ⟨ρ, m0⟩ P XP :=
  ev_callW (dds := []) (fun _ => RepL.nil) (by simpa using h)
theorem ev_mak0 {k : Nat} {c : List D → (List (Str × D) → Prop) → (XD → Prop) → Prop} (h : EA T ta W ⟨ρ, m0⟩ (fun ds μ => c ds (fun fs => P (.ins k fs) μ) (fun _ => False)) XP) : EV T (tMake (T.cls k) (spOf T (ini k c)) [] E ta) W ⟨ρ, m0⟩ P XP :=
  ev_make0 (dds := []) (fun _ => RepL.nil) (by simpa using h)
theorem ev_mak {k : Nat} {c : List D → (List (Str × D) → Prop) → (XD → Prop) → Prop} (hW : ∀ σ cls dd H, W cls dd σ H → E cls dd H) (h : EA T ta W ⟨ρ, m0⟩ (fun ds μ => c ds (fun fs => P (.ins k fs) μ) (fun x => XP x μ)) XP) : EV T (tMake (T.cls k) (spOf T (ini k c)) [] E ta) W ⟨ρ, m0⟩ P XP :=
  ev_make (dds := []) hW (fun _ => RepL.nil) (by simpa using h)
theorem ev_mak1 {k : Nat} {i : Int} {c : List D → (List (Str × D) → Prop) → (XD → Prop) → Prop} (h : EA T ta W ⟨ρ, m0⟩ (fun ds μ => c (ds ++ [.int i]) (fun fs => P (.ins k fs) μ) (fun _ => False)) XP) : EV T (tMake (T.cls k) (spOf T (ini k c)) [.int i] E ta) W ⟨ρ, m0⟩ P XP :=
  ev_make0 (dds := [.int i]) (fun _ => .cons (.int i) .nil) h
end
end Pw

namespace Pw
open PySem PySem.Spec PyProof.Rows L2
/-! ### states known less well; loops -/
def leR : List (Option D) → List (Option D) → Prop
  | [], [] => True
  | none :: r, _ :: s => leR r s
  | some d :: r, p :: s => p = some d ∧ leR r s
  | _, _ => False
theorem leR.len : ∀ {r s : List (Option D)}, leR r s → r.length = s.length
  | [], [], _ => rfl
  | none :: r, _ :: s, h => by
    have := leR.len (r := r) (s := s) h
    simp [this]
  | some d :: r, p :: s, h => by
    have := leR.len (r := r) (s := s) h.2
    simp [this]
  | [], _ :: _, h => h.elim
  | none :: _, [], h => h.elim
  | some _ :: _, [], h => h.elim
theorem leR.get : ∀ {r s : List (Option D)}, leR r s → ∀ (i : Nat) (d : D), r[i]? = some (some d) → s[i]? = some (some d)
  | [], [], _, i, d, e => by simp at e
  | none :: r, _ :: s, h, 0, d, e => by simp at e
  | none :: r, _ :: s, h, i + 1, d, e => leR.get (r := r) (s := s) h i d e
  | some d' :: r, p :: s, h, 0, d, e => by
    have e' : some (some d') = some (some d) := e
    cases e'
    show some p = _
    rw [h.1]
  | some d' :: r, p :: s, h, i + 1, d, e => leR.get (r := r) (s := s) h.2 i d e
  | [], _ :: _, h, _, _, _ => h.elim
  | none :: _, [], h, _, _, _ => h.elim
  | some _ :: _, [], h, _, _, _ => h.elim
theorem leR.refl : ∀ {r : List (Option D)}, leR r r
  | [] => trivial
  | none :: r => leR.refl (r := r)
  | some d :: r => ⟨rfl, leR.refl (r := r)⟩
theorem leR.set : ∀ {r s : List (Option D)}, leR r s → ∀ (i : Nat) (d : D), leR (r.set i (some d)) (s.set i (some d))
  | [], [], _, i, d => trivial
  | none :: r, _ :: s, h, 0, d => ⟨rfl, h⟩
  | none :: r, _ :: s, h, i + 1, d => leR.set (r := r) (s := s) h i d
  | some d' :: r, p :: s, h, 0, d => ⟨rfl, h.2⟩
  | some d' :: r, p :: s, h, i + 1, d => ⟨h.1, leR.set (r := r) (s := s) h.2 i d⟩
  | [], _ :: _, h, _, _ => h.elim
  | none :: _, [], h, _, _ => h.elim
  | some _ :: _, [], h, _, _ => h.elim
theorem leR.of : ∀ {r s : List (Option D)}, r.length = s.length → (∀ (i : Nat) (d : D), r[i]? = some (some d) → s[i]? = some (some d)) → leR r s
  | [], [], _, _ => trivial
  | none :: r, p :: s, hl, h => leR.of (r := r) (s := s) (by simpa using hl) fun i d e => h (i + 1) d e
  | some d' :: r, p :: s, hl, h => ⟨Option.some.inj (h 0 d' rfl), leR.of (r := r) (s := s) (by simpa using hl) fun i d e => h (i + 1) d e⟩
  | [], _ :: _, hl, _ => by simp at hl
  | none :: _, [], hl, _ => by simp at hl
  | some _ :: _, [], hl, _ => by simp at hl
theorem leR.trans {r s t : List (Option D)} (h : leR r s) (k : leR s t) : leR r t := leR.of (h.len.trans k.len) fun i d e => k.get i d (h.get i d e)
section
variable {T : Cfg} {W : WX} {ρ ρ' : List (Option D)} {m0 m' : Mu} {XP : XW} {K : Out → Prop} {ta tb te : TE} {P : D → Mu → Prop} {u : TS}
theorem Sim.wk {σ : L2.St} {Hb H : Hp} (h : leR ρ' ρ) (hm : Subm m' m0) (S : Sim T ⟨ρ, m0⟩ σ Hb H) : Sim T ⟨ρ', m'⟩ σ Hb H :=
  ⟨h.len.trans S.len, fun i d e => S.vars i d (h.get i d e), S.sub, hm.sim S.mu⟩
theorem sv_wk (h : leR ρ' ρ) (hm : Subm m' m0) (k : SV T u W ⟨ρ', m'⟩ K) : SV T u W ⟨ρ, m0⟩ K := fun σ Hb H Dn S c =>
  k σ Hb H Dn (S.wk h hm) (c.go (S.refl.forget hm))
theorem sub_refl {m : Mu} : Subm m m := fun _ _ e => e
theorem seqK_wk {s' : S} (h : leR ρ' s'.r) (k : SV T u W ⟨ρ', s'.m⟩ K) : seqK T u W K (.nx s') := seqK_nx (sv_wk (ρ := s'.r) (m0 := s'.m) h sub_refl k)
theorem seqK_res {s' : S} (h : leR ρ' s'.r) (k : SV T u W ⟨ρ', mu0⟩ K) : seqK T u W K (.nx s') := seqK_nx (sv_wk (ρ := s'.r) (m0 := s'.m) h sub_nil k)
theorem ev_wk (hm : Subm m' m0) (k : EV T te W ⟨ρ, m'⟩ P (fun x μ => XP x μ)) : EV T te W ⟨ρ, m0⟩ P XP := fun σ Hb H Q S q x =>
  k σ Hb H Q (S.wk leR.refl hm) (fun d μ v Hb' H' g r p => q d μ v Hb' H' ((S.refl.forget hm).trans g) r p) (fun y μ cls dd Hb' H' g r p => x y μ cls dd Hb' H' ((S.refl.forget hm).trans g) r p)
abbrev InvR (ρ : List (Option D)) (J : Nat → Mu → Prop) : Nat → S → Prop := fun n s => leR ρ s.r ∧ J n s.m
theorem sv_forN {i : Nat} (h : EV T te W ⟨ρ, m0⟩ (fun d μ => ∃ ds ρ' J, Seqd d ds ∧ leR ρ' ρ ∧ J 0 μ ∧ (∀ n e μ', ds[n]? = some e → J n μ' → SV T u W ⟨ρ'.set i (some e), μ'⟩ (forK (InvR ρ' J) n K)) ∧ ∀ s', leR ρ' s'.r → J ds.length s'.m → K (.nx s')) (xk ⟨ρ, m0⟩ K)) : SV T (tFor (iList T.K te) (gName i) u) W ⟨ρ, m0⟩ K :=
  sv_for (is := [i]) (iv_list (h.imp fun d μ ⟨ds, ρ', J, hs, hr, j0, turn, done⟩ => ⟨ds, hs, InvR ρ' J, ⟨hr, j0⟩, fun n s' hn hi => gv_name (sv_wk (hi.1.set i _) sub_refl (turn n _ s'.m (nth_get hn) hi.2)), fun s' hi => done s' hi.1 hi.2⟩))
/-- each turn anew -/
theorem sv_forR {i : Nat} (h : EV T te W ⟨ρ, m0⟩ (fun d μ => ∃ ds ρ', Seqd d ds ∧ leR ρ' ρ ∧ (∀ e ∈ ds, SV T u W ⟨ρ'.set i (some e), mu0⟩ (forK (InvR ρ' fun _ _ => True) 0 K)) ∧ ∀ s', leR ρ' s'.r → K (.nx s')) (xk ⟨ρ, m0⟩ K)) : SV T (tFor (iList T.K te) (gName i) u) W ⟨ρ, m0⟩ K :=
  sv_forN (h.imp fun d μ ⟨ds, ρ', hs, hr, turn, done⟩ => ⟨ds, ρ', fun _ _ => True, hs, hr, trivial, fun n e μ' he _ => sv_wk leR.refl sub_nil ((turn e (List.mem_of_getElem? he)).imp fun o ho => by
    cases o <;> exact ho), fun s' a _ => done s' a⟩)
/-- pairs -/
theorem sv_for2 {i j : Nat} (h : EV T te W ⟨ρ, m0⟩ (fun d μ => ∃ ds ρ' J, Seqd d ds ∧ leR ρ' ρ ∧ J 0 μ ∧ (∀ n e μ', ds[n]? = some e → J n μ' → ∃ x y, e = .tup [x, y] ∧ SV T u W ⟨(ρ'.set i (some x)).set j (some y), μ'⟩ (forK (InvR ρ' J) n K)) ∧ ∀ s', leR ρ' s'.r → J ds.length s'.m → K (.nx s')) (xk ⟨ρ, m0⟩ K)) : SV T (tFor (iList T.K te) (gTup T.K 2 (gCons (gName i) (gCons (gName j) gNil))) u) W ⟨ρ, m0⟩ K :=
  sv_for (iv_list (h.imp fun d μ ⟨ds, ρ', J, hs, hr, j0, turn, done⟩ => ⟨ds, hs, InvR ρ' J, ⟨hr, j0⟩, fun n s' hn hi => by
    obtain ⟨x, y, e, k⟩ := turn n _ s'.m (nth_get hn) hi.2
    rw [e]
    exact gv_tup rfl (gvs_cons (gv_name (gvs_cons (gv_name (gvs_nil (sv_wk ((hi.1.set i _).set j _) sub_refl k)))))), fun s' hi => done s' hi.1 hi.2⟩))
/-- a comprehension over a list, each thing by a function -/
theorem ev_lcF {i : Nat} {te' : TE} (h : EV T te W ⟨ρ, m0⟩ (fun d μ => ∃ (ds : List D) (f : D → D), Seqd d ds ∧ ds.length ≤ 100000 ∧ (∀ e ∈ ds, EV T te' (fun _ _ _ _ => False) ⟨(wipeD ρ [i]).set i (some e), μ⟩ (fun x μ' => x = f e ∧ μ' = μ) (fun _ _ => False)) ∧ P (.lst (ds.map f)) μ) XP) : EV T (tLc (iList T.K te) (gName i) tYes te' [i]) W ⟨ρ, m0⟩ P XP :=
  ev_lc (is := [i]) (fun _ h => h) (iv_list (h.imp fun d μ ⟨ds, f, hs, hl, turn, done⟩ => ⟨ds, hs, hl, fun n acc μ' => μ' = μ ∧ acc = (ds.take n).map f, ⟨rfl, by simp⟩, fun n acc μ' hn _ ⟨e1, e2⟩ => by
    subst e1 e2
    refine gv_name (tv_yes ⟨fun _ => ?_, fun e => (nomatch e)⟩)
    have hm : nth ds n ∈ ds := List.mem_of_getElem? (nth_get hn)
    refine (turn _ hm).imp fun x μ2 ⟨e1, e2⟩ => ⟨e2, ?_⟩
    rw [e1, List.take_succ, nth_get hn]
    simp, fun acc μ' ⟨e1, e2⟩ => by
    subst e1 e2
    rw [List.take_length]
    exact done⟩))
end
end Pw

namespace Pw
open PySem PySem.Spec PyProof.Rows L2
section
variable {T : Cfg} {W : WX} {ρ : List (Option D)} {m0 m' : Mu} {XP : XW} {K : Out → Prop} {ta tb te te' : TE} {P : D → Mu → Prop} {u : TS}
/-! loops whose known slots go with the turn -/
abbrev InvI (ρ : Nat → List (Option D)) (J : Nat → Mu → Prop) : Nat → S → Prop := fun n s => leR (ρ n) s.r ∧ J n s.m
theorem sv_forNI {i : Nat} (h : EV T te W ⟨ρ, m0⟩ (fun d μ => ∃ ds ρ' J, Seqd d ds ∧ leR (ρ' 0) ρ ∧ J 0 μ ∧ (∀ n e μ', ds[n]? = some e → J n μ' → SV T u W ⟨(ρ' n).set i (some e), μ'⟩ (forK (InvI ρ' J) n K)) ∧ ∀ s', leR (ρ' ds.length) s'.r → J ds.length s'.m → K (.nx s')) (xk ⟨ρ, m0⟩ K)) : SV T (tFor (iList T.K te) (gName i) u) W ⟨ρ, m0⟩ K :=
  sv_for (is := [i]) (iv_list (h.imp fun d μ ⟨ds, ρ', J, hs, hr, j0, turn, done⟩ => ⟨ds, hs, InvI ρ' J, ⟨hr, j0⟩, fun n s' hn hi => gv_name (sv_wk (hi.1.set i _) sub_refl (turn n _ s'.m (nth_get hn) hi.2)), fun s' hi => done s' hi.1 hi.2⟩))
theorem sv_for2I {i j : Nat} (h : EV T te W ⟨ρ, m0⟩ (fun d μ => ∃ ds ρ' J, Seqd d ds ∧ leR (ρ' 0) ρ ∧ J 0 μ ∧ (∀ n e μ', ds[n]? = some e → J n μ' → ∃ x y, e = .tup [x, y] ∧ SV T u W ⟨((ρ' n).set i (some x)).set j (some y), μ'⟩ (forK (InvI ρ' J) n K)) ∧ ∀ s', leR (ρ' ds.length) s'.r → J ds.length s'.m → K (.nx s')) (xk ⟨ρ, m0⟩ K)) : SV T (tFor (iList T.K te) (gTup T.K 2 (gCons (gName i) (gCons (gName j) gNil))) u) W ⟨ρ, m0⟩ K :=
  sv_for (iv_list (h.imp fun d μ ⟨ds, ρ', J, hs, hr, j0, turn, done⟩ => ⟨ds, hs, InvI ρ' J, ⟨hr, j0⟩, fun n s' hn hi => by
    obtain ⟨x, y, e, k⟩ := turn n _ s'.m (nth_get hn) hi.2
    rw [e]
    exact gv_tup rfl (gvs_cons (gv_name (gvs_cons (gv_name (gvs_nil (sv_wk ((hi.1.set i _).set j _) sub_refl k)))))), fun s' hi => done s' hi.1 hi.2⟩))
theorem sv_forRg {i : Nat} {ta : TA} (h : EA T ta W ⟨ρ, m0⟩ (fun ds μ => ∃ (n : Int) (ρ' : Nat → List (Option D)) (J : Nat → Mu → Prop), ds = [.int n] ∧ n ≤ 1000000 ∧ -1000000 ≤ n ∧ leR (ρ' 0) ρ ∧ J 0 μ ∧ (∀ (k : Nat) μ', k < n.toNat → J k μ' → SV T u W ⟨(ρ' k).set i (some (.int k)), μ'⟩ (forK (InvI ρ' J) k K)) ∧ ∀ s', leR (ρ' n.toNat) s'.r → J n.toNat s'.m → K (.nx s')) (xk ⟨ρ, m0⟩ K)) : SV T (tFor (iRng1 ta) (gName i) u) W ⟨ρ, m0⟩ K :=
  sv_for (is := [i]) (iv_rng1 (fun σ Hb H Q S q x => h σ Hb H Q S (fun ds μ vs Hb' H' g r ⟨n, ρ', J, e, h1, h2, hr, j0, turn, done⟩ => q ds μ vs Hb' H' g r ⟨n, e, h1, h2, InvI ρ' J, ⟨hr, j0⟩, fun k s' hk hi => by
    have e0 : (0 : Int) + (k : Nat) = (k : Int) := by omega
    show GV T (gName i) [i] (.int (0 + (k : Nat))) s' _
    rw [e0]
    exact gv_name (sv_wk (hi.1.set i _) sub_refl (turn k s'.m hk hi.2)), fun s' hi => done s' hi.1 hi.2⟩) x))
/-- a comprehension, the store told -/
theorem ev_lcW {wi : TI} {i : Nat} (h : IV T wi W ⟨ρ, m0⟩ (fun n f μ => n ≤ 100000 ∧ ∃ (J : Nat → Mu → Prop) (R : Nat → D → Prop), J 0 μ ∧ (∀ k μ', k < n → J k μ' → EV T te' (fun _ _ _ _ => False) ⟨(wipeD ρ [i]).set i (some (f k)), μ'⟩ (fun x μ2 => R k x ∧ J (k + 1) μ2) (fun _ _ => False)) ∧ ∀ acc μ', acc.length = n → (∀ k x, acc[k]? = some x → R k x) → J n μ' → P (.lst acc) μ') XP) : EV T (tLc wi (gName i) tYes te' [i]) W ⟨ρ, m0⟩ P XP :=
  ev_lc (is := [i]) (fun _ h => h) (fun σ Hb H Q S q x => h σ Hb H Q S (fun It n f μ Hb' H' g ok ⟨hn, J, R, j0, turn, done⟩ => q It n f μ Hb' H' g ok ⟨hn, fun k acc μ' => J k μ' ∧ acc.length = k ∧ ∀ l y, acc[l]? = some y → R l y, ⟨j0, rfl, fun l y e => by simp at e⟩, fun k acc μ' hk _ ⟨jk, hl, hr⟩ => by
    refine gv_name (tv_yes ⟨fun _ => ?_, fun e => (nomatch e)⟩)
    refine (turn k μ' hk jk).imp fun y μ2 ⟨r1, j1⟩ => ⟨j1, by simp [hl], fun l z e => ?_⟩
    by_cases hlk : l < k
    · rw [List.getElem?_append_left (by omega)] at e
      exact hr l z e
    · rw [List.getElem?_append_right (by omega)] at e
      have : l = k := by
        rcases Nat.lt_or_ge (l - acc.length) 1 with w | w
        · omega
        · rw [List.getElem?_eq_none (by simpa using w)] at e; cases e
      subst this
      rw [hl, Nat.sub_self] at e
      cases e
      exact r1, fun acc μ' ⟨jn, hl, hr⟩ => done acc μ' hl hr jn⟩) x)
/-- .. over pairs, by a function -/
theorem ev_lcF2 {i j : Nat} (h : EV T te W ⟨ρ, m0⟩ (fun d μ => ∃ (ds : List D) (f : D → D), Seqd d ds ∧ ds.length ≤ 100000 ∧ (∀ e ∈ ds, ∃ x y, e = .tup [x, y] ∧ EV T te' (fun _ _ _ _ => False) ⟨((wipeD ρ [i, j]).set i (some x)).set j (some y), μ⟩ (fun x μ' => x = f e ∧ μ' = μ) (fun _ _ => False)) ∧ P (.lst (ds.map f)) μ) XP) : EV T (tLc (iList T.K te) (gTup T.K 2 (gCons (gName i) (gCons (gName j) gNil))) tYes te' [i, j]) W ⟨ρ, m0⟩ P XP :=
  ev_lc (is := [i] ++ ([j] ++ [])) (fun _ h => h) (iv_list (h.imp fun d μ ⟨ds, f, hs, hl, turn, done⟩ => ⟨ds, hs, hl, fun n acc μ' => μ' = μ ∧ acc = (ds.take n).map f, ⟨rfl, by simp⟩, fun n acc μ' hn _ ⟨e1, e2⟩ => by
    subst e1 e2
    have hm : nth ds n ∈ ds := List.mem_of_getElem? (nth_get hn)
    obtain ⟨x, y, e, k⟩ := turn _ hm
    rw [e]
    refine gv_tup rfl (gvs_cons (gv_name (gvs_cons (gv_name (gvs_nil (tv_yes ⟨fun _ => ?_, fun e => (nomatch e)⟩))))))
    refine k.imp fun x μ2 ⟨e1, e2⟩ => ⟨e2, ?_⟩
    rw [e1, List.take_succ, nth_get hn]
    simp, fun acc μ' ⟨e1, e2⟩ => by
    subst e1 e2
    rw [List.take_length]
    exact done⟩))
end
end Pw

namespace Pw
open PySem PySem.Spec PyProof.Rows L2
open Evl (ex_l ex_t)
/-! ### lists of truths counted -/
def isB (k : Bool) : Value → Bool
  | .bool b => b == k
  | _ => false
def rCntB (K : PySem.W.Frag) : V → List V → Hp → VK → Prop := fun x xs H Q => ∃ (p : Addr) (bs : List Bool) (k : Bool), x = .ref p ∧ xs = [.bl k] ∧ SqL K H p (bs.map V.bl) ∧ Q (.int (bs.count k : Nat)) H
theorem bls_vals {k : Bool} : ∀ {bs : List Bool} {us : List Value}, Vals (bs.map V.bl) us → (∀ y ∈ us, ∃ b, y = Value.bool b) ∧ us.countP (isB k) = bs.count k
  | [], _, .nil => ⟨fun y h => (by cases h), rfl⟩
  | b :: bs, _, .cons r h => by
    obtain ⟨h1, h2⟩ := bls_vals (k := k) h
    cases r
    refine ⟨fun y hy => ?_, ?_⟩
    · rcases List.mem_cons.mp hy with e | e
      · exact ⟨b, e⟩
      · exact h1 y e
    · rw [List.countP_cons, List.count_cons, h2]
      rfl
theorem mt_lcountB {X : Cx} : MtR X "list.count" (rCntB X.K) := by
  intro pins s σ H x xs v us Q I rx rxs h
  obtain ⟨p, bs, k, rfl, rfl, hs, q⟩ := h
  cases rx
  obtain ⟨u, rfl, ru⟩ := rxs.one
  cases ru
  obtain ⟨its, rv, ⟨⟨cls, dd, data, sl⟩, n, ho, hc, hdn, hd⟩, hlen⟩ := I.list hs
  simp only at hc hd
  subst hc hd
  obtain ⟨h1, h2⟩ := bls_vals (k := k) rv
  refine call_meets PySem.F.slot_list_count ⟨_, ho, rfl⟩ PySem.F.entry_list_count (PySem.F.args_list_count_2 _ _) (SeqAt.list_countAt p its.toArray n dd sl (.bool k) (isB k)) ⟨ho, fun y hy => ?_, ?_⟩
  · obtain ⟨b, rfl⟩ := h1 y (by simpa using hy)
    exact SeqAt.EqAt.bool_bool b k
  · have e : its.toArray.toList.countP (isB k) = bs.count k := h2
    refine ⟨.int (bs.count k : Nat), H, I.tok _, ⟨s.toks, ?_⟩, q⟩
    rw [e]
section
variable {T : Cfg} {W : WX} {ρ : List (Option D)} {m0 : Mu} {XP : XW} {K : Out → Prop} {ta tb te te' : TE} {P : D → Mu → Prop} {u : TS} {μ : Mu}
/-- xs.count(k) of truths -/
theorem ev_cntB (h : EV T te W ⟨ρ, m0⟩ (fun d μ => ∃ bs, Seqd d (List.map D.bl bs) ∧ EV T te' W ⟨ρ, μ⟩ (fun e μ2 => ∃ k, e = .bl k ∧ P (.int (bs.count k : Nat)) μ2) XP) XP) : EV T (tBM T.K "list" (rCntB T.K) te (tCons te' tNil)) W ⟨ρ, m0⟩ P XP := fun σ Hb H Q S q x =>
  h σ Hb H _ S (fun d μ v Hb1 H1 g r p => by
    obtain ⟨bs, hd, p⟩ := p
    obtain ⟨a, xs, rfl, hx, r1⟩ := hd.inv r
    refine ⟨.inl ⟨rfl, xs, ex_l g.sub hx⟩, p σ Hb1 H1 _ (S.go g) (fun e μ2 w Hb2 H2 g2 r2 p2 => ?_) fun y μ2 cls dd Hb2 H2 g2 r2 p2 => x y μ2 cls dd Hb2 H2 (g.trans g2) r2 p2⟩
    obtain ⟨k, rfl, p2⟩ := p2
    cases r2
    obtain rfl := r1.bls
    exact ⟨a, bs, k, rfl, rfl, ex_l g2.sub (ex_l g2.ex hx), q _ _ _ _ _ (g.trans g2) (.int _) p2⟩) x
/-- a list told as it is -/
theorem sv_frz {i : Nat} {a : Addr} {ds : List D} (h : ρ[i]? = some (some (.ptr a))) (hm : m0 a = some (.lst ds)) (k : SV T u W ⟨ρ.set i (some (.lst ds)), del m0 a⟩ K) : SV T u W ⟨ρ, m0⟩ K := fun σ Hb H Dn S c => by
  obtain ⟨v, e, r⟩ := S.vars i _ h
  cases r
  obtain ⟨n, o, ho, r⟩ := S.mu a _ hm
  cases o with
  | lst xs =>
    have g := Go.freeze S.sub S.mu hm ho
    have S1 := S.go g
    refine k σ (upd Hb a (.lst xs)) H Dn ⟨by simpa using S1.len, fun j d ej => ?_, S1.sub, S1.mu⟩ (c.go g)
    by_cases hij : i = j
    · subst hij
      have hl : i < ρ.length := by
        rcases Nat.lt_or_ge i ρ.length with w | w
        · exact w
        · rw [List.getElem?_eq_none w] at h; cases h
      have ej : (ρ.set i (some (.lst ds)))[i]? = some (some d) := ej
      rw [List.getElem?_set_self hl] at ej
      cases ej
      exact ⟨_, e, .lst upd_same r.1 (RepL.mono g.ex r).2⟩
    · have ej : (ρ.set i (some (.lst ds)))[j]? = some (some d) := ej
      rw [List.getElem?_set_ne hij] at ej
      exact S1.vars j d ej
  | _ => exact r.elim
theorem ov_catM {ds es : List D} {a : Addr} (hm : μ a = some (.lst es)) (hl : ds.length + es.length ≤ 100000) (p : P (.lst (ds ++ es)) μ) : OV T rCat (.lst ds) (.ptr a) μ P := fun x y Hb H Q ex sm rx ry q => by
  obtain ⟨b, xs, rfl, hx, r⟩ := rx.lst_inv
  cases ry
  obtain ⟨n, o, ho, r'⟩ := sm a _ hm
  cases o with
  | lst ys =>
    refine ⟨b, a, xs, ys, rfl, rfl, ex _ _ hx, ho, by rw [← r.1, ← (show RepL T Hb es ys from r').1]; exact Evl.sz_of hl, fun p' hp => ?_⟩
    have g := Go.lay ex sm (o := .lst (xs ++ ys)) hp
    have r2 : RepL T Hb (ds ++ es) (xs ++ ys) := r.app r'
    exact q _ _ _ _ _ g (.lst upd_same r2.1 (r2.mono g.ex).2) p
  | _ => exact r'.elim
theorem rep_rep {Hb : Hp} {ds : List D} {xs : List V} (r : RepL T Hb ds xs) : ∀ k : Nat, RepL T Hb (List.replicate k ds).flatten (List.replicate k xs).flatten
  | 0 => .nil
  | k + 1 => by
    rw [List.replicate_succ, List.replicate_succ, List.flatten_cons, List.flatten_cons]
    exact r.app (rep_rep r k)
theorem ov_rep {ds : List D} {k : Nat} (h1 : k ≤ 100000) (hl : ds.length * k ≤ 100000) (p : P (.lst (List.replicate k ds).flatten) μ) : OV T rRep (.lst ds) (.int (k : Int)) μ P := fun x y Hb H Q ex sm rx ry q => by
  obtain ⟨b, xs, rfl, hx, r⟩ := rx.lst_inv
  cases ry
  refine ⟨b, (k : Int), xs, rfl, rfl, ex _ _ hx, by omega, ?_, by rw [← r.1]; exact Evl.sz_of (by simpa using hl), fun p' hp => ?_⟩
  · have : (2 : Int) ^ 63 = 9223372036854775808 := by decide
    rw [this]; omega
  · have g := Go.lay ex sm (o := .lst (List.replicate (k : Int).toNat xs).flatten) hp
    have r2 := rep_rep r k
    exact q _ _ _ _ _ g (.lst upd_same r2.1 (r2.mono g.ex).2) p
theorem rev_rep {Hb : Hp} : ∀ {ds : List D} {xs : List V}, RepL T Hb ds xs → RepL T Hb ds.reverse xs.reverse
  | [], xs, r => by
    obtain rfl := r.nil_inv
    exact .nil
  | d :: ds, xs, r => by
    obtain ⟨v, ys, rfl, r1, r2⟩ := r.cons_inv
    rw [List.reverse_cons, List.reverse_cons]
    exact (rev_rep r2).app (.cons r1 .nil)
theorem ev_revL (h : EV T te W ⟨ρ, m0⟩ (fun d μ => ∃ ds, Seqd d ds ∧ P (.lst ds.reverse) μ) XP) : EV T (tRevL T.K te) W ⟨ρ, m0⟩ P XP := fun σ Hb H Q S q x =>
  h σ Hb H _ S (fun d μ v Hb1 H1 g r p => by
    obtain ⟨ds, hd, p⟩ := p
    obtain ⟨a, xs, rfl, hx, r1⟩ := hd.inv r
    refine ⟨a, xs, rfl, ex_l g.sub hx, fun p' hp => ?_⟩
    have g2 := Go.lay g.sub g.mu (o := .lst xs.reverse) hp
    have r2 := rev_rep r1
    exact q _ _ _ _ _ (g.trans g2) (.lst upd_same r2.1 (r2.mono g2.ex).2) p) x
theorem gv_lst {n : Nat} {gs : TGs} {is : List Nat} {d : D} {ds : List D} {s : S} {K : S → Prop} (hd : Seqd d ds) (hn : ds.length = n) (h : GVs T gs is ds s K) : GV T (gLst T.K n gs) is d s K := fun x σ Hb H Kt S r q => by
  obtain ⟨a, xs, rfl, hx, r⟩ := hd.inv r
  exact ⟨a, xs, rfl, ex_l S.sub hx, by rw [← r.1]; exact hn, h xs σ Hb H Kt S r q⟩
/-- threes out of lists -/
theorem sv_for3L {i j l : Nat} (h : EV T te W ⟨ρ, m0⟩ (fun d μ => ∃ ds ρ' J, Seqd d ds ∧ leR ρ' ρ ∧ J 0 μ ∧ (∀ n e μ', ds[n]? = some e → J n μ' → ∃ x y z, Seqd e [x, y, z] ∧ SV T u W ⟨((ρ'.set i (some x)).set j (some y)).set l (some z), μ'⟩ (forK (InvR ρ' J) n K)) ∧ ∀ s', leR ρ' s'.r → J ds.length s'.m → K (.nx s')) (xk ⟨ρ, m0⟩ K)) : SV T (tFor (iList T.K te) (gLst T.K 3 (gCons (gName i) (gCons (gName j) (gCons (gName l) gNil)))) u) W ⟨ρ, m0⟩ K :=
  sv_for (iv_list (h.imp fun d μ ⟨ds, ρ', J, hs, hr, j0, turn, done⟩ => ⟨ds, hs, InvR ρ' J, ⟨hr, j0⟩, fun n s' hn hi => by
    obtain ⟨x, y, z, e, k⟩ := turn n _ s'.m (nth_get hn) hi.2
    exact gv_lst e rfl (gvs_cons (gv_name (gvs_cons (gv_name (gvs_cons (gv_name (gvs_nil (sv_wk (((hi.1.set i _).set j _).set l _) sub_refl k)))))))), fun s' hi => done s' hi.1 hi.2⟩))
end
end Pw

namespace Pw
open PySem PySem.Spec PyProof.Rows L2
open Evl (ex_l ex_t)
/-! ### making an object, the wish going with the slots -/
def tMakeS (C : Addr) (sp : Sp) (dvs : List V) (E : L2.St → XK) (t : TA) : TE := fun σ H Q => tMake C sp dvs (E σ) t σ H Q
section
variable {X : Cx} {CX : CXT} {k : Nat} {f C : Addr} {fd : FuncData} {ps : List Str} {sp : Sp} {dvs : List V} {ds : List Value} {E : L2.St → XK} {x : Str} {p pos : Pos} {e : Expr} {es : List Expr} {t : TA}
theorem made_at {pins : List (Addr × Obj)} {σ : L2.St} {H : Hp} {s : Shared} {Q : VK} {us : List Value} {vs : List V} {G : XK}
    (M : Mk X.K C f) (F : FnOk X.prog X.w X.K X.mg X.base CX k f fd ps sp) (hr : Room (k + 1) X.A) (hb : Binds X.K fd ps ds) (hd : Vals dvs ds)
    (hx : PassesAt CX X σ G) (I : Inv X pins σ H s) (r : Vals vs us)
    (h : ∀ y dy, H y = none → H dy = none → dy ≠ y → sp (.ref y :: (vs ++ dvs)) (upd (upd H dy (.own y)) y (.ins C dy [])) (fun v H2 => v = .non ∧ Q (.ref y) H2) G) :
    wpAny (model X.prog X.w) X.A (call (.ref C) us) (EP X pins σ Q) X.xe s := by
  let n : Nat := s.heap.objs.size
  have g := h (n + 1) n (I.hok.fresh (Nat.le_succ n)) (I.hok.fresh (Nat.le_refl n)) (Nat.ne_of_lt (Nat.lt_succ_self n))
  have J := Inv.made (C := C) I
  have rr : Vals (V.ref (n + 1) :: (vs ++ dvs)) (Value.ref (n + 1) :: (us ++ ds)) := .cons rfl (r.append hd)
  have len : (Value.ref (n + 1) :: us ++ ds).length = ps.length := (rr.length.symm.trans (F.len _ _ _ _ g))
  have body := F.run _ X.stack _ _ ⟨Value.ref (n + 1) :: us, []⟩ (Value.ref (n + 1) :: (us ++ ds)) _ _ G (hr.make C us []) (J.env0.make C us []) (hb _ (Value.ref (n + 1) :: us) J.kIn len) rr g
  refine wpAny_call (make_map (f := f) I.kIn M.makes M.init (beq_iff_eq.mp M.fn) (codeAny_mono body fun r' s' hq => ?_))
  match r', hq with
  | .error w, hq => exact hx pins _ _ w s' J hq
  | .ok (.ret u), hq =>
    obtain ⟨v, H', I3, rv, ev, q3⟩ := J.after hq
    subst ev
    exact ⟨rv, V.ref (n + 1), H', I3, rfl, q3⟩
  | .ok .next, hq => exact hq.elim
  | .ok .brk, hq => exact hq.elim
  | .ok .cont, hq => exact hq.elim
theorem pe_makeS (M : Mk X.K C f) (F : FnOk X.prog X.w X.K X.mg X.base CX k f fd ps sp) (hr : Room (k + 1) X.A) (hg : Gl X x) (hm : X.mg x = some (.ref C)) (hb : Binds X.K fd ps ds) (hd : Vals dvs ds) (hx : ∀ σ, PassesAt CX X σ (E σ))
    (ha : PA X (e :: es) t) (hdb : (x == ("__debug__" : Str)) = false := by decide) (he : starEach (e :: es) X.env = (false, eval e X.env) :: starEach es X.env := by rfl) (hpl : (backTo pos (starEach es X.env)).any (·.1) = false := by rfl) :
    PE X (.Call (.Name x p) (e :: es) [] pos) (tMakeS C sp dvs E t) :=
  ⟨fun pins s σ H Q I h => wpAny_Call_Name_kw (ld_glob I hg hm (PySem.W.callWith_K (h₀ := X.base) I.ok.mod.kin M.kp (thn (ha.run pos pins s σ H _ I h) fun us s1 ⟨vs, H1, I1, r, q⟩ => ⟨I1.kIn, made_at M F hr hb hd (hx σ) I1 r q⟩) he hpl) hdb)⟩
end
section
variable {T : Cfg} {W : WX} {ρ : List (Option D)} {m0 : Mu} {XP : XW} {K : Out → Prop} {ta : TA} {te te' : TE} {P : D → Mu → Prop} {u : TS} {μ : Mu}
theorem ev_calS {c : List D → (D → Prop) → (XD → Prop) → Prop} (h : EA T ta W ⟨ρ, m0⟩ (fun ds μ => c ds (fun d => P d μ) (fun x => XP x μ)) XP) : EV T (tCallS (spOf T (pu c)) (WE W) ta) W ⟨ρ, m0⟩ P XP := fun σ Hb H Q S q x =>
  h σ Hb H _ S (fun ds μ vs Hb1 H1 g r p => by
    refine ⟨ds, mu0, Hb1, fun d μ' => μ' = mu0 ∧ P d μ, fun y μ' => μ' = mu0 ∧ XP y μ, g.sub, SimMu.nil, r, ⟨rfl, _, _, p, fun d k => ⟨rfl, k⟩, fun y k => ⟨rfl, k⟩⟩, fun d μ' v Hb' H' g' r' k => ?_, fun y μ' cls dd Hb' H' g' r' k => ?_⟩
    · obtain ⟨rfl, k⟩ := k
      have g'' := g'.widen sub_nil g.mu
      rw [mrg_nil] at g''
      exact q _ _ _ _ _ (g.trans g'') r' k
    · obtain ⟨rfl, k⟩ := k
      have g'' := g'.widen sub_nil g.mu
      rw [mrg_nil] at g''
      exact x _ _ _ _ _ _ (g.trans g'') r' k) x
theorem ev_makS {k : Nat} {dvs : List V} {dds : List D} {c : List D → (List (Str × D) → Prop) → (XD → Prop) → Prop} (hd : ∀ Hb, RepL T Hb dds dvs)
    (h : EA T ta (fun _ _ _ _ => False) ⟨ρ, m0⟩ (fun ds μ => c (ds ++ dds) (fun fs => P (.ins k fs) μ) (fun x => XP x μ)) (fun _ _ => False)) : EV T (tMakeS (T.cls k) (spOf T (ini k c)) dvs (WE W) ta) W ⟨ρ, m0⟩ P XP := fun σ Hb H Q S q x =>
  ev_make (W := fun cls dd _ H => W cls dd σ H) (E := WE W σ) (fun _ _ _ _ w => w) hd (fun σ2 Hb2 H2 Q2 S2 q2 _ => h σ2 Hb2 H2 Q2 S2 q2 fun _ _ _ _ _ _ _ _ k => k.elim) σ Hb H Q S q x
theorem ev_makS0 {k : Nat} {c : List D → (List (Str × D) → Prop) → (XD → Prop) → Prop}
    (h : EA T ta (fun _ _ _ _ => False) ⟨ρ, m0⟩ (fun ds μ => c ds (fun fs => P (.ins k fs) μ) (fun x => XP x μ)) (fun _ _ => False)) : EV T (tMakeS (T.cls k) (spOf T (ini k c)) [] (WE W) ta) W ⟨ρ, m0⟩ P XP :=
  ev_makS (dds := []) (fun _ => RepL.nil) (by simpa using h)
theorem ev_makS1 {k : Nat} {i : Int} {c : List D → (List (Str × D) → Prop) → (XD → Prop) → Prop}
    (h : EA T ta (fun _ _ _ _ => False) ⟨ρ, m0⟩ (fun ds μ => c (ds ++ [.int i]) (fun fs => P (.ins k fs) μ) (fun x => XP x μ)) (fun _ _ => False)) : EV T (tMakeS (T.cls k) (spOf T (ini k c)) [.int i] (WE W) ta) W ⟨ρ, m0⟩ P XP :=
  ev_makS (dds := [.int i]) (fun _ => .cons (.int i) .nil) h
/-- {} -/
theorem ev_dnew (p : P (.dic []) m0) : EV T tDNewK W ⟨ρ, m0⟩ P XP := fun σ Hb H Q S q x p' hp => by
  have g := Go.lay S.sub S.mu (o := .dK []) hp
  exact q _ _ _ _ _ g (.dic upd_same rfl (fun i a b e => by simp at e)) p
/-! ### try .. except C as e -/
def tTryAs (K : PySem.W.Frag) (c : Value) (i : Nat) (tb : WX → TS) (ts : Addr → Value → Option Addr → TS) : TS := fun D σ H => tb (wAs K c i ts (fun _ _ _ _ => False) D) D σ H
def unK (i : Nat) (K : Out → Prop) : Out → Prop
  | .nx s => K (.nx ⟨s.r.set i none, s.m⟩)
  | .bk s => K (.bk ⟨s.r.set i none, s.m⟩)
  | .ct s => K (.ct ⟨s.r.set i none, s.m⟩)
  | .rt d m => K (.rt d m)
  | .xr _ _ => False
def tryK (T : Cfg) (c : Value) (i : Nat) (ts : Addr → Value → Option Addr → TS) (K : Out → Prop) : Out → Prop
  | .xr x s' => PySem.W.exmOne T.K x.cls c = some true ∧ ∀ a d, (x.val = none → d = none) → SV T (ts a x.cls d) (fun _ _ _ _ => False) ⟨s'.r.set i (some (.ptr a)), s'.m⟩ (unK i K)
  | o => K o
theorem sv_tryAs {tb : WX → TS} {ts : Addr → Value → Option Addr → TS} {c : Value} {i : Nat} (h : ∀ W', SV T (tb W') W' ⟨ρ, m0⟩ (tryK T c i ts K)) : SV T (tTryAs T.K c i tb ts) W ⟨ρ, m0⟩ K := fun σ Hb H Dn S cn => by
  refine h _ σ Hb H Dn S ⟨cn.nx, cn.rt, cn.bk, cn.ct, fun x s' cls dd σ' Hb' H' g S' r k => ?_⟩
  obtain ⟨e1, e2⟩ := k
  obtain ⟨rfl, hv⟩ := r
  refine ⟨true, e1, fun _ a ha => ?_, fun z => nomatch z⟩
  have hd : x.val = none → dd = none := fun e => by rw [e] at hv; exact hv
  refine e2 a dd hd (σ'.set i (some (.ref a))) Hb' H' _ (S'.set i (.ptr a)) ⟨?_, ?_, ?_, ?_, ?_⟩
  · exact fun s2 σ2 Hb2 H2 g2 S2 k2 => cn.nx ⟨s2.r.set i none, s2.m⟩ _ Hb2 H2 (g.trans g2) (S2.unset i) k2
  · exact fun d μ' v Hb2 H2 g2 r2 k2 => cn.rt d μ' v Hb2 H2 (g.trans g2) r2 k2
  · exact fun s2 σ2 Hb2 H2 g2 S2 k2 => cn.bk ⟨s2.r.set i none, s2.m⟩ _ Hb2 H2 (g.trans g2) (S2.unset i) k2
  · exact fun s2 σ2 Hb2 H2 g2 S2 k2 => cn.ct ⟨s2.r.set i none, s2.m⟩ _ Hb2 H2 (g.trans g2) (S2.unset i) k2
  · exact fun _ _ _ _ _ _ _ _ _ _ k2 => k2
theorem tryK_nx {c : Value} {i : Nat} {ts : Addr → Value → Option Addr → TS} {s' : S} (h : K (.nx s')) : tryK T c i ts K (.nx s') := h
theorem tryK_rt {c : Value} {i : Nat} {ts : Addr → Value → Option Addr → TS} {d : D} {m : Mu} (h : K (.rt d m)) : tryK T c i ts K (.rt d m) := h
theorem tryK_xr {c : Value} {i : Nat} {ts : Addr → Value → Option Addr → TS} {x : XD} {s' : S} (e : PySem.W.exmOne T.K x.cls c = some true) (h : ∀ a d, (x.val = none → d = none) → SV T (ts a x.cls d) (fun _ _ _ _ => False) ⟨s'.r.set i (some (.ptr a)), s'.m⟩ (unK i K)) : tryK T c i ts K (.xr x s') := ⟨e, h⟩
theorem unK_rt {i : Nat} {d : D} {m : Mu} (h : K (.rt d m)) : unK i K (.rt d m) := h
theorem unK_nx {i : Nat} {s' : S} (h : K (.nx ⟨s'.r.set i none, s'.m⟩)) : unK i K (.nx s') := h
/-! the suite: an exception of an own class, without a value -/
def tExc (K : PySem.W.Frag) (cls : Value) (d : Option Addr) (t : Addr → TS) : TS := fun Dn σ H => ∃ C, cls = .ref C ∧ d = none ∧ ExcC K C ∧ t C Dn σ H
theorem pss_exc {X : Cx} {b : List Stmt} {cls : Value} {d : Option Addr} {t : Addr → TS} (h : ∀ C, cls = .ref C → d = none → ExcC X.K C → PSs X b (t C)) : PSs X b (tExc X.K cls d t) :=
  ⟨fun pins s σ H Dn I ⟨C, e1, e2, e3, q⟩ => (h C e1 e2 e3).run pins s σ H Dn I q⟩
theorem sv_exc {C : Addr} {t : Addr → TS} {s : S} (hC : ExcC T.K C) (h : SV T (t C) W s K) : SV T (tExc T.K (.ref C) none t) W s K := fun σ Hb H Dn S c => ⟨C, rfl, rfl, hC, h σ Hb H Dn S c⟩
/-- isinstance(e, (A, ..)) of the exception that the suite holds -/
def rIsET (K : PySem.W.Frag) (C a : Addr) : List V → Hp → VK → Prop := fun xs H Q => ∃ (tp : Addr) (cs : List V) (us : List Value) (b : Bool), xs = [.ref a, .ref tp] ∧ SqT K H tp cs ∧ Paired ClsV cs us ∧ PySem.W.kitAny K (.ref C) us = some b ∧ Q (.bl b) H
theorem call_isET {X : Cx} {a C : Addr} {oe : Obj} {pn : List (Addr × Obj)} (hC : ExcC X.K C) (hz : Zc (.ref C) none oe) (hf : ∃ vs, oe.data = .fields vs) : CallR (X.suite a ((a, oe) :: pn)) (.builtin "isinstance") (rIsET X.K C a) := by
  intro pins s σ H xs us Q I r h
  obtain ⟨tp, cs, ws, b, rfl, hT, k, e, q⟩ := h
  obtain ⟨u1, u2, rfl, r1, r2⟩ := vals2 r
  cases (show u1 = Value.ref a from r1)
  cases (show u2 = Value.ref tp from r2)
  obtain ⟨its, rv, ⟨⟨oc, od, dt, sl⟩, h1, h2, n, h3⟩, _⟩ := I.tuple hT
  have e3 := ClsV.all k rv
  subst e3
  dsimp only at h2 h3
  subst h2 h3
  have hget := (I.pin (a, oe) (List.mem_append.mpr (.inl List.mem_cons_self))).1
  obtain ⟨vs, hv⟩ := hf
  have J : PySem.W.InstAt s.heap a oe C none := by
    obtain ⟨c1, c2, c3, c4⟩ := oe
    obtain ⟨z1, z2⟩ := hz
    dsimp only at z1 z2 hv
    subst z1 z2 hv
    exact ⟨hget, rfl, rfl, trivial⟩
  exact PySem.W.kia_tup (PySem.W.handS_kitx_exc hC.hg hC.hk hC.hs hC.hd hC.ha hC.hn hC.ht hC.hm) I.kIn J h1 e (fun z => nomatch z) fun tk => ⟨.bl b, H, I.kept (t' := tk) fun _ _ z => z, rfl, q⟩
theorem cv_isE {C a B : Addr} {b : Bool} (hk : PySem.W.kitOne T.K (.ref C) (.ref B) = some b) (p : P (.bl b) μ) : CV T (rIsE T.K C a) [.ptr a, .ptr B] μ P := cv_of (fun xs Hb H Q ex r q => by
  obtain ⟨v, w, rfl, r1, r2⟩ := two_inv r
  cases r1; cases r2
  exact ⟨_, .ref B, b, rfl, fun u hu => hu, hk, q _ (.bl _)⟩) p
theorem cv_isEt {C a : Addr} {n : String} {b : Bool} (hk : PySem.W.kitOne T.K (.ref C) (.type n) = some b) (p : P (.bl b) μ) : CV T (rIsE T.K C a) [.ptr a, .ty n] μ P := cv_of (fun xs Hb H Q ex r q => by
  obtain ⟨v, w, rfl, r1, r2⟩ := two_inv r
  cases r1; cases r2
  exact ⟨_, .type n, b, rfl, fun u hu => hu, hk, q _ (.bl _)⟩) p
theorem own_pair {Hb : Hp} : ∀ {Bs : List Addr} {xs : List V}, RepL T Hb (Bs.map D.ptr) xs → Paired ClsV xs (Bs.map Value.ref)
  | [], xs, r => by
    obtain rfl := r.nil_inv
    exact .nil
  | B :: Bs, xs, r => by
    obtain ⟨v, ys, rfl, r1, r2⟩ := r.cons_inv
    cases r1
    exact .cons (.own B) (own_pair r2)
theorem cv_isET {C a : Addr} {Bs : List Addr} {b : Bool} (hk : PySem.W.kitAny T.K (.ref C) (Bs.map Value.ref) = some b) (p : P (.bl b) μ) : CV T (rIsET T.K C a) [.ptr a, .tup (Bs.map D.ptr)] μ P := cv_of (fun xs Hb H Q ex r q => by
  obtain ⟨v, w, rfl, r1, r2⟩ := two_inv r
  cases r1
  obtain ⟨tp, ys, rfl, hx, r3⟩ := r2.tup_inv
  exact ⟨tp, ys, _, b, rfl, ex_t ex hx, own_pair r3, hk, q _ (.bl _)⟩) p
end
end Pw

namespace Pw
open PySem PySem.Spec PyProof.Rows L2
open Evl (ex_l ex_t)
def rInC : R2 := fun x y H Q => ∃ (c : Nat) (z : Str), x = .str ⟨#[c]⟩ ∧ y = .str z ∧ Q (.bl (decide (c ∈ z.cps.toList))) H
section
variable {T : Cfg} {W : WX} {ρ : List (Option D)} {m0 : Mu} {XP : XW} {K : Out → Prop} {ta tb tc te te' : TE} {P : D → Mu → Prop} {u : TS} {μ : Mu}
/-- a < b < c -/
theorem ev_chain {r r' : R2} (h : EV T ta W ⟨ρ, m0⟩ (fun d μ1 => EV T tb W ⟨ρ, μ1⟩ (fun e μ2 => OV T r d e μ2 (fun z μ3 => ∃ k, z = .bl k ∧ (k = true → EV T tc W ⟨ρ, μ3⟩ (fun f μ4 => OV T r' e f μ4 P) XP) ∧ (k = false → P (.bl false) μ3))) XP) XP) : EV T (tChain r r' ta tb tc) W ⟨ρ, m0⟩ P XP := fun σ Hb H Q S q x =>
  h σ Hb H _ S (fun d μ1 v Hb1 H1 g1 r1 p1 => p1 σ Hb1 H1 _ (S.go g1) (fun e μ2 w Hb2 H2 g2 r2 p2 =>
    p2 v w Hb2 H2 _ g2.sub g2.mu (r1.mono g2.ex) r2 fun z μ3 z' Hb3 H3 g3 r3 p3 => by
      obtain ⟨k, rfl, pt, pf⟩ := p3
      cases r3
      refine ⟨k, rfl, ?_⟩
      have g13 := (g1.trans g2).trans g3
      cases k with
      | false => exact q _ _ _ _ _ g13 (.bl false) (pf rfl)
      | true =>
        refine pt rfl σ Hb3 H3 _ (S.go g13) (fun f μ4 w4 Hb4 H4 g4 r4 p4 => ?_) (fun y μ' cls dd Hb' H' g r p => x y μ' cls dd Hb' H' (g13.trans g) r p)
        exact p4 w w4 Hb4 H4 Q g4.sub g4.mu ((r2.mono g3.ex).mono g4.ex) r4 fun z5 μ5 u5 Hb5 H5 g5 r5 p5 => q z5 μ5 u5 Hb5 H5 ((g13.trans g4).trans g5) r5 p5)
    (fun y μ' cls dd Hb' H' g r p => x y μ' cls dd Hb' H' (g1.trans g) r p)) x
theorem ov_inC {c : Nat} {z : Str} (p : P (.bl (decide (c ∈ z.cps.toList))) μ) : OV T rInC (.str ⟨#[c]⟩) (.str z) μ P := ov_of (fun x y Hb H Q ex rx ry q => by
  cases rx; cases ry
  exact ⟨c, z, rfl, rfl, q _ (.bl _)⟩) p
theorem ov_ixS {z : Str} {i : Int} {c : Nat} (hz : z.length ≤ 100000) (h : atI z.cps.toList i = some c) (p : P (.str ⟨#[c]⟩) μ) : OV T rIxS (.str z) (.int i) μ P := ov_of (fun x y Hb H Q ex rx ry q => by
  cases rx; cases ry
  exact ⟨z, i, c, rfl, rfl, Evl.sz_of hz, h, q _ (.str _)⟩) p
theorem ev_slS {tl th : TO} (h : EV T te W ⟨ρ, m0⟩ (fun d μ1 => OV' T tl W ⟨ρ, μ1⟩ (fun lo μ2 => OV' T th W ⟨ρ, μ2⟩ (fun hi μ3 => ∃ z : Str, d = .str z ∧ z.length ≤ 100000 ∧ P (.str (cutS z lo hi)) μ3) XP) XP) XP) : EV T (tSl rSlS te tl th) W ⟨ρ, m0⟩ P XP := fun σ Hb H Q S q x =>
  h σ Hb H _ S (fun d μ1 v Hb1 H1 g1 r1 p1 => p1 σ Hb1 H1 _ (S.go g1) (fun lo μ2 Hb2 H2 g2 p2 => p2 σ Hb2 H2 _ (S.go (g1.trans g2)) (fun hi μ3 Hb3 H3 g3 p3 => by
    obtain ⟨z, rfl, hz, p⟩ := p3
    cases r1
    exact ⟨z, rfl, Evl.sz_of hz, q _ _ _ _ _ ((g1.trans g2).trans g3) (.str _) p⟩)
    (fun y μ' cls dd Hb' H' g r p => x y μ' cls dd Hb' H' ((g1.trans g2).trans g) r p)) (fun y μ' cls dd Hb' H' g r p => x y μ' cls dd Hb' H' (g1.trans g) r p)) x
/-- for c in text -/
theorem sv_forS {i : Nat} (h : EV T te W ⟨ρ, m0⟩ (fun d μ => ∃ (z : Str) (ρ' : Nat → List (Option D)) (J : Nat → Mu → Prop), d = .str z ∧ leR (ρ' 0) ρ ∧ J 0 μ ∧ (∀ n c μ', z.cps.toList[n]? = some c → J n μ' → SV T u W ⟨(ρ' n).set i (some (.str ⟨#[c]⟩)), μ'⟩ (forK (InvI ρ' J) n K)) ∧ ∀ s', leR (ρ' z.cps.size) s'.r → J z.cps.size s'.m → K (.nx s')) (xk ⟨ρ, m0⟩ K)) : SV T (tFor (iStr te) (gName i) u) W ⟨ρ, m0⟩ K :=
  sv_for (is := [i]) (iv_str (h.imp fun d μ ⟨z, ρ', J, e, hr, j0, turn, done⟩ => ⟨z, e, InvI ρ' J, ⟨hr, j0⟩, fun n s' hn hi => by
    have hc : z.cps.toList[n]? = some (z.cps.getD n 0) := by
      rw [Array.getElem?_toList, Array.getD_eq_getD_getElem?, Array.getElem?_eq_getElem hn]
      rfl
    exact gv_name (sv_wk (hi.1.set i _) sub_refl (turn n _ s'.m hc hi.2)), fun s' hi => done s' hi.1 hi.2⟩))
/-- loops whose slots hold what was found -/
abbrev InvE {X : Type} (R : X → List (Option D)) (J : Nat → X → Mu → Prop) : Nat → S → Prop := fun n s => ∃ x, leR (R x) s.r ∧ J n x s.m
theorem sv_forRgE {X : Type} (R : X → List (Option D)) (J : Nat → X → Mu → Prop) {i : Nat} {ta : TA} (h : EA T ta W ⟨ρ, m0⟩ (fun ds μ => ∃ (n : Int) (x0 : X), ds = [.int n] ∧ n ≤ 1000000 ∧ -1000000 ≤ n ∧ leR (R x0) ρ ∧ J 0 x0 μ ∧ (∀ (k : Nat) x μ', k < n.toNat → J k x μ' → SV T u W ⟨(R x).set i (some (.int k)), μ'⟩ (forK (InvE R J) k K)) ∧ ∀ s' x, leR (R x) s'.r → J n.toNat x s'.m → K (.nx s')) (xk ⟨ρ, m0⟩ K)) : SV T (tFor (iRng1 ta) (gName i) u) W ⟨ρ, m0⟩ K :=
  sv_for (is := [i]) (iv_rng1 (fun σ Hb H Q S q x => h σ Hb H Q S (fun ds μ vs Hb' H' g r ⟨n, x0, e, h1, h2, hr, j0, turn, done⟩ => q ds μ vs Hb' H' g r ⟨n, e, h1, h2, InvE R J, ⟨x0, hr, j0⟩, fun k s' hk ⟨y, hy, hj⟩ => by
    have e0 : (0 : Int) + (k : Nat) = (k : Int) := by omega
    show GV T (gName i) [i] (.int (0 + (k : Nat))) s' _
    rw [e0]
    exact gv_name (sv_wk (hy.set i _) sub_refl (turn k y s'.m hk hj)), fun s' ⟨y, hy, hj⟩ => done s' y hy hj⟩) x))
/-- [f(c) for c in text] of truths -/
theorem ev_lcSB {i : Nat} {f : Nat → Bool} (h : EV T te W ⟨ρ, m0⟩ (fun d μ => ∃ z : Str, d = .str z ∧ z.cps.size ≤ 100000 ∧ (∀ c ∈ z.cps.toList, EV T te' (fun _ _ _ _ => False) ⟨(wipeD ρ [i]).set i (some (.str ⟨#[c]⟩)), μ⟩ (fun x μ' => x = .bl (f c) ∧ μ' = μ) (fun _ _ => False)) ∧ P (.lst ((z.cps.toList.map f).map D.bl)) μ) XP) : EV T (tLc (iStr te) (gName i) tYes te' [i]) W ⟨ρ, m0⟩ P XP :=
  ev_lc (is := [i]) (fun _ h => h) (iv_str (h.imp fun d μ ⟨z, e, hl, turn, done⟩ => ⟨z, e, hl, fun n acc μ' => μ' = μ ∧ acc = ((z.cps.toList.take n).map f).map D.bl, ⟨rfl, by simp⟩, fun n acc μ' hn _ ⟨e1, e2⟩ => by
    subst e1 e2
    have hc : z.cps.toList[n]? = some (z.cps.getD n 0) := by
      rw [Array.getElem?_toList, Array.getD_eq_getD_getElem?, Array.getElem?_eq_getElem hn]
      rfl
    refine gv_name (tv_yes ⟨fun _ => ?_, fun e => (nomatch e)⟩)
    refine (turn _ (List.mem_of_getElem? hc)).imp fun x μ2 ⟨e1, e2⟩ => ⟨e2, ?_⟩
    rw [e1, List.take_succ, hc]
    simp, fun acc μ' ⟨e1, e2⟩ => by
    subst e1 e2
    have : z.cps.toList.take z.cps.size = z.cps.toList := by rw [← Array.length_toList, List.take_length]
    rw [this]
    exact done⟩))
end
end Pw

namespace Pw
open PySem PySem.Spec PyProof.Rows L2
open Evl (ex_l ex_t)
/-! ### a list that is not empty, beside [] -/
def rEqNil (K : PySem.W.Frag) : R2 := fun x y H Q => ∃ a b xs, x = .ref a ∧ y = .ref b ∧ SqL K H a xs ∧ SqL K H b [] ∧ xs ≠ [] ∧ Q (.bl false) H
theorem op_eqNil {X : Cx} (hu : X.A.units + 64 < cLine) : OpR X (compareOp .Eq) (rEqNil X.K) := by
  intro pins s σ H x y v u Q I rx ry h
  obtain ⟨a, b, xs, rfl, rfl, ha, hb, hne, q⟩ := h
  cases rx; cases ry
  obtain ⟨its, r, pl, _⟩ := I.list ha
  obtain ⟨its2, r2, pl2, _⟩ := I.list hb
  have l1 := r.length
  have l2 := r2.length
  have h0 : 0 < xs.length := by cases xs with
    | nil => exact absurd rfl hne
    | cons _ _ => simp
  have hs : (its.toArray.size != its2.toArray.size) = true := by
    have z : its2.length = 0 := by simpa using l2.symm
    rw [List.size_toArray, List.size_toArray, z, ← l1]
    simp only [bne_iff_ne, ne_eq]
    omega
  exact SeqAt.eq_list_lengthsAt pl.isList pl2.isList hs (by omega) ⟨.bl false, H, I, rfl, q⟩
/-! ### max(xs, default=d) of whole numbers -/
def maxO (d : Int) : List Int → Int
  | [] => d
  | n :: ns => ns.foldl max n
def rMaxDef (K : PySem.W.Frag) : List V → List V → Hp → VK → Prop := fun vs zs H Q => ∃ (a : Addr) (ns : List Int) (d : Int), vs = [.ref a] ∧ zs = [.int d] ∧ SqL K H a (ns.map V.int) ∧ Q (.int (maxO d ns)) H
theorem dp_ints {K : PySem.W.Frag} {H : Hp} : ∀ ns : List Int, DpAll K H (ns.map V.int) (ns.map PyData.int)
  | [] => .nil
  | n :: ns => .cons (.int n) (dp_ints ns)
theorem dep_ints : ∀ ns : List Int, PyData.depthAll (ns.map PyData.int) = 0
  | [] => by simp [PyData.depthAll]
  | n :: ns => by
    have := dep_ints ns
    simp [PyData.depthAll, PyData.depth, this]
theorem cr_maxDef {X : Cx} (hc : X.calm = true) (hu : X.A.units + 64 < cLine) : CallRK X (.builtin "max") [("default" : Str)] (rMaxDef X.K) := by
  intro pins s σ H xs zs us ws Q I r rz h
  obtain ⟨a, ns, d, rfl, rfl, hs, q⟩ := h
  rw [Vals.ref1 r]
  obtain ⟨w, rfl, rw1⟩ := rz.one
  obtain ⟨tk0, rfl⟩ := rw1
  obtain ⟨its, rv, pl, _⟩ := I.list hs
  obtain ⟨as, rd⟩ := Dp.readsAll I (ns.map PyData.int) _ its (dp_ints ns) rv
  have hdep := dep_ints ns
  refine PySem.W.max_list_default (d := .int d tk0) (I.ok.hd hc) pl.isList (xs := ns.map PyData.int) (as := as) (by simpa using rd) ?_ (by rw [hdep]; omega) (fun h0 h' tk hk => ?_) (fun y ys i v h' tk bs e hv hr hk => ?_)
  · refine ⟨fun x hx y hy => ?_, fun x hx => ?_⟩
    · obtain ⟨i, _, rfl⟩ := List.mem_map.1 hx
      obtain ⟨j, _, rfl⟩ := List.mem_map.1 hy
      simp [PySem.W.alike]
    · obtain ⟨i, _, rfl⟩ := List.mem_map.1 hx
      intro e
      cases e
  · have e : ns = [] := by simpa using h0
    subst e
    exact ⟨.int d, H, I.kept hk, ⟨_, rfl⟩, q⟩
  · cases ns with
    | nil => cases e
    | cons n ns =>
      have e' : PyData.int n = y ∧ ns.map PyData.int = ys := by simpa using e
      obtain ⟨rfl, rfl⟩ := e'
      rw [PySem.W.maxD_ints] at hr
      cases hr
      exact ⟨.int (ns.foldl max n), H, I.kept hk, ⟨_, rfl⟩, q⟩
section
variable {T : Cfg} {W : WX} {ρ : List (Option D)} {m0 : Mu} {XP : XW} {K : Out → Prop} {ta tb tc te te' : TE} {P : D → Mu → Prop} {u : TS} {μ : Mu}
theorem ov_eqNil {d : D} {ds : List D} (hd : Seqd d ds) (hne : ds ≠ []) (p : P (.bl false) μ) : OV T (rEqNil T.K) d (.lst []) μ P := ov_of (fun x y Hb H Q ex rx ry q => by
  obtain ⟨a, xs, rfl, hx, r⟩ := hd.inv rx
  obtain ⟨b, ys, rfl, hy, r'⟩ := Seqd.inv (ds := []) (.inl rfl) ry
  obtain rfl := r'.nil_inv
  refine ⟨a, b, xs, rfl, rfl, ex_l ex hx, ex_l ex hy, fun e => ?_, q _ (.bl _)⟩
  subst e
  have := r.1
  exact hne (List.eq_nil_of_length_eq_zero (by simpa using this))) p
theorem ev_maxDef {ta tk : TA} (h : EA T ta W ⟨ρ, m0⟩ (fun ds μ => ∃ x ns, ds = [x] ∧ Seqd x (List.map D.int ns) ∧ EA T tk W ⟨ρ, μ⟩ (fun es μ2 => ∃ d : Int, es = [.int d] ∧ P (.int (maxO d ns)) μ2) XP) XP) : EV T (tCKw (rMaxDef T.K) ta tk) W ⟨ρ, m0⟩ P XP := fun σ Hb H Q S q x =>
  h σ Hb H _ S (fun ds μ vs Hb1 H1 g r p => by
    obtain ⟨y, ns, rfl, hy, p⟩ := p
    obtain ⟨v, ys, rfl, r1, r⟩ := r.cons_inv
    obtain rfl := r.nil_inv
    obtain ⟨a, xs, rfl, hx, r1⟩ := hy.inv r1
    obtain rfl := r1.ints
    refine p σ Hb1 H1 _ (S.go g) (fun es μ2 ws Hb2 H2 g2 r2 p2 => ?_) fun y μ' cls dd Hb' H' g' r' p' => x y μ' cls dd Hb' H' (g.trans g') r' p'
    obtain ⟨d, rfl, p2⟩ := p2
    obtain ⟨w, ys, rfl, r3, r2⟩ := r2.cons_inv
    obtain rfl := r2.nil_inv
    cases r3
    exact ⟨a, ns, d, rfl, rfl, ex_l g2.sub (ex_l g2.ex hx), q _ _ _ _ _ (g.trans g2) (.int _) p2⟩) x
/-- a tuple's slice -/
theorem ev_slT {tl th : TO} (h : EV T te W ⟨ρ, m0⟩ (fun d μ1 => OV' T tl W ⟨ρ, μ1⟩ (fun lo μ2 => OV' T th W ⟨ρ, μ2⟩ (fun hi μ3 => ∃ ds, d = .tup ds ∧ P (.tup (cutD ds lo hi)) μ3) XP) XP) XP) : EV T (tSl (rSlA T.K) te tl th) W ⟨ρ, m0⟩ P XP := fun σ Hb H Q S q x =>
  h σ Hb H _ S (fun d μ1 v Hb1 H1 g1 r1 p1 => p1 σ Hb1 H1 _ (S.go g1) (fun lo μ2 Hb2 H2 g2 p2 => p2 σ Hb2 H2 _ (S.go (g1.trans g2)) (fun hi μ3 Hb3 H3 g3 p3 => by
    obtain ⟨ds, rfl, p⟩ := p3
    obtain ⟨a, xs, rfl, hx, r⟩ := ((r1.mono g2.ex).mono g3.ex).tup_inv
    have g13 := (g1.trans g2).trans g3
    have r0 : RepL T Hb3 (cutD ds lo hi) (cutV xs lo hi) := by
      unfold Pw.cutD cutV
      rw [← r.1]
      exact (r.drop _).take _
    refine ⟨a, xs, rfl, ex_t g3.sub hx, fun hw => ?_, fun _ p' hp => ?_⟩
    · have e : cutV xs lo hi = xs := by
        unfold cutV
        rw [hw.1, hw.2, Nat.sub_zero, List.drop_zero, List.take_length]
      rw [e] at r0
      exact q _ _ _ _ _ g13 (.tup hx r0.1 r0.2) p
    · have g := Go.lay g3.sub g3.mu (o := .tup (cutV xs lo hi)) hp
      have rr := r0.mono g.ex
      exact q _ _ _ _ _ (g13.trans g) (.tup (.inl (.inl upd_same)) rr.1 rr.2) p)
    (fun y μ' cls dd Hb' H' g r p => x y μ' cls dd Hb' H' ((g1.trans g2).trans g) r p)) (fun y μ' cls dd Hb' H' g r p => x y μ' cls dd Hb' H' (g1.trans g) r p)) x
/-- tuples put together, none of them empty -/
theorem ov_catT {ds es : List D} (h1 : ds ≠ []) (h2 : es ≠ []) (hl : ds.length + es.length ≤ 100000) (p : P (.tup (ds ++ es)) μ) : OV T (rCatA T.K) (.tup ds) (.tup es) μ P := fun x y Hb H Q ex sm rx ry q => by
  obtain ⟨a, xs, rfl, hx, r⟩ := rx.tup_inv
  obtain ⟨b, ys, rfl, hy, r'⟩ := ry.tup_inv
  have n1 : xs ≠ [] := fun e => by
    subst e
    exact h1 (List.eq_nil_of_length_eq_zero (by simpa using r.1))
  have n2 : ys ≠ [] := fun e => by
    subst e
    exact h2 (List.eq_nil_of_length_eq_zero (by simpa using r'.1))
  refine ⟨a, b, xs, ys, rfl, rfl, ex_t ex hx, ex_t ex hy, by rw [← r.1, ← r'.1]; exact Evl.sz_of hl, fun e => absurd e n1, fun _ e => absurd e n2, fun _ _ p' hp => ?_⟩
  have g := Go.lay ex sm (o := .tup (xs ++ ys)) hp
  have r2 := (r.app r').mono g.ex
  exact q _ _ _ _ _ g (.tup (.inl (.inl upd_same)) r2.1 r2.2) p
/-- zip of two tuples -/
theorem itzT_ok {a b : Addr} {ds es : List D} {xs ys : List V} {Hb0 : Hp} (hx : SqT T.K Hb0 a xs) (r : RepL T Hb0 ds xs) (hy : SqT T.K Hb0 b ys) (r' : RepL T Hb0 es ys) : ItOk T (RZ.ItzT T.K a b) (min ds.length es.length) (fun i => .tup [nth ds i, nth es i]) Hb0 := fun Hb H e1 e2 => by
  have hH : SqT T.K H a xs := ex_t e2 (ex_t e1 hx)
  have hH' : SqT T.K H b ys := ex_t e2 (ex_t e1 hy)
  have l1 := r.1
  have l2 := r'.1
  refine ⟨fun i hi => ⟨xs, ys, xs[i]'(by omega), ys[i]'(by omega), hH, hH', List.getElem?_eq_getElem _, List.getElem?_eq_getElem _⟩, fun i hi => ⟨xs, ys, hH, hH', by omega⟩, ?_⟩
  rintro i x H' hi ⟨Tp, y, z, rfl, hT, rfl, hy, hz⟩ μ sm
  have g := Go.lay e2 sm (o := .tup [y, z]) hT
  refine ⟨_, g, ?_⟩
  have rl : RepL T (upd Hb Tp (.tup [y, z])) [Pw.nth ds i, Pw.nth es i] [y, z] :=
    .cons (((r.2 i _ y (nth_get (by omega)) (hy xs hH)).mono e1).mono g.ex) (.cons (((r'.2 i _ z (nth_get (by omega)) (hz ys hH')).mono e1).mono g.ex) .nil)
  exact .tup (.inl (.inl upd_same)) rl.1 rl.2
theorem iv_zipT {ta : TA} {P : Nat → (Nat → D) → Mu → Prop} (h : EA T ta W ⟨ρ, m0⟩ (fun fs μ => ∃ ds es, fs = [.tup ds, .tup es] ∧ P (min ds.length es.length) (fun i => .tup [Pw.nth ds i, Pw.nth es i]) μ) XP) : IV T (RZ.iZipA T.K ta) W ⟨ρ, m0⟩ P XP := fun σ Hb H R S q x =>
  h σ Hb H _ S (fun ds μ vs Hb1 H1 g r p => by
    obtain ⟨ds, es, rfl, p⟩ := p
    obtain ⟨v, ys, rfl, r1, r⟩ := r.cons_inv
    obtain ⟨w, ys, rfl, r2, r⟩ := r.cons_inv
    obtain rfl := r.nil_inv
    obtain ⟨a, xs, rfl, hx, rr⟩ := r1.tup_inv
    obtain ⟨b, zs, rfl, hz, r'⟩ := r2.tup_inv
    exact ⟨a, b, xs, zs, rfl, .inr ⟨ex_t g.sub hx, ex_t g.sub hz, q _ _ _ _ _ _ g (itzT_ok hx rr hz r') p⟩⟩) x
/-- a text in a tuple of texts -/
theorem strs_inv {Hb : Hp} : ∀ {zs : List Str} {xs : List V}, RepL T Hb (zs.map D.str) xs → xs = zs.map V.str
  | [], xs, r => r.nil_inv
  | z :: zs, xs, r => by
    obtain ⟨v, ys, rfl, r1, r2⟩ := r.cons_inv
    cases r1
    rw [strs_inv r2]
    rfl
theorem inV_strs {z : Str} : ∀ zs : List Str, inV (.str z) (zs.map V.str) = decide (z ∈ zs)
  | [] => by simp [inV]
  | y :: zs => by
    have ih := inV_strs (z := z) zs
    unfold inV at ih ⊢
    rw [List.map_cons, List.any_cons, ih]
    show ((y == z) || decide (z ∈ zs)) = _
    by_cases h : y = z
    · subst h; simp
    · have h' : ¬ z = y := fun e => h e.symm
      simp [h, h']
theorem ov_inT {z : Str} {zs : List Str} (p : P (.bl (decide (z ∈ zs))) μ) : OV T (rIn T.K false) (.str z) (.tup (zs.map D.str)) μ P := ov_of (fun x y Hb H Q ex rx ry q => by
  cases rx
  obtain ⟨a, xs, rfl, hx, r⟩ := ry.tup_inv
  obtain rfl := strs_inv r
  refine ⟨a, _, rfl, .inr (ex_t ex hx), rfl, ?_, ?_⟩
  · rw [List.all_eq_true]
    intro v hv
    obtain ⟨s, _, rfl⟩ := List.mem_map.1 hv
    rfl
  · show Q (.bl (if false = true then _ else inV (.str z) (zs.map V.str))) H
    rw [if_neg Bool.false_ne_true, inV_strs]
    exact q _ (.bl _)) p
/-! a table of the module with text keys -/
def rNotInKd (K : PySem.W.Frag) (d : Addr) : R2 := fun x y H Q => ∃ (z : Str) (r : Option Value), x = .str z ∧ y = .ref d ∧ PySem.W.nsIn K d z = some r ∧ Q (.bl (!r.isSome)) H
def rIxKd (K : PySem.W.Frag) (d : Addr) : R2 := fun x y H Q => ∃ (z : Str) (u0 : Value) (v0 : V), x = .ref d ∧ y = .str z ∧ PySem.W.nsIn K d z = some (some u0) ∧ RelV v0 u0 ∧ Q v0 H
theorem ov_notInKd {d : Addr} {z : Str} {r : Option Value} (h : PySem.W.nsIn T.K d z = some r) (p : P (.bl (!r.isSome)) μ) : OV T (rNotInKd T.K d) (.str z) (.ptr d) μ P := ov_of (fun x y Hb H Q ex rx ry q => by
  cases rx; cases ry
  exact ⟨z, r, rfl, rfl, h, q _ (.bl _)⟩) p
/-- at a key of the table: a tuple of texts that the module holds -/
theorem ov_ixKd {d t : Addr} {z : Str} {zs : List Str} {o : Obj} {its : Array Value} {n : Nat} (h : PySem.W.nsIn T.K d z = some (some (.ref t))) (ht : T.K.lookup t = some o) (hc : o.cls = .type "tuple") (hd : o.data = .seq its n) (hs : its.size ≤ sizeLine) (hv : Vals (zs.map V.str) its.toList)
    (p : P (.tup (zs.map D.str)) μ) : OV T (rIxKd T.K d) (.ptr d) (.str z) μ P := ov_of (fun x y Hb H Q ex rx ry q => by
  cases rx; cases ry
  refine ⟨z, .ref t, .ref t, rfl, rfl, h, rfl, q _ (.tup (xs := zs.map V.str) (.inr ⟨o, its, n, ht, hc, hd, hs, hv⟩) (by simp) fun i a v ha hv' => ?_)⟩
  rw [List.getElem?_map, Option.map_eq_some_iff] at ha hv'
  obtain ⟨s1, e1, rfl⟩ := ha
  obtain ⟨s2, e2, rfl⟩ := hv'
  rw [e1] at e2
  cases e2
  exact .str _) p
end
end Pw

namespace Pw
open PySem PySem.Spec PyProof.Rows L2
theorem ix_kd {X : Cx} {d : Addr} {es : Array DictEntry} {n : Nat} (C : KDict X.K X.w d es n) : IxR X (rIxKd X.K d) := by
  intro value slice pins s σ H x y v u Q I rx ry h hs
  have hx : x = .ref d := by obtain ⟨z, u0, v0, e, _⟩ := h; exact e
  have hv : v = .ref d := by subst hx; exact rx
  subst hv
  exact tail_any (kd_type C I) PySem.F.slot_dict_getitem.lookup (op_item_kd C pins s σ H x y _ u Q I rx ry h) hs
theorem op_nkd {X : Cx} {d : Addr} {es : Array DictEntry} {n : Nat} (C : KDict X.K X.w d es n) : OpR X (compareOp .NotIn) (rNotInKd X.K d) := op_notIn_kd C
/-- a tuple of texts at a key -/
def strOf : Value → Option Str
  | .str y _ => some y
  | _ => none
theorem strOf_ok {v : Value} {z : Str} (h : strOf v = some z) : ∃ t, v = .str z t := by
  cases v with
  | str y t =>
    have : some y = some z := h
    cases this
    exact ⟨t, rfl⟩
  | _ => cases h
theorem strs_ok : ∀ {zs : List Str} {vs : List Value}, vs.map strOf = zs.map some → Vals (zs.map V.str) vs
  | [], [], _ => .nil
  | z :: zs, v :: vs, h => by
    rw [List.map_cons, List.map_cons] at h
    injection h with h1 h2
    obtain ⟨t, rfl⟩ := strOf_ok h1
    exact .cons ⟨t, rfl⟩ (strs_ok h2)
  | [], _ :: _, h => by cases h
  | _ :: _, [], h => by cases h
def kdTup (K : PySem.W.Frag) (d : Addr) (z : Str) (zs : List Str) : Bool := match PySem.W.nsIn K d z with
  | some (some (.ref t)) => (match K.lookup t with
    | some o => decide (o.cls = .type "tuple") && (match o.data with
      | .seq its _ => decide (its.size ≤ 1000) && decide (its.toList.map strOf = zs.map some)
      | _ => false)
    | none => false)
  | _ => false
def KdT (K : PySem.W.Frag) (d : Addr) (z : Str) (zs : List Str) : Prop := ∃ (t : Addr) (o : Obj) (its : Array Value) (n : Nat), PySem.W.nsIn K d z = some (some (.ref t)) ∧ K.lookup t = some o ∧ o.cls = .type "tuple" ∧ o.data = .seq its n ∧ its.size ≤ sizeLine ∧ Vals (zs.map V.str) its.toList
theorem kdTup_ok {K : PySem.W.Frag} {d : Addr} {z : Str} {zs : List Str} (h : kdTup K d z zs = true) : KdT K d z zs := by
  unfold kdTup at h
  split at h
  · rename_i t e
    split at h
    · rename_i o eo
      obtain ⟨h1, h2⟩ := Bool.and_eq_true_iff.mp h
      split at h2
      · rename_i its n ed
        obtain ⟨h3, h4⟩ := Bool.and_eq_true_iff.mp h2
        exact ⟨t, o, its, n, e, eo, of_decide_eq_true h1, ed, Evl.sz_of (Nat.le_trans (of_decide_eq_true h3) (by decide)), strs_ok (of_decide_eq_true h4)⟩
      · cases h2
    · cases h
  · cases h
section
variable {T : Cfg} {P : D → Mu → Prop} {μ : Mu}
theorem ov_ixT' {d : Addr} {z : Str} {zs : List Str} (h : KdT T.K d z zs) (p : P (.tup (zs.map D.str)) μ) : OV T (rIxKd T.K d) (.ptr d) (.str z) μ P := by
  obtain ⟨t, o, its, n, h1, h2, h3, h4, h5, h6⟩ := h
  exact ov_ixKd h1 h2 h3 h4 h5 h6 p
theorem ov_nIn {d : Addr} {z : Str} {zs : List Str} (h : KdT T.K d z zs) (p : P (.bl false) μ) : OV T (rNotInKd T.K d) (.str z) (.ptr d) μ P := by
  obtain ⟨t, o, its, n, h1, _⟩ := h
  exact ov_notInKd h1 p
end
/-! ### the head, with tables -/
abbrev AlG : Type := AlF × List (Option (List (Option (Str × Int))))
abbrev Dics := List (Str × List Str)
def obsG (fa : List He.Fa) (fn : List He.DefD) (exs : List (PySem.W.Frag → Bool)) (ds : Dics) (K : PySem.W.Frag) : AlG := (obsF fa fn exs K, ds.map fun q => He.dicW K (He.ga K q.1))
def valG (fn : List He.DefD) (ds : Dics) (w : World) : AlG := (valF fn, ds.map fun q => some (He.keysIn w.params q.2))
def SaysG (fa : List He.Fa) (fn : List He.DefD) (exs : List (PySem.W.Frag → Bool)) (ds : Dics) (w : World) (K : PySem.W.Frag) : Prop := obsG fa fn exs ds K = valG fn ds w
def obsGG (n : Nat) (fa : List He.Fa) (fn : List He.DefD) (exs : List (PySem.W.Frag → Bool)) (ds : Dics) (g : Addr → Option Obj) : AlG := obsG fa fn exs ds (He.frG g (He.asD g n))
def hookG (n : Nat) (fa : List He.Fa) (fn : List He.DefD) (exs : List (PySem.W.Frag → Bool)) (ds : Dics) : PySem.W.Hook where
  α := AlG
  obs := fun s => obsGG n fa fn exs ds s.heap.get?
  val := fun w => valG fn ds w
  says := fun w h => ∃ K : PySem.W.Frag, K.In h ∧ SaysG fa fn exs ds w K
  of := fun _ _ e => ⟨_, He.frG_in, e⟩
  keeps := fun _ _ _ ⟨K, hK, c⟩ k => ⟨K, PySem.W.Frag.In.keeps hK k, c⟩
theorem obsGG_eq {n : Nat} {fa : List He.Fa} {fn : List He.DefD} {exs : List (PySem.W.Frag → Bool)} {ds : Dics} {g : Addr → Option Obj} {s : Shared} (h : ∀ a, g a = s.heap.get? a) : obsGG n fa fn exs ds g = (hookG n fa fn exs ds).obs s := by
  have e : g = s.heap.get? := funext h
  rw [e] <;> rfl
section
variable {fa : List He.Fa} {fn : List He.DefD} {exs : List (PySem.W.Frag → Bool)} {ds : Dics} {w : World} {K : PySem.W.Frag}
theorem SaysG.f (c : SaysG fa fn exs ds w K) : SaysF fa fn exs K := congrArg (fun z : AlG => z.1) c
theorem SaysG.fact (c : SaysG fa fn exs ds w K) (i : Nat) {f : He.Fa} (h : fa[i]? = some f) : f.ok K = true := c.f.fact i h
theorem SaysG.def_ (c : SaysG fa fn exs ds w K) (i : Nat) {d : He.DefD} (h : fn[i]? = some d) : ∃ fd, FunD K d.name d.qual d.params d.body d.scope (d.dvs K) (d.kws K) (He.fAd K d.at_) fd := c.f.def_ i h
theorem SaysG.ex_ (c : SaysG fa fn exs ds w K) (i : Nat) {e : PySem.W.Frag → Bool} (h : exs[i]? = some e) : e K = true := c.f.ex_ i h
theorem SaysG.dic (c : SaysG fa fn exs ds w K) (i : Nat) {q : Str × List Str} (h : ds[i]? = some q) : ∃ es n, KDict K w (He.ga K q.1) es n := by
  have c2 : (ds.map fun q => He.dicW K (He.ga K q.1)) = ds.map fun q => some (He.keysIn w.params q.2) := congrArg (fun z : AlG => z.2) c
  have e := congrArg (fun l => l[i]?) c2
  simp only [List.getElem?_map, h, Option.map_some] at e
  exact He.dicW_ok (Option.some.inj e)
end
end Pw

namespace Pw
open PySem PySem.Spec PyProof.Rows L2
open Evl (Ex ex_l ex_t fresh_back)
section
variable {T : Cfg} {W : WX} {s : S} {ρ : List (Option D)} {m0 : Mu} {K : Out → Prop} {ta tb te te' : TE} {m m1 : Mu} {Hb H Hb1 H1 : Hp} {Dn : Ends} {XP : XW} {P : D → Mu → Prop} {μ : Mu} {u : TS}
/-- .. the list one's own -/
theorem ev_lcM {wi : TI} {g : TG} {is vs : List Nat} {tt : TT} {P : D → Mu → Prop} {XP : XW} (hv : ∀ i ∈ is, i ∈ vs)
    (h : IV T wi W ⟨ρ, m0⟩ (fun n f μ => n ≤ 100000 ∧ ∃ I : Nat → List D → Mu → Prop, I 0 [] μ ∧ (∀ i acc μ', i < n → acc.length ≤ i → I i acc μ' → GV T g is (f i) ⟨wipeD ρ vs, μ'⟩ (fun s'' => TV T tt (fun _ _ _ _ => False) s'' (fun b μ1 =>
      (b = true → EV T te (fun _ _ _ _ => False) ⟨s''.r, μ1⟩ (fun e μ2 => I (i + 1) (acc ++ [e]) μ2) (fun _ _ => False)) ∧ (b = false → I (i + 1) acc μ1)) (fun _ _ => False))) ∧ ∀ acc μ' p, I n acc μ' → acc.length ≤ n → μ' p = none → P (.ptr p) (put μ' p (.lst acc))) XP) :
    EV T (tLc wi g tt te vs) W ⟨ρ, m0⟩ P XP := fun σ Hb H Q S q x => by
  refine h σ Hb H _ S (fun J n f μ Hb1 H1 g1 ok p => ?_) x
  obtain ⟨hn, I, i0, turn, done⟩ := p
  have S1 := S.go g1
  intro Dl hD
  have hDb : Hb1 Dl = none := fresh_back S1.sub hD
  have hDm : μ Dl = none := by
    cases e : μ Dl with
    | none => rfl
    | some m =>
      obtain ⟨_, o, ho, _⟩ := g1.mu Dl m e
      rw [hD] at ho; cases ho
  -- the new list is one's own at Dl
  have gD : Go T μ Hb1 H1 (put μ Dl (.lst [])) Hb1 (upd H1 Dl (.lst [])) := Go.own g1.sub g1.mu hD RepL.nil
  refine ⟨fun i m H' => m = n - i ∧ i ≤ n ∧ ∃ acc μ' Hb', acc.length ≤ i ∧ μ' Dl = none ∧ Go T μ Hb1 H1 (put μ' Dl (.lst acc)) Hb' H' ∧ I i acc μ', ⟨n, by simp, Nat.zero_le _, [], μ, Hb1, Nat.le_refl _, hDm, gD, i0⟩, ?_⟩
  rintro i m H' ⟨rfl, hi, acc, μ', Hb', hl, hm', g', i'⟩
  have S' : Sim T ⟨ρ, put μ' Dl (.lst acc)⟩ σ Hb' H' := S1.go g'
  obtain ⟨go, stop, yld⟩ := ok Hb' H' g'.ex g'.sub
  by_cases hlt : i < n
  · refine .inr ⟨go i hlt, fun H2 => ∃ acc2 μ2 Hb2, acc2.length ≤ i + 1 ∧ μ2 Dl = none ∧ Go T μ Hb1 H1 (put μ2 Dl (.lst acc2)) Hb2 H2 ∧ I (i + 1) acc2 μ2, ?_, ?_⟩
    · rintro H2 ⟨acc2, μ2, Hb2, hl2, hm2, g2, i2⟩
      exact ⟨n - (i + 1), by omega, rfl, hlt, acc2, μ2, Hb2, hl2, hm2, g2, i2⟩
    · intro y H2 hy
      obtain ⟨Hb2, g2, r2⟩ := yld i y H2 hlt hy _ g'.mu
      have g02 := g'.trans g2
      -- the list set aside: the store without it
      have aside : ∀ {μa : Mu} {Hba Ha : Hp} {ac : List D}, μa Dl = none → SimMu T (put μa Dl (.lst ac)) Hba Ha → SimMu T μa Hba Ha := fun {μa Hba Ha ac} hn hs a m ha => by
        refine hs a m ?_
        rw [put_ne (fun e => by rw [e, hn] at ha; cases ha)]
        exact ha
      have back : ∀ {μa μb : Mu} {Hba Ha Hbb Hc : Hp} {ac : List D}, μa Dl = none → SimMu T (put μa Dl (.lst ac)) Hba Ha → Go T μa Hba Ha μb Hbb Hc → μb Dl = none ∧ Go T (put μa Dl (.lst ac)) Hba Ha (put μb Dl (.lst ac)) Hbb Hc := fun {μa μb Hba Ha Hbb Hc ac} hn hs gg => by
        obtain ⟨hbn, o, ho, ro⟩ := hs Dl _ put_same
        obtain ⟨ho', hbn'⟩ := gg.keep Dl o ho hbn hn
        have mb : μb Dl = none := by
          cases e : μb Dl with
          | none => rfl
          | some m =>
            rcases gg.new Dl m e with z | z
            · exact absurd hn z
            · rw [ho] at z; cases z
        refine ⟨mb, gg.ex, fun a u h1 h2 h3 => ?_, fun a m h1 => ?_, gg.alive, gg.sub, fun a m h1 => ?_⟩
        · have ne : a ≠ Dl := fun e => by rw [e, put_same] at h3; cases h3
          rw [put_ne ne] at h3
          exact gg.keep a u h1 h2 h3
        · by_cases e : a = Dl
          · subst e; exact .inl (by rw [put_same]; simp)
          · rw [put_ne e] at h1 ⊢; exact gg.new a m h1
        · by_cases e : a = Dl
          · subst e
            rw [put_same] at h1
            cases h1
            exact ⟨hbn', o, ho', ro.mono gg.ex⟩
          · rw [put_ne e] at h1; exact gg.mu a m h1
      have Sw0 : Sim T ⟨ρ, put μ' Dl (.lst acc)⟩ σ Hb2 H2 := S'.go g2
      have Sw : Sim T ⟨ρ, μ'⟩ σ Hb2 H2 := ⟨Sw0.len, Sw0.vars, Sw0.sub, aside hm' Sw0.mu⟩
      have Sww : Sim T ⟨wipeD ρ vs, μ'⟩ (L2.wipe σ vs) Hb2 H2 := Sw.wipe vs
      refine turn i acc μ' hlt hl i' y (L2.wipe σ vs) Hb2 H2 _ Sww r2 fun s3 σ3 em S3 wq k => ?_
      have em : s3.m = μ' := em
      refine ⟨?_, ?_⟩
      · have e1 := wq vs hv
        have idem : ∀ (us : List Nat), (∀ u ∈ us, u ∈ vs) → L2.wipe (L2.wipe σ vs) us = L2.wipe σ vs := by
          intro us
          induction us with
          | nil => intro _; rfl
          | cons u us ih =>
            intro hu
            show (L2.wipe (L2.wipe σ vs) us).set u none = L2.wipe σ vs
            rw [ih fun z hz => hu z (List.mem_cons_of_mem _ hz)]
            have : ∀ (ws : List Nat) (u : Nat), u ∈ ws → (L2.wipe σ ws).set u none = L2.wipe σ ws := by
              intro ws
              induction ws with
              | nil => intro u hu; cases hu
              | cons w ws ih2 =>
                intro u hu
                show ((L2.wipe σ ws).set w none).set u none = (L2.wipe σ ws).set w none
                by_cases e : u = w
                · subst e; rw [List.set_set]
                · have hu2 : u ∈ ws := by
                    rcases List.mem_cons.mp hu with z | z
                    · exact absurd z e
                    · exact z
                  rw [List.set_comm _ _ (fun z => e z.symm), ih2 u hu2]
            exact this vs u (hu u (by simp))
        rw [e1]
        exact idem vs fun _ z => z
      · refine k σ3 Hb2 H2 _ S3 (fun b μ3 Hb3 H3 g3 kk => ?_) (fun _ _ _ _ _ _ _ _ z => z.elim)
        rw [em] at g3
        obtain ⟨hm3, g3'⟩ := back hm' Sw0.mu g3
        have S3' : Sim T ⟨s3.r, μ3⟩ σ3 Hb3 H3 := S3.go (by rw [em]; exact g3)
        cases b with
        | false =>
          show ∃ acc2 μ2 Hb2, _
          exact ⟨acc, μ3, Hb3, by omega, hm3, g02.trans g3', kk.2 rfl⟩
        | true =>
          show te σ3 H3 _
          refine kk.1 rfl σ3 Hb3 H3 _ S3' (fun e μ4 w Hb4 H4 g4 r4 i4 => ?_) (fun _ _ _ _ _ _ _ _ z => z.elim)
          obtain ⟨hm4, g4'⟩ := back hm3 g3'.mu g4
          obtain ⟨_, o, ho, ro⟩ := g4'.mu Dl _ put_same
          cases o with
          | lst xs =>
            have ro : RepL T Hb4 acc xs := ro
            have g5 := Go.chg g4'.sub g4'.mu (p := Dl) (o := .lst (xs ++ [w])) (z := .lst (acc ++ [e])) put_same (ro.app (.cons r4 .nil))
            rw [put_put] at g5
            exact ⟨xs, ho, Evl.sz_lt (by rw [← ro.1]; omega), acc ++ [e], μ4, Hb4, by simp; omega, hm4, ((g02.trans g3').trans g4').trans g5, i4⟩
          | _ => exact ro.elim
  · have e : i = n := by omega
    subst e
    exact .inl ⟨stop i (Nat.le_refl _), q _ _ _ _ _ (g1.trans g') (.ptr Dl) (done acc μ' Dl i' hl hm')⟩
theorem mu_fresh {p : Addr} (sm : SimMu T μ Hb H) (hp : H p = none) : μ p = none := by
  cases e : μ p with
  | none => rfl
  | some m =>
    obtain ⟨_, o, ho, _⟩ := sm p m e
    rw [hp] at ho; cases ho
theorem ov_repM {ds : List D} {k : Nat} (h1 : k ≤ 100000) (hl : ds.length * k ≤ 100000) (p : ∀ a, μ a = none → P (.ptr a) (put μ a (.lst (List.replicate k ds).flatten))) : OV T rRep (.lst ds) (.int (k : Int)) μ P := fun x y Hb H Q ex sm rx ry q => by
  obtain ⟨b, xs, rfl, hx, r⟩ := rx.lst_inv
  cases ry
  refine ⟨b, (k : Int), xs, rfl, rfl, ex _ _ hx, by omega, ?_, by rw [← r.1]; exact Evl.sz_of (by simpa using hl), fun p' hp => ?_⟩
  · have : (2 : Int) ^ 63 = 9223372036854775808 := by decide
    rw [this]; omega
  · have g := Go.own ex sm (o := .lst (List.replicate (k : Int).toNat xs).flatten) (z := .lst (List.replicate k ds).flatten) hp (rep_rep r k)
    exact q _ _ _ _ _ g (.ptr p') (p p' (mu_fresh sm hp))
theorem ov_repM1 {d : D} {k : Nat} (h1 : k ≤ 100000) (p : ∀ a, μ a = none → P (.ptr a) (put μ a (.lst (List.replicate k d)))) : OV T rRep (.lst [d]) (.int (k : Int)) μ P :=
  ov_repM h1 (by simpa using h1) fun a ha => by
    have e : (List.replicate k [d]).flatten = List.replicate k d := by
      clear h1 p
      induction k with
      | zero => rfl
      | succ k ih => rw [List.replicate_succ, List.flatten_cons, ih]; rfl
    rw [e]
    exact p a ha
/-- list(x), to be changed -/
theorem cv_lstC {d : D} {ds : List D} (hd : Seqd d ds ∨ d = .tup ds) (p : ∀ a, μ a = none → P (.ptr a) (put μ a (.lst ds))) : CV T (rListOf T.K) [d] μ P := fun xs Hb H Q ex sm r q => by
  obtain ⟨v, rfl, r1⟩ := one_inv r
  have : ∃ a ys, v = .ref a ∧ (SqL T.K H a ys ∨ SqT T.K H a ys) ∧ RepL T Hb ds ys := by
    rcases hd with hd | rfl
    · obtain ⟨a, ys, rfl, hx, r2⟩ := hd.inv r1
      exact ⟨a, ys, rfl, .inl (ex_l ex hx), r2⟩
    · obtain ⟨a, ys, rfl, hx, r2⟩ := r1.tup_inv
      exact ⟨a, ys, rfl, .inr (ex_t ex hx), r2⟩
  obtain ⟨a, ys, rfl, hx, r2⟩ := this
  refine ⟨a, ys, rfl, hx, fun l hl => ?_⟩
  have g := Go.own ex sm (o := .lst ys) (z := .lst ds) hl r2
  exact q _ _ _ _ _ g (.ptr l) (p l (mu_fresh sm hl))
theorem cv_lstI {d : D} {ds : List D} (hd : Seqd d ds ∨ d = .tup ds) (p : P (.lst ds) μ) : CV T (rListOf T.K) [d] μ P := fun xs Hb H Q ex sm r q => by
  obtain ⟨v, rfl, r1⟩ := one_inv r
  have : ∃ a ys, v = .ref a ∧ (SqL T.K H a ys ∨ SqT T.K H a ys) ∧ RepL T Hb ds ys := by
    rcases hd with hd | rfl
    · obtain ⟨a, ys, rfl, hx, r2⟩ := hd.inv r1
      exact ⟨a, ys, rfl, .inl (ex_l ex hx), r2⟩
    · obtain ⟨a, ys, rfl, hx, r2⟩ := r1.tup_inv
      exact ⟨a, ys, rfl, .inr (ex_t ex hx), r2⟩
  obtain ⟨a, ys, rfl, hx, r2⟩ := this
  refine ⟨a, ys, rfl, hx, fun l hl => ?_⟩
  have g := Go.lay ex sm (o := .lst ys) hl
  have rr := r2.mono g.ex
  exact q _ _ _ _ _ g (.lst upd_same rr.1 rr.2) p
theorem cv_tupI {d : D} {ds : List D} (hd : Seqd d ds) (p : P (.tup ds) μ) : CV T (rTupOf T.K) [d] μ P := fun xs Hb H Q ex sm r q => by
  obtain ⟨v, rfl, r1⟩ := one_inv r
  obtain ⟨a, ys, rfl, hx, r2⟩ := hd.inv r1
  refine ⟨a, ys, rfl, .inl ⟨ex_l ex hx, fun l hl => ?_⟩⟩
  have g := Go.lay ex sm (o := .tup ys) hl
  have rr := r2.mono g.ex
  exact q _ _ _ _ _ g (.tup (.inl (.inl upd_same)) rr.1 rr.2) p
theorem cv_sumM {a : Addr} {ns : List Int} (hm : μ a = some (.lst (ns.map D.int))) (p : P (.int ns.sum) μ) : CV T (rSum T.K) [.ptr a] μ P := fun xs Hb H Q ex sm r q => by
  obtain ⟨v, rfl, r1⟩ := one_inv r
  cases r1
  obtain ⟨n, o, ho, r⟩ := sm a _ hm
  cases o with
  | lst xs =>
    obtain rfl := RepL.ints (T := T) (H := Hb) r
    exact ⟨a, ns, rfl, Evl.sq_of ho, q _ _ _ _ _ (.refl ex sm) (.int _) p⟩
  | _ => exact r.elim
/-- xs.extend(ys), xs one's own -/
theorem sv_ext (h : EV T ta W ⟨ρ, m0⟩ (fun d μ1 => ∃ a ds0, d = .ptr a ∧ μ1 a = some (.lst ds0) ∧ EV T te W ⟨ρ, μ1⟩ (fun e μ2 => ∃ ds es, e = .lst es ∧ μ2 a = some (.lst ds) ∧ ds.length + es.length ≤ 100000 ∧ K (.nx ⟨ρ, put μ2 a (.lst (ds ++ es))⟩)) (xk ⟨ρ, m0⟩ K)) (xk ⟨ρ, m0⟩ K)) :
    SV T (tDrop (tBM T.K "list" rExtend ta (tCons te tNil))) W ⟨ρ, m0⟩ K := fun σ Hb H Dn S c => by
  refine h σ Hb H _ S (fun d μ1 v Hb1 H1 g1 r1 p1 => ?_) (c.x S)
  obtain ⟨a, ds0, rfl, hm, p1⟩ := p1
  cases r1
  obtain ⟨n, o, ho, r⟩ := g1.mu a _ hm
  cases o with
  | lst xs0 =>
    refine ⟨Or.inl ⟨rfl, xs0, Evl.sq_of ho⟩, ?_⟩
    refine p1 σ Hb1 H1 _ (S.go g1) (fun e μ2 w Hb2 H2 g2 r2 p2 => ?_) (fun x μ' cls dd Hb' H' g r k => c.x S x μ' cls dd Hb' H' (g1.trans g) r k)
    obtain ⟨ds, es, rfl, hm2, hl, k⟩ := p2
    obtain ⟨n2, o2, ho2, rr⟩ := g2.mu a _ hm2
    obtain ⟨b, ys, rfl, hy, r3⟩ := r2.lst_inv
    cases o2 with
    | lst xs =>
      have rr : RepL T Hb2 ds xs := rr
      have g3 := Go.chg g2.sub g2.mu (p := a) (o := .lst (xs ++ ys)) (z := .lst (ds ++ es)) hm2 (rr.app r3)
      have g := (g1.trans g2).trans g3
      exact ⟨a, b, xs, ys, rfl, rfl, ho2, g2.sub _ _ hy, by rw [← rr.1, ← r3.1]; exact Evl.sz_of hl, c.nx _ _ _ _ g (S.go g) k⟩
    | _ => exact rr.elim
  | _ => exact r.elim
theorem ix_nat {n : Nat} {k : Nat} (h : k < n) : seqIndex? (k : Int) n = some k := by
  unfold seqIndex?
  first
    | (rw [if_neg (by omega), if_pos (by omega)]; rfl)
    | (simp; omega)
/-- xs.pop(k), xs one's own -/
theorem ev_popAt (h : EV T ta W ⟨ρ, m0⟩ (fun d μ1 => ∃ a ds0, d = .ptr a ∧ μ1 a = some (.lst ds0) ∧ EV T te W ⟨ρ, μ1⟩ (fun e μ2 => ∃ (k : Nat) (ds : List D) (z : D), e = .int (k : Int) ∧ μ2 a = some (.lst ds) ∧ ds.length ≤ 100000 ∧ ds[k]? = some z ∧ P z (put μ2 a (.lst (ds.eraseIdx k)))) XP) XP) :
    EV T (tBM T.K "list" rPopAt ta (tCons te tNil)) W ⟨ρ, m0⟩ P XP := fun σ Hb H Q S q x => by
  refine h σ Hb H _ S (fun d μ1 v Hb1 H1 g1 r1 p1 => ?_) x
  obtain ⟨a, ds0, rfl, hm, p1⟩ := p1
  cases r1
  obtain ⟨n, o, ho, r⟩ := g1.mu a _ hm
  cases o with
  | lst xs0 =>
    refine ⟨Or.inl ⟨rfl, xs0, Evl.sq_of ho⟩, ?_⟩
    refine p1 σ Hb1 H1 _ (S.go g1) (fun e μ2 w Hb2 H2 g2 r2 p2 => ?_) (fun y μ' cls dd Hb' H' g r k => x y μ' cls dd Hb' H' (g1.trans g) r k)
    obtain ⟨k, ds, z, rfl, hm2, hl, hz, pz⟩ := p2
    cases r2
    obtain ⟨n2, o2, ho2, rr⟩ := g2.mu a _ hm2
    cases o2 with
    | lst xs =>
      have rr : RepL T Hb2 ds xs := rr
      obtain ⟨v, hv, rv⟩ := rr.get hz
      have hk : k < ds.length := (List.getElem?_eq_some_iff.mp hz).1
      have re : RepL T Hb2 (ds.eraseIdx k) (xs.eraseIdx k) := by
        refine ⟨by rw [List.length_eraseIdx, List.length_eraseIdx, rr.1], fun i d y e1 e2 => ?_⟩
        rw [List.getElem?_eraseIdx] at e1 e2
        split at e1
        · rename_i hi
          rw [if_pos hi] at e2
          exact rr.2 i d y e1 e2
        · rename_i hi
          rw [if_neg hi] at e2
          exact rr.2 (i + 1) d y e1 e2
      have g3 := Go.chg g2.sub g2.mu (p := a) (o := .lst (xs.eraseIdx k)) (z := .lst (ds.eraseIdx k)) hm2 re
      have e63 : (2 : Int) ^ 63 = 9223372036854775808 := by decide
      exact ⟨a, xs, (k : Int), k, v, rfl, rfl, ho2, by rw [e63]; omega, by rw [e63]; omega, ix_nat (by rw [← rr.1]; exact hk), hv, q _ _ _ _ _ ((g1.trans g2).trans g3) (rv.mono g3.ex) pz⟩
    | _ => exact rr.elim
  | _ => exact r.elim
theorem ov_neDM {a : Addr} {e : D} {ds : List D} {ps : List PyData} {q : PyData} (hm : μ a = some (.lst ds)) (hd : DPyL ds ps) (he : DPy e q) (sd : SeqAt.shaped (.list ps) = true) (se : SeqAt.shaped q = true) (k : P (.bl (!PyData.eqv (.list ps) q)) μ) : OV T (rNeD T.K) (.ptr a) e μ P := fun x y Hb H Q ex sm rx ry w => by
  cases rx
  obtain ⟨n, o, ho, r⟩ := sm a _ hm
  cases o with
  | lst xs => exact ⟨.list ps, q, .lst (Evl.sq_of ho) (DPyL.dp ex ps ds xs hd r), DPy.dp ex q e y he ry, sd, se, w _ _ _ _ _ (.refl ex sm) (.bl _) k⟩
  | _ => exact r.elim
theorem ov_eqDM {a : Addr} {e : D} {ds : List D} {ps : List PyData} {q : PyData} (hm : μ a = some (.lst ds)) (hd : DPyL ds ps) (he : DPy e q) (sd : SeqAt.shaped (.list ps) = true) (se : SeqAt.shaped q = true) (k : P (.bl (PyData.eqv (.list ps) q)) μ) : OV T (rEqD T.K) (.ptr a) e μ P := fun x y Hb H Q ex sm rx ry w => by
  cases rx
  obtain ⟨n, o, ho, r⟩ := sm a _ hm
  cases o with
  | lst xs => exact ⟨.list ps, q, .lst (Evl.sq_of ho) (DPyL.dp ex ps ds xs hd r), DPy.dp ex q e y he ry, sd, se, w _ _ _ _ _ (.refl ex sm) (.bl _) k⟩
  | _ => exact r.elim
theorem ov_catPL {ds es : List D} {a : Addr} (hm : μ a = some (.lst ds)) (hl : ds.length + es.length ≤ 100000) (p : P (.lst (ds ++ es)) μ) : OV T rCat (.ptr a) (.lst es) μ P := fun x y Hb H Q ex sm rx ry q => by
  obtain ⟨b, xs, rfl, hx, r⟩ := ry.lst_inv
  cases rx
  obtain ⟨n, o, ho, r'⟩ := sm a _ hm
  cases o with
  | lst ys =>
    refine ⟨a, b, ys, xs, rfl, rfl, ho, ex _ _ hx, by rw [← r.1, ← (show RepL T Hb ds ys from r').1]; exact Evl.sz_of hl, fun p' hp => ?_⟩
    have g := Go.lay ex sm (o := .lst (ys ++ xs)) hp
    have r2 : RepL T Hb (ds ++ es) (ys ++ xs) := RepL.app r' r
    exact q _ _ _ _ _ g (.lst upd_same r2.1 (r2.mono g.ex).2) p
  | _ => exact r'.elim
/-- a slice of a list of one's own -/
theorem ev_slM {tl th : TO} (h : EV T te W ⟨ρ, m0⟩ (fun d μ1 => OV' T tl W ⟨ρ, μ1⟩ (fun lo μ2 => OV' T th W ⟨ρ, μ2⟩ (fun hi μ3 => ∃ a ds, d = .ptr a ∧ μ3 a = some (.lst ds) ∧ P (.lst (cutD ds lo hi)) μ3) XP) XP) XP) : EV T (tSl (rSlL T.K) te tl th) W ⟨ρ, m0⟩ P XP := fun σ Hb H Q S q x =>
  h σ Hb H _ S (fun d μ1 v Hb1 H1 g1 r1 p1 => p1 σ Hb1 H1 _ (S.go g1) (fun lo μ2 Hb2 H2 g2 p2 => p2 σ Hb2 H2 _ (S.go (g1.trans g2)) (fun hi μ3 Hb3 H3 g3 p3 => by
    obtain ⟨a, ds, rfl, hm, p⟩ := p3
    cases r1
    obtain ⟨n, o, ho, r⟩ := g3.mu a _ hm
    cases o with
    | lst xs =>
      have r : RepL T Hb3 ds xs := r
      refine ⟨a, xs, rfl, Evl.sq_of ho, fun p' hp => ?_⟩
      have g := Go.lay g3.sub g3.mu (o := .lst (cutV xs lo hi)) hp
      have r0 : RepL T Hb3 (cutD ds lo hi) (cutV xs lo hi) := by
        unfold cutD cutV
        rw [← r.1]
        exact (r.drop _).take _
      have rr := r0.mono g.ex
      exact q _ _ _ _ _ (((g1.trans g2).trans g3).trans g) (.lst upd_same rr.1 rr.2) p
    | _ => exact r.elim)
    (fun y μ' cls dd Hb' H' g r p => x y μ' cls dd Hb' H' ((g1.trans g2).trans g) r p)) (fun y μ' cls dd Hb' H' g r p => x y μ' cls dd Hb' H' (g1.trans g) r p)) x
end
/-! ### lists told as they are, deep within a datum -/
inductive Same (a : Addr) (e : D) : D → D → Prop
  | hit : Same a e (.ptr a) e
  | refl (d : D) : Same a e d d
  | lst {ds es : List D} (l : ds.length = es.length) (h : ∀ (i : Nat) (x y : D), ds[i]? = some x → es[i]? = some y → Same a e x y) : Same a e (.lst ds) (.lst es)
  | tup {ds es : List D} (l : ds.length = es.length) (h : ∀ (i : Nat) (x y : D), ds[i]? = some x → es[i]? = some y → Same a e x y) : Same a e (.tup ds) (.tup es)
section
variable {T : Cfg} {W : WX} {s : S} {ρ : List (Option D)} {m0 : Mu} {K : Out → Prop} {ta tb te te' : TE} {m m1 : Mu} {Hb H Hb1 H1 : Hp} {Dn : Ends} {XP : XW} {P : D → Mu → Prop} {μ : Mu} {u : TS}
theorem Same.rep {a : Addr} {e d d' : D} (h : Same a e d d') (ex : Ex Hb Hb1) (he : Rep T Hb1 e (.ref a)) : ∀ {v : V}, Rep T Hb d v → Rep T Hb1 d' v := by
  induction h with
  | hit => intro v r; cases r; exact he
  | refl d => intro v r; exact r.mono ex
  | @lst ds es l h ih =>
    intro v r
    obtain ⟨b, xs, rfl, hx, rl⟩ := r.lst_inv
    refine .lst (ex _ _ hx) (l.symm.trans rl.1) fun i y w hy hw => ?_
    have hi : i < ds.length := by rw [l]; exact (List.getElem?_eq_some_iff.mp hy).1
    exact ih i _ y (List.getElem?_eq_getElem hi) hy (rl.2 i _ w (List.getElem?_eq_getElem hi) hw)
  | @tup ds es l h ih =>
    intro v r
    obtain ⟨b, xs, rfl, hx, rl⟩ := r.tup_inv
    refine .tup (ex_t ex hx) (l.symm.trans rl.1) fun i y w hy hw => ?_
    have hi : i < ds.length := by rw [l]; exact (List.getElem?_eq_some_iff.mp hy).1
    exact ih i _ y (List.getElem?_eq_getElem hi) hy (rl.2 i _ w (List.getElem?_eq_getElem hi) hw)
theorem ev_fzS {a : Addr} (h : EV T te W ⟨ρ, m0⟩ (fun d μ => ∃ ds d', μ a = some (.lst ds) ∧ Same a (.lst ds) d d' ∧ P d' (del μ a)) XP) : EV T te W ⟨ρ, m0⟩ P XP := fun σ Hb H Q S q x =>
  h σ Hb H Q S (fun d μ v Hb' H' g r p => by
    obtain ⟨ds, d', hm, sa, p⟩ := p
    obtain ⟨n, o, ho, ro⟩ := g.mu a _ hm
    cases o with
    | lst xs =>
      have g2 := Go.freeze g.sub g.mu hm ho
      have ro : RepL T Hb' ds xs := ro
      have re : Rep T (upd Hb' a (.lst xs)) (.lst ds) (.ref a) := .lst upd_same ro.1 (ro.mono g2.ex).2
      exact q d' _ v _ _ (g.trans g2) (sa.rep g2.ex re r) p
    | _ => exact ro.elim) x
/-- rows of one's own, all told as they are -/
theorem ev_fzR : ∀ (ps : List Addr) (rows : List (List D)) (pre : List D), rows.length = ps.length → ps.Nodup → EV T te W ⟨ρ, m0⟩ (fun d μ => d = .lst (pre ++ ps.map D.ptr) ∧ (∀ (i : Nat) (p : Addr) (r : List D), ps[i]? = some p → rows[i]? = some r → μ p = some (.lst r)) ∧ ∀ μ', (∀ b, b ∉ ps → μ' b = μ b) → P (.lst (pre ++ rows.map D.lst)) μ') XP → EV T te W ⟨ρ, m0⟩ P XP
  | [], [], pre, _, _, h => h.imp fun d μ ⟨e, _, p⟩ => by
    subst e
    exact p μ fun _ _ => rfl
  | [], _ :: _, _, hl, _, _ => by cases hl
  | _ :: _, [], _, hl, _, _ => by cases hl
  | a :: ps, r :: rows, pre, hl, hn, h => by
    have hn' := List.nodup_cons.mp hn
    refine ev_fzR ps rows (pre ++ [.lst r]) (by simpa using hl) hn'.2 (ev_fzS (a := a) (h.imp ?_))
    rintro d μ ⟨e, hp, p⟩
    refine ⟨r, .lst ((pre ++ [.lst r]) ++ ps.map D.ptr), hp 0 a r rfl rfl, ?_, rfl, fun i b z hb hz => ?_, fun μ' hμ => ?_⟩
    · subst e
      refine .lst (by simp) fun i x y hx hy => ?_
      rw [List.append_assoc] at hy
      by_cases hi : i < pre.length
      · rw [List.getElem?_append_left hi] at hx hy
        rw [hx] at hy; cases hy
        exact .refl _
      · rw [List.getElem?_append_right (by omega)] at hx hy
        cases hk : i - pre.length with
        | zero =>
          rw [hk] at hx hy
          simp at hx hy
          subst hx; subst hy
          exact .hit
        | succ k =>
          rw [hk] at hx hy
          have hx : (ps.map D.ptr)[k]? = some x := by simpa using hx
          have hy : (ps.map D.ptr)[k]? = some y := by simpa using hy
          rw [hx] at hy; cases hy
          exact .refl _
    · have := hp (i + 1) b z (by simpa using hb) (by simpa using hz)
      have ne : b ≠ a := fun e => hn'.1 (e ▸ List.mem_of_getElem? hb)
      unfold del
      rw [if_neg ne]
      exact this
    · have := p μ' fun b hb => by
        have hb' : b ≠ a ∧ b ∉ ps := by simpa using hb
        rw [hμ b hb'.2]
        unfold del
        rw [if_neg hb'.1]
      simpa using this
/-- only the well is left -/
theorem ev_wlo {a : Addr} (h : EV T te W ⟨ρ, m0⟩ (fun d μ => ∃ b, μ a = some (.well b) ∧ P d (put mu0 a (.well b))) XP) : EV T te W ⟨ρ, m0⟩ P XP := fun σ Hb H Q S q x =>
  h σ Hb H Q S (fun d μ v Hb' H' g r ⟨b, hm, p⟩ => q d _ v Hb' H' (g.forget (sub_one hm)) r p) x
/-! ### loops and comprehensions over zip -/
theorem sv_forZ {i j : Nat} {tz : TA} (h : EA T tz W ⟨ρ, m0⟩ (fun fs μ => ∃ d ds e es ρ' J, fs = [d, e] ∧ Seqd d ds ∧ Seqd e es ∧ leR (ρ' 0) ρ ∧ J 0 μ ∧ (∀ n x y μ', ds[n]? = some x → es[n]? = some y → J n μ' → SV T u W ⟨((ρ' n).set i (some x)).set j (some y), μ'⟩ (forK (InvI ρ' J) n K)) ∧ ∀ s', leR (ρ' (min ds.length es.length)) s'.r → J (min ds.length es.length) s'.m → K (.nx s')) (xk ⟨ρ, m0⟩ K)) : SV T (tFor (iZip T.K tz) (gTup T.K 2 (gCons (gName i) (gCons (gName j) gNil))) u) W ⟨ρ, m0⟩ K :=
  sv_for (iv_zip (fun σ Hb H Q S q x => h σ Hb H Q S (fun fs μ vs Hb' H' g r ⟨d, ds, e, es, ρ', J, ef, hd, he, hr, j0, turn, done⟩ => q fs μ vs Hb' H' g r ⟨d, ds, e, es, ef, hd, he, InvI ρ' J, ⟨hr, j0⟩, fun n s' hn hi => by
    have h1 : n < ds.length := by omega
    have h2 : n < es.length := by omega
    exact gv_tup rfl (gvs_cons (gv_name (gvs_cons (gv_name (gvs_nil (sv_wk ((hi.1.set i _).set j _) sub_refl (turn n _ _ s'.m (nth_get h1) (nth_get h2) hi.2)))))))
    , fun s' hi => done s' hi.1 hi.2⟩) x))
/-- [f(x, y) for x, y in zip(..) if ..] -/
theorem ev_lcZ {i j : Nat} {tz : TA} {tt : TT} (h : EA T tz W ⟨ρ, m0⟩ (fun fs μ => ∃ d ds e es, fs = [d, e] ∧ Seqd d ds ∧ Seqd e es ∧ ds.length ≤ 100000 ∧ ∃ g : D → D → Option D, (∀ x y, x ∈ ds → y ∈ es → TV T tt (fun _ _ _ _ => False) ⟨((wipeD ρ [i, j]).set i (some x)).set j (some y), μ⟩ (fun b μ1 => μ1 = μ ∧ (b = true → EV T te' (fun _ _ _ _ => False) ⟨((wipeD ρ [i, j]).set i (some x)).set j (some y), μ⟩ (fun z μ2 => g x y = some z ∧ μ2 = μ) (fun _ _ => False)) ∧ (b = false → g x y = none)) (fun _ _ => False)) ∧ P (.lst ((ds.zip es).filterMap fun p => g p.1 p.2)) μ) XP) : EV T (tLc (iZip T.K tz) (gTup T.K 2 (gCons (gName i) (gCons (gName j) gNil))) tt te' [i, j]) W ⟨ρ, m0⟩ P XP :=
  ev_lc (is := [i] ++ ([j] ++ [])) (fun _ h => h) (iv_zip (fun σ Hb H Q S q x => h σ Hb H Q S (fun fs μ vs Hb' H' g r ⟨d, ds, e, es, ef, hd, he, hl, gg, turn, done⟩ => q fs μ vs Hb' H' g r ⟨d, ds, e, es, ef, hd, he, by omega, fun k acc μ' => μ' = μ ∧ acc = ((ds.zip es).take k).filterMap (fun p => gg p.1 p.2), ⟨rfl, by simp⟩, fun k acc μ' hk _ ⟨e1, e2⟩ => by
    subst e1 e2
    have h1 : k < ds.length := by omega
    have h2 : k < es.length := by omega
    have hz : (ds.zip es)[k]? = some (nth ds k, nth es k) := by
      rw [List.getElem?_zip_eq_some]
      exact ⟨nth_get h1, nth_get h2⟩
    refine gv_tup rfl (gvs_cons (gv_name (gvs_cons (gv_name (gvs_nil ?_)))))
    intro σ2 Hb2 H2 Q2 S2 q2 x2
    refine turn _ _ (List.mem_of_getElem? (nth_get h1)) (List.mem_of_getElem? (nth_get h2)) σ2 Hb2 H2 Q2 S2 (fun b μ1 Hb3 H3 g3 ⟨em, pt, pf⟩ => q2 b μ1 Hb3 H3 g3 ⟨fun hb => ?_, fun hb => ?_⟩) x2
    · rw [em]
      refine (pt hb).imp fun z μ2 ⟨e1, e2⟩ => ⟨e2, ?_⟩
      rw [List.take_succ, List.filterMap_append, hz]
      simp [e1]
    · refine ⟨em, ?_⟩
      rw [List.take_succ, List.filterMap_append, hz]
      simp [pf hb], fun acc μ' ⟨e1, e2⟩ => by
    subst e1 e2
    rw [List.take_of_length_le (by rw [List.length_zip]; exact Nat.le_refl _)]
    exact done⟩) x))
/-- [f(x) for x in .. if ..] -/
theorem ev_lcT {i : Nat} {tt : TT} (h : EV T te W ⟨ρ, m0⟩ (fun d μ => ∃ ds, Seqd d ds ∧ ds.length ≤ 100000 ∧ ∃ g : D → Option D, (∀ x, x ∈ ds → TV T tt (fun _ _ _ _ => False) ⟨(wipeD ρ [i]).set i (some x), μ⟩ (fun b μ1 => μ1 = μ ∧ (b = true → EV T te' (fun _ _ _ _ => False) ⟨(wipeD ρ [i]).set i (some x), μ⟩ (fun z μ2 => g x = some z ∧ μ2 = μ) (fun _ _ => False)) ∧ (b = false → g x = none)) (fun _ _ => False)) ∧ P (.lst (ds.filterMap g)) μ) XP) : EV T (tLc (iList T.K te) (gName i) tt te' [i]) W ⟨ρ, m0⟩ P XP :=
  ev_lc (is := [i]) (fun _ h => h) (iv_list (h.imp fun d μ ⟨ds, hd, hl, gg, turn, done⟩ => ⟨ds, hd, hl, fun k acc μ' => μ' = μ ∧ acc = (ds.take k).filterMap gg, ⟨rfl, by simp⟩, fun k acc μ' hk _ ⟨e1, e2⟩ => by
    subst e1 e2
    refine gv_name ?_
    intro σ2 Hb2 H2 Q2 S2 q2 x2
    refine turn _ (List.mem_of_getElem? (nth_get hk)) σ2 Hb2 H2 Q2 S2 (fun b μ1 Hb3 H3 g3 ⟨em, pt, pf⟩ => q2 b μ1 Hb3 H3 g3 ⟨fun hb => ?_, fun hb => ?_⟩) x2
    · rw [em]
      refine (pt hb).imp fun z μ2 ⟨e1, e2⟩ => ⟨e2, ?_⟩
      rw [List.take_succ, List.filterMap_append, nth_get hk]
      simp [e1]
    · refine ⟨em, ?_⟩
      rw [List.take_succ, List.filterMap_append, nth_get hk]
      simp [pf hb], fun acc μ' ⟨e1, e2⟩ => by
    subst e1 e2
    rw [List.take_length]
    exact done⟩))
/-- [f(x) for x in a tuple] -/
theorem ev_lcU {i : Nat} (h : EV T te W ⟨ρ, m0⟩ (fun d μ => ∃ (ds : List D) (f : D → D), d = .tup ds ∧ ds.length ≤ 100000 ∧ (∀ e ∈ ds, EV T te' (fun _ _ _ _ => False) ⟨(wipeD ρ [i]).set i (some e), μ⟩ (fun x μ' => x = f e ∧ μ' = μ) (fun _ _ => False)) ∧ P (.lst (ds.map f)) μ) XP) : EV T (tLc (iTup T.K te) (gName i) tYes te' [i]) W ⟨ρ, m0⟩ P XP :=
  ev_lc (is := [i]) (fun _ h => h) (iv_tup (h.imp fun d μ ⟨ds, f, hs, hl, turn, done⟩ => ⟨ds, hs, hl, fun n acc μ' => μ' = μ ∧ acc = (ds.take n).map f, ⟨rfl, by simp⟩, fun n acc μ' hn _ ⟨e1, e2⟩ => by
    subst e1 e2
    refine gv_name (tv_yes ⟨fun _ => ?_, fun e => (nomatch e)⟩)
    have hm : nth ds n ∈ ds := List.mem_of_getElem? (nth_get hn)
    refine (turn _ hm).imp fun x μ2 ⟨e1, e2⟩ => ⟨e2, ?_⟩
    rw [e1, List.take_succ, nth_get hn]
    simp, fun acc μ' ⟨e1, e2⟩ => by
    subst e1 e2
    rw [List.take_length]
    exact done⟩))
/-! ### small ones -/
theorem ov_isN0 (p : P (.bl true) μ) : OV T rIsN .non .non μ P := ov_of (fun x y Hb H Q ex rx ry q => by
  cases rx; cases ry
  refine ⟨rfl, q _ ?_⟩
  rw [decide_eq_true rfl]
  exact .bl _) p
theorem ov_isNT {ds : List D} (p : P (.bl false) μ) : OV T rIsN (.tup ds) .non μ P := ov_of (fun x y Hb H Q ex rx ry q => by
  obtain ⟨a, xs, rfl, _, _⟩ := rx.tup_inv
  cases ry
  refine ⟨rfl, q _ ?_⟩
  rw [decide_eq_false (by simp)]
  exact .bl _) p
theorem cv_max2 {i j : Int} (p : P (.int (if j > i then j else i)) μ) : CV T Evl.rMax2 [.int i, .int j] μ P := cv_of (fun xs Hb H Q ex r q => by
  obtain ⟨v, w, rfl, r1, r2⟩ := two_inv r
  cases r1; cases r2
  exact ⟨i, j, rfl, q _ (.int _)⟩) p
end
abbrev rNotB : R2 := fun x y H Q => ∃ a b, x = .bl a ∧ y = .bl b ∧ Q (.bl (!decide (a = b))) H
theorem ov_notB {T : Cfg} {P : D → Mu → Prop} {μ : Mu} {a b : Bool} (p : P (.bl (!decide (a = b))) μ) : OV T rNotB (.bl a) (.bl b) μ P := ov_of (fun x y Hb H Q ex rx ry q => by
  cases rx; cases ry
  exact ⟨a, b, rfl, rfl, q _ (.bl _)⟩) p
end Pw

namespace FM
theorem fdiv_exact {g k : Int} (hg : g ≠ 0) : (g * k).fdiv g = k := Int.mul_fdiv_cancel_left _ hg
theorem num_ok {i j : Int} (hj : j ≠ 0) : i.fdiv (((Nat.gcd i.natAbs j.natAbs : Nat) : Int) * (if 0 < j then 1 else -1)) = (Rat.divInt i j).num := by
  have hg : 0 < Nat.gcd i.natAbs j.natAbs := Nat.gcd_pos_of_pos_right _ (by omega)
  have e : j.gcd i = Nat.gcd i.natAbs j.natAbs := by rw [Int.gcd, Nat.gcd_comm]
  rw [Rat.num_divInt, e]
  obtain ⟨k, hk⟩ : ((Nat.gcd i.natAbs j.natAbs : Nat) : Int) ∣ i := by
    rw [← Int.natAbs_dvd_natAbs]; simpa using Nat.gcd_dvd_left i.natAbs j.natAbs
  generalize hgg : ((Nat.gcd i.natAbs j.natAbs : Nat) : Int) = g at *
  have g0 : g ≠ 0 := by omega
  by_cases h : 0 < j
  · rw [if_pos h, Int.mul_one, Int.sign_eq_one_of_pos h, Int.one_mul, hk, fdiv_exact g0, Int.mul_ediv_cancel_left _ g0]
  · have h' : j < 0 := by omega
    rw [if_neg h, Int.sign_eq_neg_one_of_neg h', hk]
    rw [show g * k = (g * -1) * (-k) by rw [Int.mul_assoc]; congr 1; omega, fdiv_exact (by omega)]
    rw [show -1 * ((g * -1) * (-k)) = g * (-k) by rw [Int.mul_assoc g, ← Int.mul_assoc, Int.mul_comm (-1) g, Int.mul_assoc]; congr 1; omega, Int.mul_ediv_cancel_left _ g0]
theorem den_ok {i j : Int} (hj : j ≠ 0) : j.fdiv (((Nat.gcd i.natAbs j.natAbs : Nat) : Int) * (if 0 < j then 1 else -1)) = ((Rat.divInt i j).den : Int) := by
  have hg : 0 < Nat.gcd i.natAbs j.natAbs := Nat.gcd_pos_of_pos_right _ (by omega)
  have e : j.gcd i = Nat.gcd i.natAbs j.natAbs := by rw [Int.gcd, Nat.gcd_comm]
  rw [Rat.den_divInt, e, if_neg hj]
  obtain ⟨k, hk⟩ : Nat.gcd i.natAbs j.natAbs ∣ j.natAbs := Nat.gcd_dvd_right i.natAbs j.natAbs
  generalize hgg : Nat.gcd i.natAbs j.natAbs = g at *
  rw [hk, Nat.mul_div_cancel_left _ hg]
  by_cases h : 0 < j
  · have hj2 : j = (g : Int) * (k : Int) := by rw [← Int.natCast_mul, ← hk]; omega
    rw [if_pos h, Int.mul_one, hj2, fdiv_exact (by omega)]
  · have hj2 : j = ((g : Int) * -1) * (k : Int) := by rw [Int.mul_assoc, Int.neg_one_mul, Int.mul_neg, ← Int.natCast_mul, ← hk]; omega
    rw [if_neg h]
    rw [show j.fdiv ((g : Int) * -1) = (((g : Int) * -1) * (k : Int)).fdiv ((g : Int) * -1) by rw [← hj2], fdiv_exact (by omega)]
theorem mk_add (p q : Rat) : Rat.divInt (p.num * q.den + q.num * p.den) (p.den * q.den) = p + q := by
  rw [Rat.add_def', ← Rat.divInt_ofNat]; simp
theorem mk_sub (p q : Rat) : Rat.divInt (p.num * q.den - q.num * p.den) (p.den * q.den) = p - q := by
  rw [Rat.sub_def', ← Rat.divInt_ofNat]; simp
theorem mk_mul (p q : Rat) : Rat.divInt (p.num * q.num) (p.den * q.den) = p * q := by
  rw [Rat.mul_def', ← Rat.divInt_ofNat]; simp
theorem mk_div (p q : Rat) : Rat.divInt (p.num * q.den) (p.den * q.num) = p / q := by
  rw [Rat.div_def, Rat.inv_def]
  conv => rhs; rw [← Rat.num_divInt_den p]
  rw [Rat.divInt_mul_divInt]
theorem mk_int (i : Int) : Rat.divInt i 1 = (i : Rat) := by
  rw [Rat.divInt_eq_div]; grind
theorem less_iff (p q : Rat) : p.num * q.den < q.num * p.den ↔ p < q := (Rat.lt_iff p q).symm
/-! sizes -/
def Bq (n : Nat) (q : Rat) : Prop := q.num.natAbs < 2 ^ n ∧ q.den < 2 ^ n
theorem Bq.mono {n m : Nat} {q : Rat} (h : Bq n q) (k : n ≤ m) : Bq m q :=
  ⟨Nat.lt_of_lt_of_le h.1 (Nat.pow_le_pow_right (by decide) k), Nat.lt_of_lt_of_le h.2 (Nat.pow_le_pow_right (by decide) k)⟩
/-- dividing by the common part does not make greater -/
theorem bq_divInt {i j : Int} {n : Nat} (hi : i.natAbs < 2 ^ n) (hj : j.natAbs < 2 ^ n) (h0 : 0 < n) : Bq n (Rat.divInt i j) := by
  constructor
  · rw [Rat.num_divInt]
    refine Nat.lt_of_le_of_lt ?_ hi
    rw [Int.natAbs_ediv_of_dvd]
    · refine Nat.le_trans (Nat.div_le_self _ _) ?_
      rw [Int.natAbs_mul]
      have : j.sign.natAbs ≤ 1 := by
        rcases Int.lt_trichotomy j 0 with h | h | h
        · rw [Int.sign_eq_neg_one_of_neg h]; decide
        · rw [h]; decide
        · rw [Int.sign_eq_one_of_pos h]; decide
      calc j.sign.natAbs * i.natAbs ≤ 1 * i.natAbs := Nat.mul_le_mul_right _ this
        _ = i.natAbs := Nat.one_mul _
    · exact Int.dvd_mul_of_dvd_right (Int.gcd_dvd_right ..)
  · rw [Rat.den_divInt]
    split
    · exact Nat.one_lt_two_pow (by omega)
    · exact Nat.lt_of_le_of_lt (Nat.div_le_self _ _) hj
theorem natAbs_mul_lt {a b : Int} {n m : Nat} (h : a.natAbs < 2 ^ n) (k : b.natAbs < 2 ^ m) : (a * b).natAbs < 2 ^ (n + m) := by
  rw [Int.natAbs_mul, Nat.pow_add]
  exact Nat.mul_lt_mul'' h k
theorem natAbs_add_lt {a b : Int} {n : Nat} (h : a.natAbs < 2 ^ n) (k : b.natAbs < 2 ^ n) : (a + b).natAbs < 2 ^ (n + 1) := by
  rw [Nat.pow_succ]; omega
theorem natAbs_sub_lt {a b : Int} {n : Nat} (h : a.natAbs < 2 ^ n) (k : b.natAbs < 2 ^ n) : (a - b).natAbs < 2 ^ (n + 1) := by
  rw [Nat.pow_succ]; omega
theorem up {a n m : Nat} (h : a < 2 ^ n) (k : n ≤ m) : a < 2 ^ m := Nat.lt_of_lt_of_le h (Nat.pow_le_pow_right (by decide) k)
theorem Bq.add {n m : Nat} {p q : Rat} (h : Bq n p) (k : Bq m q) : Bq (n + m + 1) (p + q) := by
  rw [← mk_add]
  refine bq_divInt ?_ ?_ (by omega)
  · refine natAbs_add_lt (natAbs_mul_lt h.1 (by simpa using k.2)) ?_
    rw [Nat.add_comm]
    exact natAbs_mul_lt k.1 (by simpa using h.2)
  · exact up (natAbs_mul_lt (by simpa using h.2) (by simpa using k.2)) (by omega)
theorem Bq.sub {n m : Nat} {p q : Rat} (h : Bq n p) (k : Bq m q) : Bq (n + m + 1) (p - q) := by
  rw [← mk_sub]
  refine bq_divInt ?_ ?_ (by omega)
  · refine natAbs_sub_lt (natAbs_mul_lt h.1 (by simpa using k.2)) ?_
    rw [Nat.add_comm]
    exact natAbs_mul_lt k.1 (by simpa using h.2)
  · exact up (natAbs_mul_lt (by simpa using h.2) (by simpa using k.2)) (by omega)
theorem Bq.mul {n m : Nat} {p q : Rat} (h : Bq n p) (k : Bq m q) (h0 : 0 < n + m) : Bq (n + m) (p * q) := by
  rw [← mk_mul]
  refine bq_divInt (natAbs_mul_lt h.1 k.1) (natAbs_mul_lt (by simpa using h.2) (by simpa using k.2)) h0
theorem Bq.div {n m : Nat} {p q : Rat} (h : Bq n p) (k : Bq m q) (h0 : 0 < n + m) : Bq (n + m) (p / q) := by
  rw [← mk_div]
  refine bq_divInt (natAbs_mul_lt h.1 (by simpa using k.2)) (natAbs_mul_lt (by simpa using h.2) k.1) h0
theorem sum_take_succ {qs : List Rat} {i : Nat} (h : i < qs.length) : (qs.take (i + 1)).sum = (qs.take i).sum + qs[i] := by
  rw [List.take_succ_eq_append_getElem h, List.sum_append]
  simp [List.sum_cons, Rat.add_zero]
end FM

namespace Far
open PySem PySem.Spec PyProof.Rows L2 Pw
/-! ### shares as rationals -/
def shF (q : Rat) : List (Str × D) := [("top", .int q.num), ("bottom", .int (q.den : Int))]
def shD (q : Rat) : D := .ins 0 (shF q)
def tagOf : D → String
  | .non => "NoneType"
  | .int _ => "int"
  | .bl _ => "bool"
  | .str _ => "str"
  | .lst _ => "list"
  | .tup _ => "tuple"
  | .dic _ => "dict"
  | _ => ""
def kk (a n : String) : Bool := n == a || (a == "bool" && n == "int")
def kindOf (d : D) (n : String) : Bool := kk (tagOf d) n
def isSh : D → Bool
  | .ins 0 _ => true
  | _ => false
def tys : List String := ["int", "bool", "str", "list", "tuple", "dict"]
/-- a thing of which isinstance can be asked -/
structure Thing (T : Cfg) (d : D) (t : Value) : Prop where
  ty : TyD T d t
  kd : ∀ n ∈ tys, PySem.W.kitOne T.K t (.type n) = some (kindOf d n)
  sh : PySem.W.kitOne T.K t (.ref (T.cls 0)) = some (isSh d)
  nf : PySem.W.notFirst T.K (T.cls 0) t = true
structure ShOk (T : Cfg) : Prop where
  cl : Cls T.K (T.cls 0)
  nt : NoAttr T.K (T.cls 0) "top"
  nb : NoAttr T.K (T.cls 0) "bottom"
  ic : InsCls T.K (T.cls 0)
  kb : ∀ n ∈ ["NoneType", "int", "bool", "str", "list", "tuple", "dict"], PySem.W.subIn T.K (.type n) (.ref (T.cls 0)) = some false ∧ PySem.W.kitOne T.K (.type n) (.ref (T.cls 0)) = some false
  ko : ∀ n ∈ tys, PySem.W.kitOne T.K (.ref (T.cls 0)) (.type n) = some false
def tags : List String := ["NoneType", "int", "bool", "str", "list", "tuple", "dict"]
theorem kit_tab : ∀ a ∈ tags, ∀ n ∈ tys, kitB a n = some (kk a n) := by decide +kernel
section
variable {T : Cfg}
theorem nf_of {n : String} (h : PySem.W.subIn T.K (.type n) (.ref (T.cls 0)) = some false) : PySem.W.notFirst T.K (T.cls 0) (.type n) = true := by
  unfold PySem.W.notFirst
  rw [h]
  simp
theorem th_int (h : ShOk T) (i : Int) : Thing T (.int i) (.type "int") := ⟨.int i, fun n hn => kit_ty (kit_tab _ (by simp [tags]) n hn), (h.kb "int" (by simp)).2, nf_of (h.kb "int" (by simp)).1⟩
theorem th_bl (h : ShOk T) (i : Bool) : Thing T (.bl i) (.type "bool") := ⟨.bl i, fun n hn => kit_ty (kit_tab _ (by simp [tags]) n hn), (h.kb "bool" (by simp)).2, nf_of (h.kb "bool" (by simp)).1⟩
theorem th_non (h : ShOk T) : Thing T .non (.type "NoneType") := ⟨.non, fun n hn => kit_ty (kit_tab _ (by simp [tags]) n hn), (h.kb "NoneType" (by simp)).2, nf_of (h.kb "NoneType" (by simp)).1⟩
theorem th_str (h : ShOk T) (x : Str) : Thing T (.str x) (.type "str") := ⟨.str x, fun n hn => kit_ty (kit_tab _ (by simp [tags]) n hn), (h.kb "str" (by simp)).2, nf_of (h.kb "str" (by simp)).1⟩
theorem th_lst (h : ShOk T) (ds : List D) : Thing T (.lst ds) (.type "list") := ⟨.lst ds, fun n hn => kit_ty (kit_tab _ (by simp [tags]) n hn), (h.kb "list" (by simp)).2, nf_of (h.kb "list" (by simp)).1⟩
theorem th_tup (h : ShOk T) (ds : List D) : Thing T (.tup ds) (.type "tuple") := ⟨.tup ds, fun n hn => kit_ty (kit_tab _ (by simp [tags]) n hn), (h.kb "tuple" (by simp)).2, nf_of (h.kb "tuple" (by simp)).1⟩
theorem th_dic (h : ShOk T) (ds : List (Key × D)) : Thing T (.dic ds) (.type "dict") := ⟨.dic ds, fun n hn => kit_ty (kit_tab _ (by simp [tags]) n hn), (h.kb "dict" (by simp)).2, nf_of (h.kb "dict" (by simp)).1⟩
theorem kit_self {K : PySem.W.Frag} {C : Addr} : PySem.W.kitOne K (.ref C) (.ref C) = some true := by
  unfold PySem.W.kitOne
  rw [if_pos (by simp)]
theorem th_sh (h : ShOk T) (q : Rat) : Thing T (shD q) (.ref (T.cls 0)) := ⟨.ins h.ic, fun n hn => by
  rw [h.ko n hn]
  simp only [tys, List.mem_cons, List.not_mem_nil, or_false] at hn
  rcases hn with rfl | rfl | rfl | rfl | rfl | rfl <;> rfl, kit_self, by unfold PySem.W.notFirst; simp⟩
end
end Far
/-! ### steps of the pure walk -/
local macro_rules | `(tactic| walk_at "qw") => `(tactic| first
  | (with_reducible refine Pw.ev_op ?_)
  | ((with_reducible refine Pw.ev_var (d := ?d) ?h ?_); (case h => rfl))
  | (with_reducible refine Pw.ev_int ?_)
  | (with_reducible refine Pw.ev_bl ?_)
  | (with_reducible refine Pw.ev_str ?_)
  | (with_reducible refine Pw.ev_non ?_)
  | (with_reducible refine Pw.ev_ty ?_)
  | (with_reducible refine Pw.ev_ref ?_)
  | (with_reducible refine Pw.ev_cb ?_)
  | (with_reducible refine Pw.ev_un ?_)
  | (with_reducible refine Pw.ea_cons ?_)
  | (with_reducible refine Pw.ea_nil ?_)
  | (with_reducible refine Pw.ev_cal0 ?_)
  | (with_reducible refine Pw.ev_calW ?_)
  | (with_reducible refine Pw.ev_mak0 ?_)
  | (with_reducible refine Pw.ev_mak1 ?_)
  | (with_reducible refine Pw.ev_if ?_)
  | (with_reducible refine Pw.ev_and ?_)
  | (with_reducible refine Pw.ev_or ?_)
  | (with_reducible refine Pw.ev_not ?_)
  | (with_reducible refine Pw.tv_test ?_)
  | (with_reducible refine Pw.tv_B ?_)
  | (with_reducible refine Pw.tv_and ?_)
  | (with_reducible refine Pw.tv_or ?_)
  | (with_reducible refine Pw.tv_not ?_)
  | (with_reducible refine Pw.tv_yes ?_)
  | (with_reducible refine Pw.po_no ?_)
  | (with_reducible refine Pw.po_so ?_)
  | (with_reducible refine Pw.sv_seq ?_)
  | (with_reducible refine Pw.sv_asg ?_)
  | (with_reducible refine Pw.sv_ret ?_)
  | (with_reducible refine Pw.sv_if ?_)
  | (with_reducible refine Pw.sv_par ?_)
  | (with_reducible refine Pw.sv_next ?_)
  | (with_reducible refine Pw.sv_drop ?_)
  | (with_reducible refine Pw.sv_fld ?_)
  | (with_reducible refine Pw.ov_add ?_)
  | (with_reducible refine Pw.ov_sub ?_)
  | (with_reducible refine Pw.ov_lt ?_)
  | (with_reducible refine Pw.ov_le ?_)
  | (with_reducible refine Pw.ov_gt ?_)
  | (with_reducible refine Pw.ov_ge ?_)
  | (with_reducible refine Pw.ov_eqI ?_)
  | (with_reducible refine Pw.ov_neI ?_)
  | (with_reducible refine Pw.ov_eqS ?_)
  | (with_reducible refine Pw.ov_neS ?_)
  | (with_reducible refine Pw.ov_eqB ?_)
  | (with_reducible refine Pw.ov_neB ?_)
  | (with_reducible refine Pw.cv_abs ?_)
  | (with_reducible refine Pw.cv_intB ?_)
  | (with_reducible refine Pw.uv_neg ?_)
  | (with_reducible refine Pw.seqK_nx ?_)
  | (with_reducible refine Pw.seqK_rt ?_)
  | (with_reducible refine Pw.seqK_xr ?_)
  | (with_reducible refine Pw.seqK_ct ?_)
  | (with_reducible refine Pw.seqK_bk ?_)
  | (with_reducible refine Pw.whK_rt ?_)
  | (with_reducible refine Pw.whK_xr ?_)
  | (with_reducible refine Pw.whK_bk ?_)
  | (with_reducible refine Pw.forK_nx ?_)
  | (with_reducible refine Pw.forK_ct ?_)
  | (with_reducible refine Pw.forK_rt ?_)
  | (with_reducible refine Pw.forK_xr ?_)
  | (with_reducible refine Pw.forK_bk ?_)
  | (with_reducible refine Pw.fnK_rt ?_)
  | (with_reducible refine Pw.fnK_nx ?_)
  | (with_reducible refine Pw.fnK_xr ?_))
local macro_rules | `(tactic| walk_at "qws") => `(tactic| repeat (walk_at "qw"))
namespace Far
open PySem PySem.Spec PyProof.Rows L2 Pw
abbrev PC := List D → (D → Prop) → (XD → Prop) → Prop
def isInt : D → Bool
  | .int _ => true
  | _ => false
def c_is_whole (T : Cfg) : PC := fun ds P _ => ∃ d t, ds = [d] ∧ Thing T d t ∧ P (.bl (isInt d))
def c_common (T : Cfg) : PC := fun ds P _ => ∃ a b : Nat, ds = [.int a, .int b] ∧ P (.int (Nat.gcd a b : Nat))
theorem len_is_whole {T : Cfg} : ∀ ds μ P XP, pu (c_is_whole T) ds μ P XP → ds.length = 1 := by
  rintro ds μ P XP ⟨rfl, Pf, Xf, ⟨d, t, rfl, _⟩, _⟩
  rfl
theorem len_common {T : Cfg} : ∀ ds μ P XP, pu (c_common T) ds μ P XP → ds.length = 2 := by
  rintro ds μ P XP ⟨rfl, Pf, Xf, ⟨a, b, rfl, _⟩, _⟩
  rfl
def t_is_whole (T : Cfg) (E : XK) : TS := (tRet (tAndV (tCB (rIsi T.K) (tCons (tVar 0) (tCons (tC (.ty "int")) tNil))) (tNotV (tCB (rIsi T.K) (tCons (tVar 0) (tCons (tC (.ty "bool")) tNil))))))
def t_common (T : Cfg) (E : XK) : TS := (tSeq (tWhile (tTest (tOp rNe (tVar 1) (tC (.int 0)))) (tPar 0 1 (tCons (tVar 1) (tCons (tOp (rI (fun _ j => j ≠ 0) fun i j => .int (i.fmod j)) (tVar 0) (tVar 1)) tNil))))
    (tRet (tVar 0)))

theorem int_kind {d : D} {T : Cfg} {t : Value} (h : Thing T d t) : (kindOf d "int" && !kindOf d "bool") = isInt d := by
  cases h.ty <;> rfl
theorem pure_is_whole {T : Cfg} (hT : ShOk T) : ∀ E ds μ P XP, pu (c_is_whole T) ds μ P XP → SV T (t_is_whole T E) (fun cls dd _ H => E cls dd H) ⟨slots 1 ds, μ⟩ (fnK P XP) := by
  rintro E ds μ P XP ⟨rfl, Pf, Xf, ⟨d, t, rfl, hd, p⟩, hP, hX⟩
  unfold t_is_whole
  have e := int_kind hd
  repeat walk_at "qw"
  refine cv_isiT hd.ty (hd.kd "int" (by decide)) ⟨_, rfl, fun h1 => ?_, fun h1 => ?_⟩
  · repeat walk_at "qw"
    refine cv_isiT hd.ty (hd.kd "bool" (by decide)) ⟨_, rfl, ?_⟩
    rw [h1, Bool.true_and] at e
    rw [e]
    exact hP _ p
  · rw [h1, Bool.false_and] at e
    rw [e]
    exact hP _ p
theorem pure_common {T : Cfg} (hT : ShOk T) : ∀ E ds μ P XP, pu (c_common T) ds μ P XP → SV T (t_common T E) (fun cls dd _ H => E cls dd H) ⟨slots 2 ds, μ⟩ (fnK P XP) := by
  rintro E ds μ P XP ⟨rfl, Pf, Xf, ⟨a, b, rfl, p⟩, hP, hX⟩
  unfold t_common
  walk_at "qw"
  refine sv_while (fun n s => ∃ x : Nat, s = ⟨[some (.int x), some (.int n)], mu0⟩ ∧ Nat.gcd x n = Nat.gcd a b) b ⟨a, rfl, rfl⟩ ?_
  rintro n s ⟨x, rfl, hg⟩
  repeat walk_at "qw"
  refine ⟨_, rfl, fun h1 => ?_, fun h1 => ?_⟩
  · repeat walk_at "qw"
    have hn : n ≠ 0 := by
      intro z; subst z; simp at h1
    refine ov_mod (by omega) ?_
    repeat walk_at "qw"
    refine ⟨_, _, rfl, x % n, Nat.mod_lt _ (by omega), n, ?_, ?_⟩
    · have : (x : Int).fmod (n : Int) = ((x % n : Nat) : Int) := by
        rw [Int.fmod_eq_emod_of_nonneg _ (by omega)]; rfl
      rw [this]
      rfl
    · rw [← hg, Nat.gcd_comm x n, Nat.gcd_rec n x, Nat.gcd_comm]
  · have hn : n = 0 := by
      simp at h1; omega
    subst hn
    rw [Nat.gcd_zero_right] at hg
    rw [hg]
    walk_at "qws"
    exact hP _ p
def c_Share___init__ (T : Cfg) : List D → (List (Str × D) → Prop) → (XD → Prop) → Prop := fun ds P X => ∃ d e t u, ds = [d, e] ∧ Thing T d t ∧ Thing T e u ∧
  ((∃ i j : Int, d = .int i ∧ e = .int j ∧ j ≠ 0 ∧ Bt 9000 j ∧ P (shF (Rat.divInt i j))) ∨ ((isInt d = false ∨ isInt e = false ∨ e = .int 0) ∧ X ⟨.ref (He.ga T.K "NoShare"), none⟩))
theorem len_Share___init__ {T : Cfg} : ∀ ds μ P XP, ini 0 (c_Share___init__ T) ds μ P XP → ds.length = 3 := by
  rintro ds μ P XP ⟨a, rest, rfl, rfl, Pf, Xf, ⟨d, e, t, u, rfl, _⟩, _⟩
  rfl
def t_Share___init__ (T : Cfg) (E : XK) : TS := (tSeq (tIfS (tOr (tNot (tB (tCall (spOf T (pu (c_is_whole T))) [] E0 (tCons (tVar 1) tNil)))) (tOr (tNot (tB (tCall (spOf T (pu (c_is_whole T))) [] E0 (tCons (tVar 2) tNil)))) (tTest (tOp rEq (tVar 2) (tC (.int 0)))))) (tRaise0 (He.ga T.K "NoShare") E) tNext)
    (tSeq (tAsg (tOp (rI IntMulOk fun i j => .int (i * j)) (tCall (spOf T (pu (c_common T))) [] E0 (tCons (tCB rAbs (tCons (tVar 1) tNil)) (tCons (tCB rAbs (tCons (tVar 2) tNil)) tNil))) (tIf (tTest (tOp (rI0 fun i j => .bl (decide (j < i))) (tVar 2) (tC (.int 0)))) (tC (.int 1)) (tUn (rU fun i => .int (-i)) (tC (.int 1))))) (gName 3))
    (tSeq (sFld T.K (tVar 0) (tOp (rI CFd fun i j => .int (i.fdiv j)) (tVar 1) (tVar 3)) "top")
    (sFld T.K (tVar 0) (tOp (rI CFd fun i j => .int (i.fdiv j)) (tVar 2) (tVar 3)) "bottom"))))
theorem gcd_log {i j : Int} (h : Bt 9000 j) (hj : j ≠ 0) : (((Nat.gcd i.natAbs j.natAbs : Nat) : Int) * (if 0 < j then 1 else -1)).natAbs.log2 < 9000 := by
  have h1 : Nat.gcd i.natAbs j.natAbs ≤ j.natAbs := Nat.le_of_dvd (by omega) (Nat.gcd_dvd_right ..)
  have h2 : (((Nat.gcd i.natAbs j.natAbs : Nat) : Int) * (if 0 < j then 1 else -1)).natAbs = Nat.gcd i.natAbs j.natAbs := by split <;> simp
  rw [h2]
  exact PySem.Flt.log2_lt_of (by decide) (Nat.lt_of_le_of_lt h1 h)
theorem by_ne {i j : Int} (hj : j ≠ 0) : ((Nat.gcd i.natAbs j.natAbs : Nat) : Int) * (if 0 < j then 1 else -1) ≠ 0 := by
  have h : 0 < Nat.gcd i.natAbs j.natAbs := Nat.gcd_pos_of_pos_right _ (by omega)
  split <;> omega
theorem pure_Share___init__ {T : Cfg} (hT : ShOk T) : ∀ E ds μ P XP, ini 0 (c_Share___init__ T) ds μ P XP → SV T (t_Share___init__ T E) (fun cls dd _ H => E cls dd H) ⟨slots 4 ds, μ⟩ (fnK P XP) := by
  rintro E ds μ P XP ⟨a, rest, rfl, rfl, Pf, Xf, ⟨d, e, t, u, rfl, hd, he, h⟩, hP, hX⟩
  unfold t_Share___init__
  have bad : (isInt d = false ∨ isInt e = false ∨ e = .int 0) → Xf ⟨.ref (He.ga T.K "NoShare"), none⟩ := fun hb => by
    rcases h with ⟨i, j, rfl, rfl, hj, _⟩ | ⟨_, hx⟩
    · rcases hb with hb | hb | hb
      · cases hb
      · cases hb
      · cases hb; exact absurd rfl hj
    · exact hx
  walk_at "qws"
  refine ⟨d, t, rfl, hd, _, rfl, fun h1 => ?_, fun h1 => ⟨fun _ => ?_, fun z => by cases z⟩⟩
  · have hd1 : isInt d = true := by simpa using h1
    obtain ⟨i, rfl⟩ : ∃ i, d = .int i := by cases d <;> first | exact ⟨_, rfl⟩ | cases hd1
    walk_at "qws"
    refine ⟨e, u, rfl, he, _, rfl, fun h2 => ?_, fun h2 => ⟨fun _ => ?_, fun z => by cases z⟩⟩
    · have he1 : isInt e = true := by simpa using h2
      obtain ⟨j, rfl⟩ : ∃ j, e = .int j := by cases e <;> first | exact ⟨_, rfl⟩ | cases he1
      walk_at "qws"
      refine ⟨_, rfl, fun h3 => ?_, fun h3 => ?_⟩
      · have hj : j = 0 := by simpa using h3
        subst hj
        refine sv_raise0 (fun _ _ _ _ z => z) ?_
        exact hX _ _ (bad (.inr (.inr rfl)))
      · have hj : j ≠ 0 := by simpa using h3
        obtain ⟨hb, hp⟩ : Bt 9000 j ∧ Pf (shF (Rat.divInt i j)) := by
          rcases h with ⟨i', j', e1, e2, _, hb, hp⟩ | ⟨h, _⟩
          · cases e1; cases e2; exact ⟨hb, hp⟩
          · rcases h with h | h | h
            · cases h
            · cases h
            · cases h; exact absurd rfl hj
        walk_at "qws"
        refine ⟨_, _, rfl, ?_⟩
        walk_at "qws"
        refine ⟨_, rfl, fun h4 => ?_, fun h4 => ?_⟩
        all_goals
          walk_at "qws"
          refine ov_mul (IntMulOk.of_right (by decide)) ?_
          walk_at "qws"
        · have ej : (if 0 < j then (1 : Int) else -1) = 1 := if_pos (by simpa using h4)
          have h5 := by_ne (i := i) hj
          have h6 := gcd_log (i := i) hb hj
          have e1 := FM.num_ok (i := i) hj
          have e2 := FM.den_ok (i := i) hj
          rw [ej] at h5 h6 e1 e2
          refine ov_fdiv ⟨h5, h6⟩ ?_
          walk_at "qws"
          refine ⟨a, 0, [], rfl, put_same, hT.cl, hT.nt, by decide, ?_⟩
          rw [put_put]
          walk_at "qws"
          refine ov_fdiv ⟨h5, h6⟩ ?_
          walk_at "qws"
          refine ⟨a, 0, _, rfl, put_same, hT.cl, hT.nb, (by show 1 < 1000; decide), ?_⟩
          rw [put_put, e1, e2]
          exact hP _ hp
        · have ej : (if 0 < j then (1 : Int) else -1) = -1 := if_neg (by simpa using h4)
          have h5 := by_ne (i := i) hj
          have h6 := gcd_log (i := i) hb hj
          have e1 := FM.num_ok (i := i) hj
          have e2 := FM.den_ok (i := i) hj
          rw [ej] at h5 h6 e1 e2
          refine ov_fdiv ⟨h5, h6⟩ ?_
          walk_at "qws"
          refine ⟨a, 0, [], rfl, put_same, hT.cl, hT.nt, by decide, ?_⟩
          rw [put_put]
          walk_at "qws"
          refine ov_fdiv ⟨h5, h6⟩ ?_
          walk_at "qws"
          refine ⟨a, 0, _, rfl, put_same, hT.cl, hT.nb, (by show 1 < 1000; decide), ?_⟩
          rw [put_put, e1, e2]
          exact hP _ hp
    · refine sv_raise0 (fun _ _ _ _ z => z) ?_
      exact hX _ _ (bad (.inr (.inl (by simpa using h2))))
  · refine sv_raise0 (fun _ _ _ _ z => z) ?_
    exact hX _ _ (bad (.inl (by simpa using h1)))
theorem look_bot (q : Rat) : (shF q).lookup ("bottom" : Str) = some (D.int (q.den : Int)) := by
  unfold shF
  rw [List.lookup_cons]
  have h : (("bottom" : Str) == "top") = false := by decide +kernel
  rw [h]
  simp [List.lookup]
section
variable {T : Cfg} {W : WX} {ρ : List (Option D)} {m0 : Mu} {XP : XW} {P : D → Mu → Prop} {ta : TE}
theorem ev_top (hT : ShOk T) (h : EV T ta W ⟨ρ, m0⟩ (fun d μ => ∃ q, d = shD q ∧ P (.int q.num) μ) XP) : EV T (tFld T.K ta "top") W ⟨ρ, m0⟩ P XP :=
  ev_fld (h.imp fun d μ ⟨q, e, p⟩ => ⟨0, shF q, .int q.num, e, hT.cl, hT.nt, rfl, p⟩)
theorem ev_bot (hT : ShOk T) (h : EV T ta W ⟨ρ, m0⟩ (fun d μ => ∃ q, d = shD q ∧ P (.int (q.den : Int)) μ) XP) : EV T (tFld T.K ta "bottom") W ⟨ρ, m0⟩ P XP :=
  ev_fld (h.imp fun d μ ⟨q, e, p⟩ => ⟨0, shF q, .int (q.den : Int), e, hT.cl, hT.nb, look_bot q, p⟩)
end
open FM (Bq)
theorem _root_.FM.Bq.bn {n : Nat} {q : Rat} (h : Bq n q) : Bt n q.num := h.1
theorem _root_.FM.Bq.bd {n : Nat} {q : Rat} (h : Bq n q) : Bt n (q.den : Int) := by
  show ((q.den : Int)).natAbs < 2 ^ n
  simpa using h.2
theorem den_ne (q : Rat) : (q.den : Int) ≠ 0 := by have := q.den_nz; omega
theorem i_init {T : Cfg} (hT : ShOk T) {i j : Int} {P : List (Str × D) → Prop} {X : XD → Prop} (hj : j ≠ 0) (hb : Bt 9000 j) (p : P (shF (Rat.divInt i j))) : c_Share___init__ T [.int i, .int j] P X :=
  ⟨.int i, .int j, _, _, rfl, th_int hT i, th_int hT j, .inl ⟨i, j, rfl, rfl, hj, hb, p⟩⟩
theorem i_int {T : Cfg} (hT : ShOk T) {i : Int} {P : List (Str × D) → Prop} {X : XD → Prop} (p : P (shF (i : Rat))) : c_Share___init__ T [.int i, .int 1] P X :=
  i_init hT (by decide) (Nat.one_lt_two_pow (n := 9000) (by decide)) (by rw [FM.mk_int]; exact p)
/-! ### == and str -/
def c_Share___eq__ (T : Cfg) : PC := fun ds P _ => ∃ q d t, ds = [shD q, d] ∧ Thing T d t ∧ ((∃ p, d = shD p ∧ P (.bl (decide (q = p)))) ∨ (isSh d = false ∧ P (.bl false)))
theorem len_Share___eq__ {T : Cfg} : ∀ ds μ P XP, pu (c_Share___eq__ T) ds μ P XP → ds.length = 2 := by
  rintro ds μ P XP ⟨rfl, Pf, Xf, ⟨d, q, t, rfl, _⟩, _⟩
  rfl
def t_Share___eq__ (T : Cfg) (E : XK) : TS := (tRet (tAndV (tCB (rIsi T.K) (tCons (tVar 1) (tCons (tC (.ref (T.cls 0))) tNil))) (tOp (rEqD T.K) (tTup (tCons (tFld T.K (tVar 0) "top") (tCons (tFld T.K (tVar 0) "bottom") tNil))) (tTup (tCons (tFld T.K (tVar 1) "top") (tCons (tFld T.K (tVar 1) "bottom") tNil))))))

theorem rat_eq {p q : Rat} : decide (p.num = q.num ∧ (p.den : Int) = (q.den : Int)) = decide (p = q) := by
  rw [decide_eq_decide]
  constructor
  · rintro ⟨h1, h2⟩
    exact Rat.ext h1 (by omega)
  · rintro rfl
    exact ⟨rfl, rfl⟩
theorem pure_Share___eq__ {T : Cfg} (hT : ShOk T) : ∀ E ds μ P XP, pu (c_Share___eq__ T) ds μ P XP → SV T (t_Share___eq__ T E) (fun cls dd _ H => E cls dd H) ⟨slots 2 ds, μ⟩ (fnK P XP) := by
  rintro E ds μ P XP ⟨rfl, Pf, Xf, ⟨q, d, t, rfl, hd, h⟩, hP, hX⟩
  unfold t_Share___eq__
  walk_at "qws"
  refine cv_isi hd.ty hd.sh ⟨_, rfl, fun h1 => ?_, fun h1 => ?_⟩
  · rcases h with ⟨p, rfl, hp⟩ | ⟨h2, _⟩
    · refine ev_op (ev_tup (ea_cons (ev_top hT ?_)))
      walk_at "qws"
      refine ⟨q, rfl, ?_⟩
      refine ea_cons (ev_bot hT ?_)
      walk_at "qws"
      refine ⟨q, rfl, ?_⟩
      walk_at "qws"
      refine ⟨(by show 2 ≤ 100000; decide), ?_⟩
      refine ev_tup (ea_cons (ev_top hT ?_))
      walk_at "qws"
      refine ⟨p, rfl, ?_⟩
      refine ea_cons (ev_bot hT ?_)
      walk_at "qws"
      refine ⟨p, rfl, ?_⟩
      walk_at "qws"
      refine ⟨(by show 2 ≤ 100000; decide), ?_⟩
      refine ov_eq2 ?_
      rw [rat_eq]
      exact hP _ hp
    · rw [h2] at h1; cases h1
  · rcases h with ⟨p, rfl, _⟩ | ⟨_, hp⟩
    · cases h1
    · exact hP _ hp
def numS (i : Int) : Str := toString i
def shS (q : Rat) : Str := if q.den = 1 then numS q.num else ((numS q.num ++ ("/" : Str)) ++ numS (q.den : Int))
def c_Share___str__ (T : Cfg) : PC := fun ds P _ => ∃ q, ds = [shD q] ∧ Bq 1900 q ∧ P (.str (shS q))
theorem len_Share___str__ {T : Cfg} : ∀ ds μ P XP, pu (c_Share___str__ T) ds μ P XP → ds.length = 1 := by
  rintro ds μ P XP ⟨rfl, Pf, Xf, ⟨q, rfl, _⟩, _⟩
  rfl
def t_Share___str__ (T : Cfg) (E : XK) : TS := (tSeq (tIfS (tTest (tOp rEq (tFld T.K (tVar 0) "bottom") (tC (.int 1)))) (tRet (tCB rStrI (tCons (tFld T.K (tVar 0) "top") tNil))) tNext)
    (tRet (tJoin [(tFmt (tFld T.K (tVar 0) "top")), (tC (.str "/")), (tFmt (tFld T.K (tVar 0) "bottom"))])))

theorem numS_len {i : Int} (h : Bt 1900 i) : (numS i).length ≤ 4000 := by
  have e := int_text_length_le (a := i) (k := 1900) (by decide) (h.log (by decide))
  show (Str.ofString (toString i)).length ≤ 4000
  rw [PySem.ofString_length]
  omega
theorem empty_app (x : Str) : Str.empty ++ x = x := by
  obtain ⟨a⟩ := x
  show (⟨#[] ++ a⟩ : Str) = ⟨a⟩
  simp
theorem pure_Share___str__ {T : Cfg} (hT : ShOk T) : ∀ E ds μ P XP, pu (c_Share___str__ T) ds μ P XP → SV T (t_Share___str__ T E) (fun cls dd _ H => E cls dd H) ⟨slots 1 ds, μ⟩ (fnK P XP) := by
  rintro E ds μ P XP ⟨rfl, Pf, Xf, ⟨q, rfl, hb, hp⟩, hP, hX⟩
  unfold t_Share___str__
  have h1 : q.num.natAbs.log2 < 1920 := Nat.lt_of_lt_of_le (hb.bn.log (by decide)) (by decide)
  have h2 : ((q.den : Int)).natAbs.log2 < 1920 := Nat.lt_of_lt_of_le (hb.bd.log (by decide)) (by decide)
  walk_at "qws"
  refine ev_bot hT ?_
  walk_at "qws"
  refine ⟨q, rfl, ?_⟩
  walk_at "qws"
  refine ⟨_, rfl, fun h3 => ?_, fun h3 => ?_⟩
  · have h4 : q.den = 1 := by have : (q.den : Int) = 1 := by simpa using h3
                              omega
    walk_at "qws"
    refine ev_top hT ?_
    walk_at "qws"
    refine ⟨q, rfl, ?_⟩
    walk_at "qws"
    refine cv_strI h1 ?_
    have e : shS q = numS q.num := if_pos h4
    rw [e] at hp
    exact hP _ hp
  · have h4 : ¬ q.den = 1 := by have : ¬ (q.den : Int) = 1 := by simpa using h3
                                omega
    walk_at "qws"
    refine ev_join (jv_cons (ev_fmtI (ev_top hT ?_)))
    walk_at "qws"
    have l1 := numS_len hb.bn
    have l2 := numS_len hb.bd
    refine ⟨q, rfl, _, rfl, h1, _, rfl, ?_, ?_⟩
    · show 0 + (numS q.num).length ≤ 100000
      omega
    refine jv_cons ?_
    walk_at "qws"
    refine ⟨_, rfl, ?_, ?_⟩
    · rw [strLen_append]
      show 0 + (numS q.num).length + 1 ≤ 100000
      omega
    refine jv_cons (ev_fmtI (ev_bot hT ?_))
    walk_at "qws"
    refine ⟨q, rfl, _, rfl, h2, _, rfl, ?_, ?_⟩
    · rw [strLen_append, strLen_append]
      show 0 + (numS q.num).length + 1 + (numS (q.den : Int)).length ≤ 100000
      omega
    refine jv_nil ?_
    have e : shS q = ((numS q.num ++ ("/" : Str)) ++ numS (q.den : Int)) := if_neg h4
    rw [e] at hp
    have := hP _ hp
    rw [empty_app]
    exact this
/-! ### reckoning -/
def c_plus (T : Cfg) : PC := fun ds P _ => ∃ p q n m, ds = [shD p, shD q] ∧ Bq n p ∧ Bq m q ∧ n + m ≤ 9000 ∧ P (shD (p + q))
def c_minus (T : Cfg) : PC := fun ds P _ => ∃ p q n m, ds = [shD p, shD q] ∧ Bq n p ∧ Bq m q ∧ n + m ≤ 9000 ∧ P (shD (p - q))
def c_times (T : Cfg) : PC := fun ds P _ => ∃ p q n m, ds = [shD p, shD q] ∧ Bq n p ∧ Bq m q ∧ n + m ≤ 9000 ∧ P (shD (p * q))
def c_over (T : Cfg) : PC := fun ds P X => ∃ p q n m, ds = [shD p, shD q] ∧ Bq n p ∧ Bq m q ∧ n + m ≤ 9000 ∧ ((q ≠ 0 ∧ P (shD (p / q))) ∨ (q = 0 ∧ X ⟨.ref (He.ga T.K "NoShare"), none⟩))
def c_less (T : Cfg) : PC := fun ds P _ => ∃ p q n m, ds = [shD p, shD q] ∧ Bq n p ∧ Bq m q ∧ n + m ≤ 9000 ∧ P (.bl (decide (p < q)))
def c_sum_of (T : Cfg) : PC := fun ds P _ => ∃ (d : D) (qs : List Rat) (n : Nat), ds = [d] ∧ Seqd d (qs.map shD) ∧ (∀ q ∈ qs, Bq n q) ∧ (qs.length + 1) * (n + 2) ≤ 8000 ∧ P (shD qs.sum)
theorem len_plus {T : Cfg} : ∀ ds μ P XP, pu (c_plus T) ds μ P XP → ds.length = 2 := by
  rintro ds μ P XP ⟨rfl, Pf, Xf, ⟨p, q, n, m, rfl, _⟩, _⟩; rfl
theorem len_minus {T : Cfg} : ∀ ds μ P XP, pu (c_minus T) ds μ P XP → ds.length = 2 := by
  rintro ds μ P XP ⟨rfl, Pf, Xf, ⟨p, q, n, m, rfl, _⟩, _⟩; rfl
theorem len_times {T : Cfg} : ∀ ds μ P XP, pu (c_times T) ds μ P XP → ds.length = 2 := by
  rintro ds μ P XP ⟨rfl, Pf, Xf, ⟨p, q, n, m, rfl, _⟩, _⟩; rfl
theorem len_over {T : Cfg} : ∀ ds μ P XP, pu (c_over T) ds μ P XP → ds.length = 2 := by
  rintro ds μ P XP ⟨rfl, Pf, Xf, ⟨p, q, n, m, rfl, _⟩, _⟩; rfl
theorem len_less {T : Cfg} : ∀ ds μ P XP, pu (c_less T) ds μ P XP → ds.length = 2 := by
  rintro ds μ P XP ⟨rfl, Pf, Xf, ⟨p, q, n, m, rfl, _⟩, _⟩; rfl
theorem len_sum_of {T : Cfg} : ∀ ds μ P XP, pu (c_sum_of T) ds μ P XP → ds.length = 1 := by
  rintro ds μ P XP ⟨rfl, Pf, Xf, ⟨d, q, n, rfl, _⟩, _⟩; rfl
def t_plus (T : Cfg) (E : XK) : TS := (tRet (tMake (T.cls 0) (spOf T (ini 0 (c_Share___init__ T))) [] E0 (tCons (tOp (rI0 fun i j => .int (i + j)) (tOp (rI IntMulOk fun i j => .int (i * j)) (tFld T.K (tVar 0) "top") (tFld T.K (tVar 1) "bottom")) (tOp (rI IntMulOk fun i j => .int (i * j)) (tFld T.K (tVar 1) "top") (tFld T.K (tVar 0) "bottom"))) (tCons (tOp (rI IntMulOk fun i j => .int (i * j)) (tFld T.K (tVar 0) "bottom") (tFld T.K (tVar 1) "bottom")) tNil))))
def t_minus (T : Cfg) (E : XK) : TS := (tRet (tMake (T.cls 0) (spOf T (ini 0 (c_Share___init__ T))) [] E0 (tCons (tOp (rI0 fun i j => .int (i - j)) (tOp (rI IntMulOk fun i j => .int (i * j)) (tFld T.K (tVar 0) "top") (tFld T.K (tVar 1) "bottom")) (tOp (rI IntMulOk fun i j => .int (i * j)) (tFld T.K (tVar 1) "top") (tFld T.K (tVar 0) "bottom"))) (tCons (tOp (rI IntMulOk fun i j => .int (i * j)) (tFld T.K (tVar 0) "bottom") (tFld T.K (tVar 1) "bottom")) tNil))))
def t_times (T : Cfg) (E : XK) : TS := (tRet (tMake (T.cls 0) (spOf T (ini 0 (c_Share___init__ T))) [] E0 (tCons (tOp (rI IntMulOk fun i j => .int (i * j)) (tFld T.K (tVar 0) "top") (tFld T.K (tVar 1) "top")) (tCons (tOp (rI IntMulOk fun i j => .int (i * j)) (tFld T.K (tVar 0) "bottom") (tFld T.K (tVar 1) "bottom")) tNil))))
def t_over (T : Cfg) (E : XK) : TS := (tRet (tMake (T.cls 0) (spOf T (ini 0 (c_Share___init__ T))) [] E (tCons (tOp (rI IntMulOk fun i j => .int (i * j)) (tFld T.K (tVar 0) "top") (tFld T.K (tVar 1) "bottom")) (tCons (tOp (rI IntMulOk fun i j => .int (i * j)) (tFld T.K (tVar 0) "bottom") (tFld T.K (tVar 1) "top")) tNil))))
def t_less (T : Cfg) (E : XK) : TS := (tRet (tOp (rI0 fun i j => .bl (decide (i < j))) (tOp (rI IntMulOk fun i j => .int (i * j)) (tFld T.K (tVar 0) "top") (tFld T.K (tVar 1) "bottom")) (tOp (rI IntMulOk fun i j => .int (i * j)) (tFld T.K (tVar 1) "top") (tFld T.K (tVar 0) "bottom"))))
def t_sum_of (T : Cfg) (E : XK) : TS := (tSeq (tAsg (tMake (T.cls 0) (spOf T (ini 0 (c_Share___init__ T))) [.int 1] E0 (tCons (tC (.int 0)) tNil)) (gName 1))
    (tSeq (tFor (iList T.K (tVar 0)) (gName 2) (tAsg (tCall (spOf T (pu (c_plus T))) [] E0 (tCons (tVar 1) (tCons (tVar 2) tNil))) (gName 1)))
    (tRet (tVar 1))))

section
variable {T : Cfg} {W : WX} {ρ : List (Option D)} {m0 : Mu} {XP : XW} {P : D → Mu → Prop} {i j : Nat} {p q : Rat} {n m : Nat}
/-- one.f * other.g -/
theorem ev_td (hT : ShOk T) (hp : ρ[i]? = some (some (shD p))) (hq : ρ[j]? = some (some (shD q))) (b1 : Bq n p) (b2 : Bq m q) (hs : n + m ≤ 9000) (k : P (.int (p.num * q.den)) m0) :
    EV T (tOp (rI IntMulOk fun i j => .int (i * j)) (tFld T.K (tVar i) "top") (tFld T.K (tVar j) "bottom")) W ⟨ρ, m0⟩ P XP :=
  ev_op (ev_top hT (ev_var hp ⟨p, rfl, ev_bot hT (ev_var hq ⟨q, rfl, ov_mul (Bt.ok (Bq.bn b1) (Bq.bd b2) (by omega)) k⟩)⟩))
theorem ev_tt (hT : ShOk T) (hp : ρ[i]? = some (some (shD p))) (hq : ρ[j]? = some (some (shD q))) (b1 : Bq n p) (b2 : Bq m q) (hs : n + m ≤ 9000) (k : P (.int (p.num * q.num)) m0) :
    EV T (tOp (rI IntMulOk fun i j => .int (i * j)) (tFld T.K (tVar i) "top") (tFld T.K (tVar j) "top")) W ⟨ρ, m0⟩ P XP :=
  ev_op (ev_top hT (ev_var hp ⟨p, rfl, ev_top hT (ev_var hq ⟨q, rfl, ov_mul (Bt.ok (Bq.bn b1) (Bq.bn b2) (by omega)) k⟩)⟩))
theorem ev_dd (hT : ShOk T) (hp : ρ[i]? = some (some (shD p))) (hq : ρ[j]? = some (some (shD q))) (b1 : Bq n p) (b2 : Bq m q) (hs : n + m ≤ 9000) (k : P (.int (p.den * q.den)) m0) :
    EV T (tOp (rI IntMulOk fun i j => .int (i * j)) (tFld T.K (tVar i) "bottom") (tFld T.K (tVar j) "bottom")) W ⟨ρ, m0⟩ P XP :=
  ev_op (ev_bot hT (ev_var hp ⟨p, rfl, ev_bot hT (ev_var hq ⟨q, rfl, ov_mul (Bt.ok (Bq.bd b1) (Bq.bd b2) (by omega)) k⟩)⟩))
theorem ev_dt (hT : ShOk T) (hp : ρ[i]? = some (some (shD p))) (hq : ρ[j]? = some (some (shD q))) (b1 : Bq n p) (b2 : Bq m q) (hs : n + m ≤ 9000) (k : P (.int (p.den * q.num)) m0) :
    EV T (tOp (rI IntMulOk fun i j => .int (i * j)) (tFld T.K (tVar i) "bottom") (tFld T.K (tVar j) "top")) W ⟨ρ, m0⟩ P XP :=
  ev_op (ev_bot hT (ev_var hp ⟨p, rfl, ev_top hT (ev_var hq ⟨q, rfl, ov_mul (Bt.ok (Bq.bd b1) (Bq.bn b2) (by omega)) k⟩)⟩))
end
theorem dd_ne (p q : Rat) : (p.den : Int) * (q.den : Int) ≠ 0 := Int.mul_ne_zero (den_ne p) (den_ne q)
theorem dd_bt {p q : Rat} {n m : Nat} (b1 : Bq n p) (b2 : Bq m q) (hs : n + m ≤ 9000) : Bt 9000 ((p.den : Int) * (q.den : Int)) := ((Bq.bd b1).mul (Bq.bd b2)).mono hs
theorem pure_plus {T : Cfg} (hT : ShOk T) : ∀ E ds μ P XP, pu (c_plus T) ds μ P XP → SV T (t_plus T E) (fun cls dd _ H => E cls dd H) ⟨slots 2 ds, μ⟩ (fnK P XP) := by
  rintro E ds μ P XP ⟨rfl, Pf, Xf, ⟨p, q, n, m, rfl, b1, b2, hs, hp⟩, hP, hX⟩
  unfold t_plus
  refine sv_ret (ev_mak0 (ea_cons (ev_op (ev_td hT rfl rfl b1 b2 hs (ev_td hT rfl rfl b2 b1 (by omega) (ov_add (ea_cons (ev_dd hT rfl rfl b1 b2 hs (ea_nil ?_)))))))))
  refine i_init hT (dd_ne p q) (dd_bt b1 b2 hs) ?_
  rw [FM.mk_add]
  exact hP _ hp
theorem pure_minus {T : Cfg} (hT : ShOk T) : ∀ E ds μ P XP, pu (c_minus T) ds μ P XP → SV T (t_minus T E) (fun cls dd _ H => E cls dd H) ⟨slots 2 ds, μ⟩ (fnK P XP) := by
  rintro E ds μ P XP ⟨rfl, Pf, Xf, ⟨p, q, n, m, rfl, b1, b2, hs, hp⟩, hP, hX⟩
  unfold t_minus
  refine sv_ret (ev_mak0 (ea_cons (ev_op (ev_td hT rfl rfl b1 b2 hs (ev_td hT rfl rfl b2 b1 (by omega) (ov_sub (ea_cons (ev_dd hT rfl rfl b1 b2 hs (ea_nil ?_)))))))))
  refine i_init hT (dd_ne p q) (dd_bt b1 b2 hs) ?_
  rw [FM.mk_sub]
  exact hP _ hp
theorem pure_times {T : Cfg} (hT : ShOk T) : ∀ E ds μ P XP, pu (c_times T) ds μ P XP → SV T (t_times T E) (fun cls dd _ H => E cls dd H) ⟨slots 2 ds, μ⟩ (fnK P XP) := by
  rintro E ds μ P XP ⟨rfl, Pf, Xf, ⟨p, q, n, m, rfl, b1, b2, hs, hp⟩, hP, hX⟩
  unfold t_times
  refine sv_ret (ev_mak0 (ea_cons (ev_tt hT rfl rfl b1 b2 hs (ea_cons (ev_dd hT rfl rfl b1 b2 hs (ea_nil ?_))))))
  refine i_init hT (dd_ne p q) (dd_bt b1 b2 hs) ?_
  rw [FM.mk_mul]
  exact hP _ hp
theorem pure_over {T : Cfg} (hT : ShOk T) : ∀ E ds μ P XP, pu (c_over T) ds μ P XP → SV T (t_over T E) (fun cls dd _ H => E cls dd H) ⟨slots 2 ds, μ⟩ (fnK P XP) := by
  rintro E ds μ P XP ⟨rfl, Pf, Xf, ⟨p, q, n, m, rfl, b1, b2, hs, h⟩, hP, hX⟩
  unfold t_over
  refine sv_ret (ev_mak (fun _ _ _ _ z => z) (ea_cons (ev_td hT rfl rfl b1 b2 hs (ea_cons (ev_dt hT rfl rfl b1 b2 hs (ea_nil ?_))))))
  rcases h with ⟨hq, hp⟩ | ⟨rfl, hx⟩
  · have hn : q.num ≠ 0 := by rwa [Ne, Rat.num_eq_zero]
    refine i_init hT (Int.mul_ne_zero (den_ne p) hn) (((Bq.bd b1).mul (Bq.bn b2)).mono hs) ?_
    rw [FM.mk_div]
    exact hP _ hp
  · refine ⟨_, _, _, _, rfl, th_int hT _, th_int hT _, .inr ⟨.inr (.inr ?_), hX _ hx⟩⟩
    show D.int ((p.den : Int) * (0 : Rat).num) = .int 0
    simp
theorem pure_less {T : Cfg} (hT : ShOk T) : ∀ E ds μ P XP, pu (c_less T) ds μ P XP → SV T (t_less T E) (fun cls dd _ H => E cls dd H) ⟨slots 2 ds, μ⟩ (fnK P XP) := by
  rintro E ds μ P XP ⟨rfl, Pf, Xf, ⟨p, q, n, m, rfl, b1, b2, hs, hp⟩, hP, hX⟩
  unfold t_less
  refine sv_ret (ev_op (ev_td hT rfl rfl b1 b2 hs (ev_td hT rfl rfl b2 b1 (by omega) (ov_lt ?_))))
  rw [decide_eq_decide.mpr (FM.less_iff p q)]
  exact hP _ hp
theorem pure_sum_of {T : Cfg} (hT : ShOk T) : ∀ E ds μ P XP, pu (c_sum_of T) ds μ P XP → SV T (t_sum_of T E) (fun cls dd _ H => E cls dd H) ⟨slots 3 ds, μ⟩ (fnK P XP) := by
  rintro E ds μ P XP ⟨rfl, Pf, Xf, ⟨d, qs, n, rfl, hd, hb, hs, hp⟩, hP, hX⟩
  unfold t_sum_of
  walk_at "qws"
  refine i_int hT ?_
  walk_at "qws"
  refine sv_for (is := [2]) (iv_list (ev_var rfl ⟨_, hd, ?_⟩))
  rw [List.length_map]
  have e0 : ((0 : Int) : Rat) = ([] : List Rat).sum := rfl
  rw [e0]
  refine ⟨fun i s => ∃ x, s = ⟨[some d, some (shD (qs.take i).sum), x], mu0⟩ ∧ i ≤ qs.length, ⟨none, rfl, Nat.zero_le _⟩, ?_, ?_⟩
  · rintro i s hi ⟨x, rfl, _⟩
    have hn : nth (qs.map shD) i = shD qs[i] := nth_of (by simp [hi])
    refine gv_name ?_
    rw [hn]
    walk_at "qws"
    have hq : Bq n qs[i] := hb _ (List.getElem_mem hi)
    have bt : ∀ (k : Nat), k ≤ qs.length → Bq (k * (n + 1) + 1) (qs.take k).sum := by
      intro k
      induction k with
      | zero =>
        intro _
        rw [List.take_zero, Nat.zero_mul]
        exact ⟨by decide, by decide⟩
      | succ k ih =>
        intro hk
        have := (ih (by omega)).add (hb qs[k] (List.getElem_mem hk))
        rw [← FM.sum_take_succ hk] at this
        refine this.mono ?_
        rw [Nat.succ_mul]
        omega
    have hm : i * (n + 1) ≤ qs.length * (n + 1) := Nat.mul_le_mul_right _ (by omega)
    have hs2 : qs.length * (n + 1) + (n + 2) ≤ 8000 := by
      have : (qs.length + 1) * (n + 2) = qs.length * (n + 2) + (n + 2) := by rw [Nat.succ_mul]
      have h3 : qs.length * (n + 1) ≤ qs.length * (n + 2) := Nat.mul_le_mul_left _ (by omega)
      omega
    refine ⟨_, _, _, _, rfl, bt i (by omega), hq, by omega, ?_⟩
    walk_at "qws"
    refine ⟨some (shD qs[i]), ?_, hi⟩
    rw [FM.sum_take_succ hi]
    rfl
  · rintro s ⟨x, rfl, _⟩
    rw [List.take_length]
    walk_at "qws"
    exact hP _ hp
end Far

namespace Pw
open PySem PySem.Spec PyProof.Rows L2
theorem ev_calN {T : Cfg} {W : WX} {ρ : List (Option D)} {m0 : Mu} {P : D → Mu → Prop} {XP : XW} {E : XK} {ta : TA} {c : Nat → List D → (D → Nat → Prop) → Prop} (h : EA T ta W ⟨ρ, m0⟩ (fun ds μ => ∃ a b rest μ', ds = .ptr a :: rest ∧ μ = put μ' a (.well b) ∧ c b rest (fun d b' => P d (put μ' a (.well b')))) XP) : EV T (tCall (spOf T (wl c)) [] E ta) W ⟨ρ, m0⟩ P XP :=
  ev_calW fun σ Hb H Q S q x => h σ Hb H Q S (fun ds μ vs Hb' H' g r ⟨a, b, rest, μ', e, em, hc⟩ => q ds μ vs Hb' H' g r (by
    subst em
    exact ⟨a, b, rest, e, put_same, by simpa only [put_put] using hc⟩)) x
theorem ex_bl {x : Bool} {Q : Bool → Prop} (h : Q x) : ∃ b, D.bl x = .bl b ∧ Q b := ⟨_, rfl, h⟩
theorem b_tt {A B : Prop} (h : A) : (true = true → A) ∧ (true = false → B) := ⟨fun _ => h, fun e => (nomatch e)⟩
theorem b_ff {A B : Prop} (h : B) : (false = true → A) ∧ (false = false → B) := ⟨fun e => (nomatch e), fun _ => h⟩
theorem b_tt' {A B : Prop} (h : B) : (true = false → A) ∧ (true = true → B) := ⟨fun e => (nomatch e), fun _ => h⟩
theorem b_ff' {A B : Prop} (h : A) : (false = false → A) ∧ (false = true → B) := ⟨fun _ => h, fun e => (nomatch e)⟩
theorem b_nt {A B : Prop} (h : B) : ((!true) = true → A) ∧ ((!true) = false → B) := ⟨fun e => (nomatch e), fun _ => h⟩
theorem b_nf {A B : Prop} (h : A) : ((!false) = true → A) ∧ ((!false) = false → B) := ⟨fun _ => h, fun e => (nomatch e)⟩
theorem b_nt' {A B : Prop} (h : A) : ((!true) = false → A) ∧ ((!true) = true → B) := ⟨fun _ => h, fun e => (nomatch e)⟩
theorem b_nf' {A B : Prop} (h : B) : ((!false) = false → A) ∧ ((!false) = true → B) := ⟨fun e => (nomatch e), fun _ => h⟩
theorem sv_asg2 {T : Cfg} {W : WX} {ρ : List (Option D)} {m0 : Mu} {K : Out → Prop} {te : TE} {i j : Nat} (h : EV T te W ⟨ρ, m0⟩ (fun d μ => ∃ x y, d = .tup [x, y] ∧ K (.nx ⟨(ρ.set i (some x)).set j (some y), μ⟩)) (xk ⟨ρ, m0⟩ K)) : SV T (tAsg te (gTup T.K 2 (gCons (gName i) (gCons (gName j) gNil)))) W ⟨ρ, m0⟩ K :=
  sv_asgG (h.imp fun d μ ⟨x, y, e, k⟩ => by subst e; exact gv_tup rfl (gvs_cons (gv_name (gvs_cons (gv_name (gvs_nil k))))))
theorem sv_asg3 {T : Cfg} {W : WX} {ρ : List (Option D)} {m0 : Mu} {K : Out → Prop} {te : TE} {i j l : Nat} (h : EV T te W ⟨ρ, m0⟩ (fun d μ => ∃ x y z, d = .tup [x, y, z] ∧ K (.nx ⟨((ρ.set i (some x)).set j (some y)).set l (some z), μ⟩)) (xk ⟨ρ, m0⟩ K)) : SV T (tAsg te (gTup T.K 3 (gCons (gName i) (gCons (gName j) (gCons (gName l) gNil))))) W ⟨ρ, m0⟩ K :=
  sv_asgG (h.imp fun d μ ⟨x, y, z, e, k⟩ => by subst e; exact gv_tup rfl (gvs_cons (gv_name (gvs_cons (gv_name (gvs_cons (gv_name (gvs_nil k))))))))
theorem ex_t2 {d e : D} {Q : D → D → Prop} (h : Q d e) : ∃ x y, D.tup [d, e] = .tup [x, y] ∧ Q x y := ⟨_, _, rfl, h⟩
theorem ex_t3 {d e f : D} {Q : D → D → D → Prop} (h : Q d e f) : ∃ x y z, D.tup [d, e, f] = .tup [x, y, z] ∧ Q x y z := ⟨_, _, _, rfl, h⟩
theorem bT {b : Bool} {A B : Prop} (e : b = true) (h : A) : (b = true → A) ∧ (b = false → B) := by subst e; exact b_tt h
theorem bF {b : Bool} {A B : Prop} (e : b = false) (h : B) : (b = true → A) ∧ (b = false → B) := by subst e; exact b_ff h
theorem bT' {b : Bool} {A B : Prop} (e : b = true) (h : B) : (b = false → A) ∧ (b = true → B) := by subst e; exact b_tt' h
theorem bF' {b : Bool} {A B : Prop} (e : b = false) (h : A) : (b = false → A) ∧ (b = true → B) := by subst e; exact b_ff' h
theorem b_d {α : Type} {x : α} {i : Decidable (x = x)} {A B : Prop} (h : A) : (decide (x = x) = true → A) ∧ (decide (x = x) = false → B) := bT (decide_eq_true rfl) h
theorem b_d' {α : Type} {x : α} {i : Decidable (x = x)} {A B : Prop} (h : B) : (decide (x = x) = false → A) ∧ (decide (x = x) = true → B) := bT' (decide_eq_true rfl) h
theorem b_dn {α : Type} {x : α} {i : Decidable (x = x)} {A B : Prop} (h : B) : ((!decide (x = x)) = true → A) ∧ ((!decide (x = x)) = false → B) := bF (by rw [decide_eq_true rfl]; rfl) h
theorem b_dn' {α : Type} {x : α} {i : Decidable (x = x)} {A B : Prop} (h : A) : ((!decide (x = x)) = false → A) ∧ ((!decide (x = x)) = true → B) := bF' (by rw [decide_eq_true rfl]; rfl) h
theorem ex_2 {d e : D} {Q : D → D → Prop} (h : Q d e) : ∃ x y, [d, e] = [x, y] ∧ Q x y := ⟨_, _, rfl, h⟩
end Pw
namespace Far
open PySem PySem.Spec PyProof.Rows L2 Pw
theorem ex_sh {q : Rat} {Q : Rat → Prop} (h : Q q) : ∃ p, shD q = shD p ∧ Q p := ⟨_, rfl, h⟩
def prD (q : Rat) : D := .tup [.int q.num, .int (q.den : Int)]
section
variable {T : Cfg} {μ : Mu} {P : D → Mu → Prop}
theorem isi_sh (hT : ShOk T) {q : Rat} (p : P (.bl true) μ) : CV T (rIsi T.K) [shD q, .ptr (T.cls 0)] μ P := cv_isi (th_sh hT q).ty (th_sh hT q).sh p
theorem isi_ib {i : Int} (p : P (.bl false) μ) : CV T (rIsi T.K) [.int i, .ty "bool"] μ P := cv_isiT (.int i) (kit_ty (kit_tab "int" (by simp [tags]) "bool" (by simp [tys]))) p
theorem isi_ii {i : Int} (p : P (.bl true) μ) : CV T (rIsi T.K) [.int i, .ty "int"] μ P := cv_isiT (.int i) (kit_ty (kit_tab "int" (by simp [tags]) "int" (by simp [tys]))) p
theorem ov_eqP {p q : Rat} (k : P (.bl (decide (p = q))) μ) : OV T (rEqD T.K) (prD p) (prD q) μ P := ov_eq2 (by rw [rat_eq]; exact k)
theorem ov_neP {p q : Rat} (k : P (.bl (!decide (p = q))) μ) : OV T (rNeD T.K) (prD p) (prD q) μ P := ov_ne2 (by rw [rat_eq]; exact k)
end
end Far
/-! ### steps of the pure walk -/
local macro_rules | `(tactic| walk_at "rw") => `(tactic| first
  | (with_reducible refine Pw.ev_op ?_)
  | ((with_reducible refine Pw.ev_var (d := ?d) ?h ?_); (case h => rfl))
  | (with_reducible refine Pw.ev_int ?_)
  | (with_reducible refine Pw.ev_bl ?_)
  | (with_reducible refine Pw.ev_str ?_)
  | (with_reducible refine Pw.ev_non ?_)
  | (with_reducible refine Pw.ev_ty ?_)
  | (with_reducible refine Pw.ev_ref ?_)
  | (with_reducible refine Pw.ev_cb ?_)
  | (with_reducible refine Pw.ev_un ?_)
  | (with_reducible refine Pw.ea_cons ?_)
  | (with_reducible refine Pw.ea_nil ?_)
  | (with_reducible refine Pw.ev_cal0 ?_)
  | (with_reducible refine Pw.ev_calN ?_)
  | (with_reducible refine Pw.ev_mak0 ?_)
  | (with_reducible refine Pw.ev_mak1 ?_)
  | (with_reducible refine Pw.ev_if ?_)
  | (with_reducible refine Pw.ev_and ?_)
  | (with_reducible refine Pw.ev_or ?_)
  | (with_reducible refine Pw.ev_not ?_)
  | (with_reducible refine Pw.tv_test ?_)
  | (with_reducible refine Pw.tv_B ?_)
  | (with_reducible refine Pw.tv_and ?_)
  | (with_reducible refine Pw.tv_or ?_)
  | (with_reducible refine Pw.tv_not ?_)
  | (with_reducible refine Pw.tv_yes ?_)
  | (with_reducible refine Pw.po_no ?_)
  | (with_reducible refine Pw.po_so ?_)
  | (with_reducible refine Pw.sv_seq ?_)
  | (with_reducible refine Pw.sv_asg ?_)
  | (with_reducible refine Pw.sv_ret ?_)
  | (with_reducible refine Pw.sv_if ?_)
  | (with_reducible refine Pw.sv_par ?_)
  | (with_reducible refine Pw.sv_next ?_)
  | (with_reducible refine Pw.sv_app ?_)
  | (with_reducible refine Pw.sv_drop ?_)
  | (with_reducible refine Pw.sv_fld ?_)
  | (with_reducible refine Pw.ov_add ?_)
  | (with_reducible refine Pw.ov_sub ?_)
  | (with_reducible refine Pw.ov_lt ?_)
  | (with_reducible refine Pw.ov_le ?_)
  | (with_reducible refine Pw.ov_gt ?_)
  | (with_reducible refine Pw.ov_ge ?_)
  | (with_reducible refine Pw.ov_eqI ?_)
  | (with_reducible refine Pw.ov_neI ?_)
  | (with_reducible refine Pw.ov_eqS ?_)
  | (with_reducible refine Pw.ov_neS ?_)
  | (with_reducible refine Pw.ov_eqB ?_)
  | (with_reducible refine Pw.ov_neB ?_)
  | (with_reducible refine Pw.cv_abs ?_)
  | ((with_reducible refine Pw.ov_ixT (e := ?e) ?h ?_); (case h => rfl))
  | ((with_reducible refine Pw.ov_ixM (ds := ?ds) (e := ?e) ?hm ?h ?_); (case hm => exact Pw.put_same); (case h => rfl))
  | ((with_reducible refine Pw.ov_pow ?h ?_); (case h => exact ⟨by decide, by decide, by decide⟩))
  | ((with_reducible refine Pw.ov_mod ?h ?_); (case h => decide))
  | (with_reducible refine Pw.ev_tup ?_)
  | ((with_reducible refine And.intro (show _ ≤ 100000 from ?hl) ?_); (case hl => (simp; done)))
  | (with_reducible refine Pw.cv_intB ?_)
  | (with_reducible refine Pw.uv_neg ?_)
  | (with_reducible refine Pw.seqK_nx ?_)
  | (with_reducible refine Pw.seqK_rt ?_)
  | (with_reducible refine Pw.seqK_xr ?_)
  | (with_reducible refine Pw.seqK_ct ?_)
  | (with_reducible refine Pw.seqK_bk ?_)
  | (with_reducible refine Pw.whK_rt ?_)
  | (with_reducible refine Pw.whK_xr ?_)
  | (with_reducible refine Pw.whK_bk ?_)
  | (with_reducible refine Pw.forK_nx ?_)
  | (with_reducible refine Pw.forK_ct ?_)
  | (with_reducible refine Pw.forK_rt ?_)
  | (with_reducible refine Pw.forK_xr ?_)
  | (with_reducible refine Pw.forK_bk ?_)
  | (with_reducible refine Pw.fnK_rt ?_)
  | (with_reducible refine Pw.fnK_nx ?_)
  | (with_reducible refine Pw.fnK_xr ?_))
local macro_rules | `(tactic| walk_at "rl") => `(tactic| first
  | walk_at "rw"
  | (with_reducible refine Pw.ev_lst ?_))
local macro_rules | `(tactic| walk_at "rls") => `(tactic| repeat (walk_at "rl"))
local macro_rules | `(tactic| walk_at "rws") => `(tactic| repeat (walk_at "rw"))
local macro_rules | `(tactic| walk_at "rk") => `(tactic| first
  | ((with_reducible refine Far.ev_mkS0 ?hT ?_); (case hT => assumption))
  | ((with_reducible refine Far.ev_mkS1 ?hT ?_); (case hT => assumption))
  | walk_at "rl"
  | (with_reducible refine Pw.ex_bl ?_)
  | (with_reducible refine Pw.b_tt ?_)
  | (with_reducible refine Pw.b_ff ?_)
  | (with_reducible refine Pw.b_tt' ?_)
  | (with_reducible refine Pw.b_ff' ?_)
  | (with_reducible refine Pw.b_nt ?_)
  | (with_reducible refine Pw.b_nf ?_)
  | (with_reducible refine Pw.b_nt' ?_)
  | (with_reducible refine Pw.b_nf' ?_)
  | (with_reducible refine Pw.b_d ?_)
  | (with_reducible refine Pw.b_d' ?_)
  | (with_reducible refine Pw.b_dn ?_)
  | (with_reducible refine Pw.b_dn' ?_)
  | (with_reducible refine Pw.ex_2 ?_)
  | ((with_reducible refine Far.ev_top ?hT ?_); (case hT => assumption))
  | ((with_reducible refine Far.ev_bot ?hT ?_); (case hT => assumption))
  | (with_reducible refine Far.ex_sh ?_)
  | ((with_reducible refine Far.isi_sh ?hT ?_); (case hT => assumption))
  | (with_reducible refine Far.isi_ib ?_)
  | (with_reducible refine Far.isi_ii ?_)
  | (with_reducible refine Pw.ov_eq2 ?_)
  | (with_reducible refine Pw.ov_ne2 ?_)
  | (with_reducible refine Far.ov_eqP ?_)
  | (with_reducible refine Far.ov_neP ?_)
  | (with_reducible refine Far.ex_ii ?_)
  | (with_reducible refine Far.ex_i ?_)
  | (with_reducible refine Far.ev_wellN ?_)
  | ((with_reducible refine Far.ov_shEq ?hT ?_); (case hT => assumption))
  | ((with_reducible refine Far.ov_shNe ?hT ?_); (case hT => assumption))
  | (with_reducible refine Pw.sv_asg2 ?_)
  | (with_reducible refine Pw.sv_asg3 ?_)
  | (with_reducible refine Pw.tryK_nx ?_)
  | (with_reducible refine Pw.tryK_rt ?_)
  | (with_reducible refine Pw.unK_rt ?_)
  | (with_reducible refine Pw.unK_nx ?_)
  | (with_reducible refine Pw.ex_t2 ?_)
  | (with_reducible refine Pw.ex_t3 ?_))
local macro_rules | `(tactic| walk_at "rks") => `(tactic| repeat (walk_at "rk"))
local macro_rules | `(tactic| walk_at "le") => `(tactic| (repeat (first | exact trivial | refine And.intro rfl ?_)))
local macro_rules | `(tactic| walk_at "po") => `(tactic| first
  | walk_at "rk"
  | ((with_reducible refine Far.plus_s ?h ?_); (case h => decide))
  | ((with_reducible refine Far.minus_s ?h ?_); (case h => decide))
  | ((with_reducible refine Far.times_s ?h ?_); (case h => decide))
  | ((with_reducible refine Far.less_s ?h ?_); (case h => decide)))
local macro_rules | `(tactic| walk_at "pos") => `(tactic| repeat (walk_at "po"))
local macro_rules | `(tactic| walk_at "gn") => `(tactic| first
  | ((refine Far.bN' ?h ?_); (case h => grind))
  | ((refine Far.bN ?h ?_); (case h => grind)))
namespace Far
open PySem PySem.Spec PyProof.Rows L2 Pw
open FM (Bq)
/-! ### the laws' own helpers -/
abbrev full : Nat := 1073741824
def c_Lwell (T : Cfg) : Ct := fun ds μ P _ => ∃ c : Int, ds = [.int c] ∧ ∀ a, μ a = none → P (.ptr a) (put μ a (.well full))
def c_Ldraw (T : Cfg) : Nat → List D → (D → Nat → Prop) → Prop := fun b rest P => ∃ n : Int, rest = [.int n] ∧ 0 < n ∧ n.natAbs.log2 < 9000 ∧ 1 ≤ b ∧ ∀ k : Int, 0 ≤ k → k < n → P (.int k) (b - 1)
def c_Lone (T : Cfg) : Nat → List D → (D → Nat → Prop) → Prop := fun b rest P => ∃ d ds, rest = [d] ∧ Seqd d ds ∧ 0 < ds.length ∧ ds.length ≤ 1000 ∧ 1 ≤ b ∧ ∀ e ∈ ds, P e (b - 1)
def c_Llow (T : Cfg) : PC := fun ds P _ => ∃ i j : Int, ds = [.int i, .int j] ∧ j ≠ 0 ∧ Bt 9000 j ∧ P (prD (Rat.divInt i j))
def c_Lpair (T : Cfg) : PC := fun ds P _ => ∃ q, ds = [shD q] ∧ Bq 9000 q ∧ P (prD q)
def c_Lnumber (T : Cfg) : Nat → List D → (D → Nat → Prop) → Prop := fun b rest P => rest = [] ∧ 3 ≤ b ∧ ∀ (k : Int) (b' : Nat), Bt 133 k → b ≤ b' + 3 → P (.int k) b'
def c_Lfraction (T : Cfg) : Nat → List D → (D → Nat → Prop) → Prop := fun b rest P => rest = [] ∧ 7 ≤ b ∧ ∀ (t u : Int) (b' : Nat), u ≠ 0 → Bt 140 t → Bt 140 u → b ≤ b' + 7 → P (.tup [.int t, .int u]) b'
def c_Lsecond (T : Cfg) : Nat → List D → (D → Nat → Prop) → Prop := fun b rest P => ∃ t u : Int, rest = [.tup [.int t, .int u]] ∧ u ≠ 0 ∧ Bt 140 t ∧ Bt 140 u ∧ 9 ≤ b ∧ ∀ (t u : Int) (b' : Nat), u ≠ 0 → Bt 210 t → Bt 210 u → b ≤ b' + 9 → P (.tup [.int t, .int u]) b'
def c_Ltext (T : Cfg) : PC := fun ds P _ => ∃ q, ds = [prD q] ∧ Bq 1900 q ∧ P (.str (shS q))
theorem len_Lwell {T : Cfg} : ∀ ds μ P XP, c_Lwell T ds μ P XP → ds.length = 1 := by
  rintro ds μ P XP ⟨c, rfl, _⟩; rfl
theorem len_Ldraw {T : Cfg} : ∀ ds μ P XP, wl (c_Ldraw T) ds μ P XP → ds.length = 2 := by
  rintro ds μ P XP ⟨a, b, rest, rfl, rfl, Pf, ⟨n, rfl, _⟩, _⟩; rfl
theorem len_Lone {T : Cfg} : ∀ ds μ P XP, wl (c_Lone T) ds μ P XP → ds.length = 2 := by
  rintro ds μ P XP ⟨a, b, rest, rfl, rfl, Pf, ⟨d, es, rfl, _⟩, _⟩; rfl
theorem len_Llow {T : Cfg} : ∀ ds μ P XP, pu (c_Llow T) ds μ P XP → ds.length = 2 := by
  rintro ds μ P XP ⟨rfl, Pf, Xf, ⟨i, j, rfl, _⟩, _⟩; rfl
theorem len_Lpair {T : Cfg} : ∀ ds μ P XP, pu (c_Lpair T) ds μ P XP → ds.length = 1 := by
  rintro ds μ P XP ⟨rfl, Pf, Xf, ⟨q, rfl, _⟩, _⟩; rfl
theorem len_Lnumber {T : Cfg} : ∀ ds μ P XP, wl (c_Lnumber T) ds μ P XP → ds.length = 1 := by
  rintro ds μ P XP ⟨a, b, rest, rfl, rfl, Pf, ⟨rfl, _⟩, _⟩; rfl
theorem len_Lfraction {T : Cfg} : ∀ ds μ P XP, wl (c_Lfraction T) ds μ P XP → ds.length = 1 := by
  rintro ds μ P XP ⟨a, b, rest, rfl, rfl, Pf, ⟨rfl, _⟩, _⟩; rfl
theorem len_Lsecond {T : Cfg} : ∀ ds μ P XP, wl (c_Lsecond T) ds μ P XP → ds.length = 2 := by
  rintro ds μ P XP ⟨a, b, rest, rfl, rfl, Pf, ⟨t, u, rfl, _⟩, _⟩; rfl
theorem len_Ltext {T : Cfg} : ∀ ds μ P XP, pu (c_Ltext T) ds μ P XP → ds.length = 1 := by
  rintro ds μ P XP ⟨rfl, Pf, Xf, ⟨q, rfl, _⟩, _⟩; rfl
def t_Lwell (T : Cfg) (E : XK) : TS := (tRet (tLst (tCons (tOp (rI IntMulOk fun i j => .int (i * j)) (tVar 0) (tCB rInt1 (tCons (tOp (rI0 fun i j => .bl (decide (j ≤ i))) (tVar 0) (tOp (rI CPow fun i j => .int (i ^ j.toNat)) (tC (.int 10)) (tC (.int 18)))) tNil))) (tCons (tOp (rI (fun _ j => j ≠ 0) fun i j => .int (i.fmod j)) (tVar 0) (tC (.int 2147483647))) (tCons (tC (.int 0)) tNil)))))
def t_Ldraw (T : Cfg) (E : XK) : TS := (tSeq (tIfS (tTest (tOp (rI0 fun i j => .bl (decide (j < i))) (tOp (rIxL T.K) (tVar 0) (tC (.int 0))) (tC (.int 0)))) (tSeq (tAsg (tOp (rI (fun _ j => j ≠ 0) fun i j => .int (i.fmod j)) (tOp (rIxL T.K) (tVar 0) (tC (.int 0))) (tVar 1)) (gName 4))
    (tSeq (tAsg (tOp (rI CFd fun i j => .int (i.fdiv j)) (tOp (rIxL T.K) (tVar 0) (tC (.int 0))) (tVar 1)) (gSub (tVar 0) (tC (.int 0)) rSetL))
    (tRet (tVar 4)))) tNext)
    (tSeq (tAsg (tOp (rI0 fun i j => .int (i + j)) (tOp (rIxL T.K) (tVar 0) (tC (.int 2))) (tC (.int 1))) (gSub (tVar 0) (tC (.int 2)) rSetL))
    (tSeq (tAsg (tOp (rIxL T.K) (tLst (tCons (tC (.int 2147483647)) (tCons (tC (.int 2147483629)) (tCons (tC (.int 2147483587)) (tCons (tC (.int 2147483579)) (tCons (tC (.int 2147483563)) (tCons (tC (.int 2147483549)) (tCons (tC (.int 2147483543)) tNil)))))))) (tOp (rI (fun _ j => j ≠ 0) fun i j => .int (i.fmod j)) (tOp (rIxL T.K) (tVar 0) (tC (.int 2))) (tC (.int 7)))) (gName 2))
    (tSeq (tAsg (tOp (rI (fun _ j => j ≠ 0) fun i j => .int (i.fmod j)) (tOp (rI CPow fun i j => .int (i ^ j.toNat)) (tOp (rI0 fun i j => .int (i + j)) (tOp (rI0 fun i j => .int (i + j)) (tOp (rIxL T.K) (tVar 0) (tC (.int 1))) (tOp (rI IntMulOk fun i j => .int (i * j)) (tC (.int 7919)) (tOp (rIxL T.K) (tVar 0) (tC (.int 2))))) (tC (.int 1))) (tC (.int 5))) (tVar 2)) (gName 3))
    (tSeq (tAsg (tOp (rI (fun _ j => j ≠ 0) fun i j => .int (i.fmod j)) (tOp (rI IntMulOk fun i j => .int (i * j)) (tOp (rI0 fun i j => .int (i + j)) (tVar 3) (tOp (rIxL T.K) (tVar 0) (tC (.int 2)))) (tOp (rI0 fun i j => .int (i + j)) (tOp (rI CFd fun i j => .int (i.fdiv j)) (tVar 3) (tC (.int 1009))) (tC (.int 69621)))) (tVar 2)) (gName 3))
    (tRet (tOp (rI (fun _ j => j ≠ 0) fun i j => .int (i.fmod j)) (tOp (rI CFd fun i j => .int (i.fdiv j)) (tVar 3) (tC (.int 7))) (tVar 1))))))))
def t_Lone (T : Cfg) (E : XK) : TS := (tRet (tOp (rIxL T.K) (tVar 1) (tCall (spOf T (wl (c_Ldraw T))) [] E0 (tCons (tVar 0) (tCons (tCB (Pw.rLen T.K) (tCons (tVar 1) tNil)) tNil)))))
def t_Llow (T : Cfg) (E : XK) : TS := (tSeq (tPar 2 3 (tCons (tCB rAbs (tCons (tVar 0) tNil)) (tCons (tCB rAbs (tCons (tVar 1) tNil)) tNil)))
    (tSeq (tWhile (tTest (tOp (rI0 fun i j => .bl (decide (j < i))) (tVar 3) (tC (.int 0)))) (tPar 2 3 (tCons (tVar 3) (tCons (tOp (rI (fun _ j => j ≠ 0) fun i j => .int (i.fmod j)) (tVar 2) (tVar 3)) tNil))))
    (tSeq (tIfS (tTest (tOp (rI0 fun i j => .bl (decide (i < j))) (tVar 1) (tC (.int 0)))) (tAsg (tOp (rI0 fun i j => .int (i - j)) (tC (.int 0)) (tVar 2)) (gName 2)) tNext)
    (tRet (tTup (tCons (tOp (rI CFd fun i j => .int (i.fdiv j)) (tVar 0) (tVar 2)) (tCons (tOp (rI CFd fun i j => .int (i.fdiv j)) (tVar 1) (tVar 2)) tNil)))))))
def t_Lpair (T : Cfg) (E : XK) : TS := (tSeq (tIfS (tOr (tNot (tB (tCB (rIsi T.K) (tCons (tVar 0) (tCons (tC (.ref (T.cls 0))) tNil))))) (tOr (tB (tCB (rIsi T.K) (tCons (tFld T.K (tVar 0) "top") (tCons (tC (.ty "bool")) tNil)))) (tB (tCB (rIsi T.K) (tCons (tFld T.K (tVar 0) "bottom") (tCons (tC (.ty "bool")) tNil)))))) (tRet (tTup (tCons (tC (.int 0)) (tCons (tC (.int 0)) tNil)))) tNext)
    (tSeq (tIfS (tOr (tNot (tB (tCB (rIsi T.K) (tCons (tFld T.K (tVar 0) "top") (tCons (tC (.ty "int")) tNil))))) (tOr (tNot (tB (tCB (rIsi T.K) (tCons (tFld T.K (tVar 0) "bottom") (tCons (tC (.ty "int")) tNil))))) (tTest (tOp (rI0 fun i j => .bl (decide (i < j))) (tFld T.K (tVar 0) "bottom") (tC (.int 1)))))) (tRet (tTup (tCons (tC (.int 0)) (tCons (tC (.int 0)) tNil)))) tNext)
    (tRet (tIf (tTest (tOp (rEqD T.K) (tCall (spOf T (pu (c_Llow T))) [] E0 (tCons (tFld T.K (tVar 0) "top") (tCons (tFld T.K (tVar 0) "bottom") tNil))) (tTup (tCons (tFld T.K (tVar 0) "top") (tCons (tFld T.K (tVar 0) "bottom") tNil))))) (tTup (tCons (tFld T.K (tVar 0) "top") (tCons (tFld T.K (tVar 0) "bottom") tNil))) (tTup (tCons (tC (.int 0)) (tCons (tC (.int 0)) tNil)))))))
def t_Lnumber (T : Cfg) (E : XK) : TS := (tSeq (tAsg (tCall (spOf T (wl (c_Lone T))) [] E0 (tCons (tVar 0) (tCons (tLst (tCons (tC (.int 3)) (tCons (tC (.int 12)) (tCons (tC (.int 1000)) (tCons (tOp (rI CPow fun i j => .int (i ^ j.toNat)) (tC (.int 10)) (tC (.int 12))) (tCons (tOp (rI CPow fun i j => .int (i ^ j.toNat)) (tC (.int 10)) (tC (.int 40))) tNil)))))) tNil))) (gName 1))
    (tRet (tOp (rI IntMulOk fun i j => .int (i * j)) (tCall (spOf T (wl (c_Ldraw T))) [] E0 (tCons (tVar 0) (tCons (tVar 1) tNil))) (tCall (spOf T (wl (c_Lone T))) [] E0 (tCons (tVar 0) (tCons (tLst (tCons (tC (.int 1)) (tCons (tC (.int 1)) (tCons (tUn (rU fun i => .int (-i)) (tC (.int 1))) tNil)))) tNil))))))
def t_Lfraction (T : Cfg) (E : XK) : TS := (tSeq (tPar 2 3 (tCons (tCall (spOf T (wl (c_Lnumber T))) [] E0 (tCons (tVar 0) tNil)) (tCons (tCall (spOf T (wl (c_Lnumber T))) [] E0 (tCons (tVar 0) tNil)) tNil)))
    (tSeq (tAsg (tCall (spOf T (wl (c_Lone T))) [] E0 (tCons (tVar 0) (tCons (tLst (tCons (tC (.int 1)) (tCons (tC (.int 1)) (tCons (tC (.int 2)) (tCons (tC (.int 6)) (tCons (tC (.int 35)) tNil)))))) tNil))) (gName 1))
    (tRet (tTup (tCons (tOp (rI IntMulOk fun i j => .int (i * j)) (tVar 2) (tVar 1)) (tCons (tOp (rI IntMulOk fun i j => .int (i * j)) (tOp (rI0 fun i j => .int (i + j)) (tVar 3) (tCB rInt1 (tCons (tOp rEq (tVar 3) (tC (.int 0))) tNil))) (tVar 1)) tNil))))))
def t_Ltext (T : Cfg) (E : XK) : TS := (tSeq (tIfS (tTest (tOp rEq (tOp (rIxT T.K) (tVar 0) (tC (.int 1))) (tC (.int 1)))) (tRet (tCB rStrI (tCons (tOp (rIxT T.K) (tVar 0) (tC (.int 0))) tNil))) tNext)
    (tRet (tOp rAddS (tOp rAddS (tCB rStrI (tCons (tOp (rIxT T.K) (tVar 0) (tC (.int 0))) tNil)) (tC (.str "/"))) (tCB rStrI (tCons (tOp (rIxT T.K) (tVar 0) (tC (.int 1))) tNil)))))
def t_Lsecond (T : Cfg) (E : XK) : TS := (tSeq (tAsg (tVar 1) (gTup T.K 2 (gCons (gName 4) (gCons (gName 5) gNil))))
    (tSeq (tAsg (tCall (spOf T (wl (c_Lone T))) [] E0 (tCons (tVar 0) (tCons (tLst (tCons (tC (.int 1)) (tCons (tUn (rU fun i => .int (-i)) (tC (.int 1))) (tCons (tC (.int 7)) (tCons (tOp (rI CPow fun i j => .int (i ^ j.toNat)) (tC (.int 10)) (tC (.int 20))) tNil))))) tNil))) (gName 2))
    (tSeq (tAsg (tLst (tCons (tTup (tCons (tOp (rI IntMulOk fun i j => .int (i * j)) (tVar 4) (tVar 2)) (tCons (tOp (rI IntMulOk fun i j => .int (i * j)) (tVar 5) (tVar 2)) tNil))) (tCons (tTup (tCons (tOp (rI0 fun i j => .int (i + j)) (tVar 4) (tC (.int 1))) (tCons (tVar 5) tNil))) (tCons (tTup (tCons (tVar 5) (tCons (tOp (rI0 fun i j => .int (i + j)) (tVar 4) (tCB rInt1 (tCons (tOp rEq (tVar 4) (tC (.int 0))) tNil))) tNil))) (tCons (tTup (tCons (tOp (rI0 fun i j => .int (i - j)) (tC (.int 0)) (tVar 4)) (tCons (tVar 5) tNil))) (tCons (tVar 1) tNil)))))) (gName 3))
    (tRet (tCall (spOf T (wl (c_Lone T))) [] E0 (tCons (tVar 0) (tCons (tOp rCat (tVar 3) (tLst (tCons (tCall (spOf T (wl (c_Lfraction T))) [] E0 (tCons (tVar 0) tNil)) tNil))) tNil)))))))
theorem pure_Lwell {T : Cfg} (hT : ShOk T) : ∀ E ds μ P XP, c_Lwell T ds μ P XP → SV T (t_Lwell T E) (fun cls dd _ H => E cls dd H) ⟨slots 1 ds, μ⟩ (fnK P XP) := by
  rintro E ds μ P XP ⟨c, rfl, h⟩
  unfold t_Lwell
  refine sv_ret (ev_newWell ?_)
  walk_at "rws"
  refine ov_mul ?_ ?_
  · exact IntMulOk.of_right (by split <;> decide)
  walk_at "rws"
  refine ⟨full, _, _, _, rfl, ?_, ?_, ?_, by decide, by decide, h⟩
  · split
    · rename_i hc
      have : (10 : Int) ^ Int.toNat 18 ≤ c := by simpa using hc
      have h2 : (0 : Int) ≤ 10 ^ Int.toNat 18 := by decide
      omega
    · omega
  · rw [Int.fmod_eq_emod_of_nonneg _ (by decide)]; omega
  · rw [Int.fmod_eq_emod_of_nonneg _ (by decide)]; omega
theorem pure_Ldraw {T : Cfg} (hT : ShOk T) : ∀ E ds μ P XP, wl (c_Ldraw T) ds μ P XP → SV T (t_Ldraw T E) (fun cls dd _ H => E cls dd H) ⟨slots 5 ds, μ⟩ (fnK P XP) := by
  rintro E ds μ P XP ⟨a, b, rest, rfl, rfl, Pf, ⟨n, rfl, hn, hl, hb, k⟩, hP⟩
  unfold t_Ldraw
  refine sv_well put_same fun w0 w1 w2 h0 h1 h2 h3 h4 => ?_
  rw [put_put]
  walk_at "rws"
  refine ⟨_, rfl, fun hw => ?_, fun hw => ?_⟩
  · have hw0 : 0 < w0 := by simpa using hw
    walk_at "rws"
    refine ov_mod (by omega) ?_
    walk_at "rws"
    refine sv_setL ?_
    walk_at "rws"
    refine ov_fdiv ⟨by omega, hl⟩ ?_
    walk_at "rws"
    refine ⟨a, _, 0, 0, rfl, put_same, rfl, rfl, ?_⟩
    rw [put_put]
    walk_at "rw"
    refine sv_ret (ev_close (a := a) ?_)
    walk_at "rws"
    refine ⟨b - 1, w0.fdiv n, w1, w2, put_same, ?_, h1, h2, h3, by omega, ?_⟩
    · rw [Int.fdiv_eq_ediv_of_nonneg _ (by omega)]
      exact Int.ediv_nonneg h0 (by omega)
    · rw [put_put]
      refine hP _ _ (k _ ?_ ?_)
      · rw [Int.fmod_eq_emod_of_nonneg _ (by omega)]; exact Int.emod_nonneg _ (by omega)
      · rw [Int.fmod_eq_emod_of_nonneg _ (by omega)]; exact Int.emod_lt_of_pos _ hn
  · walk_at "rws"
    refine sv_setL ?_
    walk_at "rws"
    refine ⟨a, _, 2, 2, rfl, put_same, rfl, rfl, ?_⟩
    rw [put_put]
    have hp : ∃ p : Int, atI [D.int 2147483647, D.int 2147483629, D.int 2147483587, D.int 2147483579, D.int 2147483563, D.int 2147483549, D.int 2147483543] ((w2 + 1).fmod 7) = some (.int p) ∧ 2147483543 ≤ p ∧ p ≤ 2147483647 := by
      rw [Int.fmod_eq_emod_of_nonneg _ (by decide)]
      have hr : (w2 + 1) % 7 = 0 ∨ (w2 + 1) % 7 = 1 ∨ (w2 + 1) % 7 = 2 ∨ (w2 + 1) % 7 = 3 ∨ (w2 + 1) % 7 = 4 ∨ (w2 + 1) % 7 = 5 ∨ (w2 + 1) % 7 = 6 := by omega
      rcases hr with e | e | e | e | e | e | e <;> rw [e] <;> exact ⟨_, rfl, by decide, by decide⟩
    obtain ⟨p, hp, p1, p2⟩ := hp
    walk_at "rls"
    refine ov_ixL (.inl rfl) hp ?_
    walk_at "rws"
    refine ov_mul (IntMulOk.of_left (by decide)) ?_
    walk_at "rws"
    refine ov_pow ⟨by decide, by decide, ?_⟩ ?_
    · have e : (2 : Nat) ^ 64 = 18446744073709551616 := by decide
      rw [e]; omega
    walk_at "rws"
    refine ov_mod (by omega) ?_
    generalize hx : ((w1 + 7919 * (w2 + 1) + 1) ^ Int.toNat 5).fmod p = x
    have x1 : 0 ≤ x ∧ x < p := by
      rw [Int.fmod_eq_emod_of_nonneg _ (by omega)] at hx
      exact hx ▸ ⟨Int.emod_nonneg _ (by omega), Int.emod_lt_of_pos _ (by omega)⟩
    walk_at "rws"
    refine ov_fdiv ⟨by decide, by decide⟩ ?_
    walk_at "rws"
    refine ov_mul ?_ ?_
    · refine IntMulOk.of_left (intBits_le_64 ?_ ?_)
      · have e : (2 : Int) ^ 64 = 18446744073709551616 := by decide
        rw [e]; omega
      · have e : (2 : Int) ^ 64 = 18446744073709551616 := by decide
        rw [e]; omega
    walk_at "rws"
    refine ov_mod (by omega) ?_
    generalize ((x + (w2 + 1)) * (x.fdiv 1009 + 69621)).fmod p = y
    walk_at "rw"
    refine sv_ret (ev_close (a := a) ?_)
    walk_at "rws"
    refine ov_fdiv ⟨by decide, by decide⟩ ?_
    walk_at "rws"
    refine ov_mod (by omega) ?_
    refine ⟨b - 1, w0, w1, w2 + 1, put_same, h0, h1, h2, by omega, by omega, ?_⟩
    rw [put_put]
    walk_at "rws"
    refine hP _ _ (k _ ?_ ?_)
    · rw [Int.fmod_eq_emod_of_nonneg _ (by omega)]; exact Int.emod_nonneg _ (by omega)
    · rw [Int.fmod_eq_emod_of_nonneg _ (by omega)]; exact Int.emod_lt_of_pos _ hn
theorem fmod_bd {x n : Int} (h : 0 < n) : 0 ≤ x.fmod n ∧ x.fmod n < n := by
  rw [Int.fmod_eq_emod_of_nonneg _ (by omega)]; exact ⟨Int.emod_nonneg _ (by omega), Int.emod_lt_of_pos _ h⟩
theorem atI_mem {ds : List D} {k : Int} (h0 : 0 ≤ k) (h1 : k < ds.length) : ∃ e, atI ds k = some e ∧ e ∈ ds := by
  obtain ⟨n, rfl⟩ := Int.eq_ofNat_of_zero_le h0
  have hn : n < ds.length := by omega
  refine ⟨ds[n], ?_, List.getElem_mem hn⟩
  have e : ixN ds.length (n : Int) = some n := by
    unfold ixN
    rw [if_pos (by omega), if_pos (by omega)]
    rfl
  unfold atI
  rw [e]
  exact List.getElem?_eq_getElem hn
theorem pure_Lone {T : Cfg} (hT : ShOk T) : ∀ E ds μ P XP, wl (c_Lone T) ds μ P XP → SV T (t_Lone T E) (fun cls dd _ H => E cls dd H) ⟨slots 2 ds, μ⟩ (fnK P XP) := by
  rintro E ds μ P XP ⟨a, b, rest, rfl, rfl, Pf, ⟨d, es, rfl, hs, h0, h1, hb, k⟩, hP⟩
  unfold t_Lone
  walk_at "rws"
  refine cv_len hs ?_
  walk_at "rws"
  refine ⟨a, b, _, _, rfl, rfl, _, rfl, by omega, ?_, hb, fun x x0 x1 => ?_⟩
  · have : (es.length : Int).natAbs = es.length := by omega
    rw [this]
    exact PySem.Flt.log2_lt_of (by decide) (Nat.lt_of_le_of_lt h1 (Nat.lt_of_lt_of_le (m := 2 ^ 10) (by decide) (Nat.pow_le_pow_right (by decide) (by decide))))
  · obtain ⟨e, he, hm⟩ := atI_mem x0 x1
    refine ov_ixL hs he ?_
    walk_at "rws"
    exact hP _ _ (k e hm)
theorem gcd_step {x n : Nat} (h : n ≠ 0) : Nat.gcd n (x % n) = Nat.gcd x n := by
  rw [Nat.gcd_comm x n, Nat.gcd_rec n x, Nat.gcd_comm]
theorem pure_Llow {T : Cfg} (hT : ShOk T) : ∀ E ds μ P XP, pu (c_Llow T) ds μ P XP → SV T (t_Llow T E) (fun cls dd _ H => E cls dd H) ⟨slots 4 ds, μ⟩ (fnK P XP) := by
  rintro E ds μ P XP ⟨rfl, Pf, Xf, ⟨i, j, rfl, hj, hb, p⟩, hP, hX⟩
  unfold t_Llow
  walk_at "rws"
  refine ⟨_, _, rfl, ?_⟩
  walk_at "rw"
  walk_at "rw"
  refine sv_while (fun n s => ∃ x : Nat, s = ⟨[some (.int i), some (.int j), some (.int x), some (.int n)], mu0⟩ ∧ Nat.gcd x n = Nat.gcd i.natAbs j.natAbs) j.natAbs ⟨i.natAbs, rfl, rfl⟩ ?_
  rintro n s ⟨x, rfl, hg⟩
  walk_at "rws"
  refine ⟨_, rfl, fun h1 => ?_, fun h1 => ?_⟩
  · walk_at "rws"
    have hn : n ≠ 0 := by
      intro z; subst z; simp at h1
    refine ov_mod (by omega) ?_
    walk_at "rws"
    refine ⟨_, _, rfl, x % n, Nat.mod_lt _ (by omega), n, ?_, ?_⟩
    · have : (x : Int).fmod (n : Int) = ((x % n : Nat) : Int) := by
        rw [Int.fmod_eq_emod_of_nonneg _ (by omega)]; rfl
      rw [this]
      rfl
    · rw [← hg, gcd_step hn]
  · have hn : n = 0 := by
      simp at h1; omega
    subst hn
    rw [Nat.gcd_zero_right] at hg
    subst hg
    have hgp : 0 < Nat.gcd i.natAbs j.natAbs := Nat.gcd_pos_of_pos_right _ (by omega)
    have hgl : Nat.gcd i.natAbs j.natAbs ≤ j.natAbs := Nat.gcd_le_right _ (by omega)
    have fin : ∀ x : Int, x = ((Nat.gcd i.natAbs j.natAbs : Nat) : Int) * (if 0 < j then 1 else -1) → CFd i x ∧ CFd j x ∧ i.fdiv x = (Rat.divInt i j).num ∧ j.fdiv x = ((Rat.divInt i j).den : Int) := fun x hx => by
      have e1 := FM.num_ok (i := i) hj
      have e2 := FM.den_ok (i := i) hj
      rw [← hx] at e1 e2
      have hab : x.natAbs = Nat.gcd i.natAbs j.natAbs := by
        subst hx; split <;> omega
      have hc : x ≠ 0 ∧ x.natAbs.log2 < 9000 := ⟨by omega, PySem.Flt.log2_lt_of (by decide) (Nat.lt_of_le_of_lt (hab ▸ hgl) hb)⟩
      exact ⟨hc, hc, e1, e2⟩
    walk_at "rws"
    refine ⟨_, rfl, fun hl => ?_, fun hl => ?_⟩
    · have hl' : j < 0 := by simpa using hl
      obtain ⟨c1, c2, e1, e2⟩ := fin (0 - ((Nat.gcd i.natAbs j.natAbs : Nat) : Int)) (by rw [if_neg (by omega)]; omega)
      walk_at "rws"
      refine ov_fdiv c1 ?_
      walk_at "rws"
      refine ov_fdiv c2 ?_
      walk_at "rws"
      rw [e1, e2]
      exact hP _ p
    · have hl' : ¬ j < 0 := by simpa using hl
      obtain ⟨c1, c2, e1, e2⟩ := fin ((Nat.gcd i.natAbs j.natAbs : Nat) : Int) (by rw [if_pos (by omega)]; omega)
      walk_at "rws"
      refine ov_fdiv c1 ?_
      walk_at "rws"
      refine ov_fdiv c2 ?_
      walk_at "rws"
      rw [e1, e2]
      exact hP _ p
theorem low_i {T : Cfg} {i j : Int} {P : D → Prop} {X : XD → Prop} (hj : j ≠ 0) (hb : Bt 9000 j) (k : P (prD (Rat.divInt i j))) : c_Llow T [.int i, .int j] P X := ⟨i, j, rfl, hj, hb, k⟩
theorem pair_i {T : Cfg} {q : Rat} {P : D → Prop} {X : XD → Prop} (hb : Bq 9000 q) (k : P (prD q)) : c_Lpair T [shD q] P X := ⟨q, rfl, hb, k⟩
theorem one_i {T : Cfg} {b : Nat} {ds : List D} {P : D → Nat → Prop} (hb : 1 ≤ b) (h0 : 0 < ds.length) (h1 : ds.length ≤ 1000) (k : ∀ e ∈ ds, P e (b - 1)) : c_Lone T b [.lst ds] P := ⟨_, ds, rfl, .inl rfl, h0, h1, hb, k⟩
theorem draw_i {T : Cfg} {b : Nat} {n : Int} {P : D → Nat → Prop} (hb : 1 ≤ b) (h0 : 0 < n) (h1 : Bt 9000 n) (k : ∀ k : Int, 0 ≤ k → k < n → P (.int k) (b - 1)) : c_Ldraw T b [.int n] P := ⟨_, rfl, h0, h1.log (by decide), hb, k⟩
theorem num_i {T : Cfg} {b : Nat} {P : D → Nat → Prop} (hb : 3 ≤ b) (k : ∀ (k : Int) (b' : Nat), Bt 133 k → b ≤ b' + 3 → P (.int k) b') : c_Lnumber T b [] P := ⟨rfl, hb, k⟩
theorem frac_i {T : Cfg} {b : Nat} {P : D → Nat → Prop} (hb : 7 ≤ b) (k : ∀ (t u : Int) (b' : Nat), u ≠ 0 → Bt 140 t → Bt 140 u → b ≤ b' + 7 → P (.tup [.int t, .int u]) b') : c_Lfraction T b [] P := ⟨rfl, hb, k⟩
theorem second_i {T : Cfg} {b : Nat} {t u : Int} {P : D → Nat → Prop} (u0 : u ≠ 0) (ht : Bt 140 t) (hu : Bt 140 u) (hb : 9 ≤ b) (k : ∀ (t u : Int) (b' : Nat), u ≠ 0 → Bt 210 t → Bt 210 u → b ≤ b' + 9 → P (.tup [.int t, .int u]) b') : c_Lsecond T b [.tup [.int t, .int u]] P := ⟨t, u, rfl, u0, ht, hu, hb, k⟩
theorem text_i {T : Cfg} {q : Rat} {P : D → Prop} {X : XD → Prop} (hb : Bq 1900 q) (k : P (.str (shS q))) : c_Ltext T [prD q] P X := ⟨q, rfl, hb, k⟩
theorem pure_Lpair {T : Cfg} (hT : ShOk T) : ∀ E ds μ P XP, pu (c_Lpair T) ds μ P XP → SV T (t_Lpair T E) (fun cls dd _ H => E cls dd H) ⟨slots 1 ds, μ⟩ (fnK P XP) := by
  rintro E ds μ P XP ⟨rfl, Pf, Xf, ⟨q, rfl, hq, p⟩, hP, hX⟩
  unfold t_Lpair
  walk_at "rks"
  have hd : ¬ (q.den : Int) < 1 := by have := q.den_pos; omega
  rw [decide_eq_false hd]
  walk_at "rks"
  refine low_i (by have := q.den_pos; omega) (by simpa [Bt] using hq.2) ?_
  rw [Rat.num_divInt_den]
  walk_at "rks"
  refine ov_eqP ?_
  rw [decide_eq_true rfl]
  walk_at "rks"
  exact hP _ p
theorem pure_Lnumber {T : Cfg} (hT : ShOk T) : ∀ E ds μ P XP, wl (c_Lnumber T) ds μ P XP → SV T (t_Lnumber T E) (fun cls dd _ H => E cls dd H) ⟨slots 2 ds, μ⟩ (fnK P XP) := by
  rintro E ds μ P XP ⟨a, b, rest, rfl, rfl, Pf, ⟨rfl, hb, k⟩, hP⟩
  unfold t_Lnumber
  walk_at "rks"
  refine ⟨a, b, _, _, rfl, rfl, one_i (by omega) (by decide) (by decide) fun e he => ?_⟩
  have hm : ∃ m : Int, e = .int m ∧ 0 < m ∧ m ≤ 10 ^ 40 := by
    simp only [List.mem_cons, List.not_mem_nil, or_false] at he
    rcases he with rfl | rfl | rfl | rfl | rfl <;> exact ⟨_, rfl, by decide, by decide⟩
  obtain ⟨m, rfl, m0, m1⟩ := hm
  walk_at "rks"
  refine ⟨a, _, _, _, rfl, rfl, draw_i (by omega) m0 (Bt.mono (n := 133) (show m.natAbs < 2 ^ 133 by omega) (by decide)) fun x x0 x1 => ?_⟩
  walk_at "rks"
  refine ⟨a, _, _, _, rfl, rfl, one_i (by omega) (by simp) (by simp) fun e he => ?_⟩
  have hs : ∃ s : Int, e = .int s ∧ (s = 1 ∨ s = -1) := by
    simp only [List.mem_cons, List.not_mem_nil, or_false] at he
    rcases he with rfl | rfl | rfl <;> exact ⟨_, rfl, by decide⟩
  obtain ⟨s, rfl, hs⟩ := hs
  refine ov_mul (IntMulOk.of_right (by rcases hs with rfl | rfl <;> decide)) ?_
  walk_at "rws"
  refine hP _ _ (k _ _ ?_ (by omega))
  unfold Bt
  rcases hs with rfl | rfl <;> omega
theorem bump {y : Int} {n : Nat} (hy : Bt n y) (h0 : 0 < n) : y + (if decide (y = 0) = true then 1 else 0) ≠ 0 ∧ Bt (n + 1) (y + (if decide (y = 0) = true then 1 else 0)) := by
  by_cases e : y = 0
  · rw [if_pos (by simpa using e)]
    subst e
    refine ⟨by decide, ?_⟩
    show 1 < 2 ^ (n + 1)
    exact Nat.one_lt_two_pow (by omega)
  · rw [if_neg (by simpa using e)]
    exact ⟨by omega, by rw [Int.add_zero]; exact hy.mono (by omega)⟩
theorem pure_Lfraction {T : Cfg} (hT : ShOk T) : ∀ E ds μ P XP, wl (c_Lfraction T) ds μ P XP → SV T (t_Lfraction T E) (fun cls dd _ H => E cls dd H) ⟨slots 4 ds, μ⟩ (fnK P XP) := by
  rintro E ds μ P XP ⟨a, b, rest, rfl, rfl, Pf, ⟨rfl, hb, k⟩, hP⟩
  unfold t_Lfraction
  walk_at "rks"
  refine ⟨a, b, _, _, rfl, rfl, num_i (by omega) fun x b1 hx hb1 => ?_⟩
  walk_at "rks"
  refine ⟨a, _, _, _, rfl, rfl, num_i (by omega) fun y b2 hy hb2 => ?_⟩
  walk_at "rks"
  refine ⟨a, _, _, _, rfl, rfl, one_i (by omega) (by simp) (by simp) fun e he => ?_⟩
  have hm : ∃ m : Int, e = .int m ∧ m ≠ 0 ∧ Bt 6 m := by
    simp only [List.mem_cons, List.not_mem_nil, or_false] at he
    rcases he with rfl | rfl | rfl | rfl | rfl <;> exact ⟨_, rfl, by decide, by unfold Bt; decide⟩
  obtain ⟨m, rfl, m0, m1⟩ := hm
  walk_at "rks"
  refine ov_mul (hx.ok m1 (by decide)) ?_
  walk_at "rks"
  have hz := bump hy (by decide)
  refine ov_mul (hz.2.ok m1 (by decide)) ?_
  walk_at "rks"
  exact hP _ _ (k _ _ _ (Int.mul_ne_zero hz.1 m0) ((hx.mul m1).mono (by decide)) (hz.2.mul m1) (by omega))
theorem pure_Ltext {T : Cfg} (hT : ShOk T) : ∀ E ds μ P XP, pu (c_Ltext T) ds μ P XP → SV T (t_Ltext T E) (fun cls dd _ H => E cls dd H) ⟨slots 1 ds, μ⟩ (fnK P XP) := by
  rintro E ds μ P XP ⟨rfl, Pf, Xf, ⟨q, rfl, hb, hp⟩, hP, hX⟩
  unfold t_Ltext prD
  have h1 : q.num.natAbs.log2 < 1920 := Nat.lt_of_lt_of_le (hb.bn.log (by decide)) (by decide)
  have h2 : ((q.den : Int)).natAbs.log2 < 1920 := Nat.lt_of_lt_of_le (hb.bd.log (by decide)) (by decide)
  have l1 := numS_len hb.bn
  have l2 := numS_len hb.bd
  walk_at "rws"
  refine ⟨_, rfl, fun h3 => ?_, fun h3 => ?_⟩
  · have h4 : q.den = 1 := by have : (q.den : Int) = 1 := by simpa using h3
                              omega
    walk_at "rks"
    refine cv_strI h1 ?_
    have e : shS q = numS q.num := if_pos h4
    rw [e] at hp
    exact hP _ hp
  · have h4 : ¬ q.den = 1 := by have : ¬ (q.den : Int) = 1 := by simpa using h3
                                omega
    walk_at "rks"
    refine cv_strI h1 ?_
    walk_at "rks"
    refine ov_addS ?_ ?_
    · show (numS q.num).length + 1 ≤ 100000
      omega
    walk_at "rks"
    refine cv_strI h2 ?_
    refine ov_addS ?_ ?_
    · rw [strLen_append]
      show (numS q.num).length + 1 + (numS (q.den : Int)).length ≤ 100000
      omega
    walk_at "rks"
    have e : shS q = ((numS q.num ++ ("/" : Str)) ++ numS (q.den : Int)) := if_neg h4
    rw [e] at hp
    exact hP _ hp
theorem pure_Lsecond {T : Cfg} (hT : ShOk T) : ∀ E ds μ P XP, wl (c_Lsecond T) ds μ P XP → SV T (t_Lsecond T E) (fun cls dd _ H => E cls dd H) ⟨slots 6 ds, μ⟩ (fnK P XP) := by
  rintro E ds μ P XP ⟨a, b, rest, rfl, rfl, Pf, ⟨t, u, rfl, u0, ht, hu, hb, k⟩, hP⟩
  unfold t_Lsecond
  walk_at "rks"
  refine ⟨a, _, _, _, rfl, rfl, one_i (by omega) (by simp) (by simp) fun e he => ?_⟩
  have hm : ∃ m : Int, e = .int m ∧ m ≠ 0 ∧ Bt 67 m := by
    simp only [List.mem_cons, List.not_mem_nil, or_false] at he
    rcases he with rfl | rfl | rfl | rfl <;> exact ⟨_, rfl, by decide, by unfold Bt; decide⟩
  obtain ⟨m, rfl, m0, m1⟩ := hm
  walk_at "rks"
  refine ov_mul (ht.ok m1 (by decide)) ?_
  walk_at "rks"
  refine ov_mul (hu.ok m1 (by decide)) ?_
  walk_at "rks"
  refine ⟨a, _, _, _, rfl, rfl, frac_i (by omega) fun t' u' b' u0' ht' hu' hb' => ?_⟩
  walk_at "rks"
  refine ov_cat (by simp) ?_
  walk_at "rks"
  refine ⟨a, _, _, _, rfl, rfl, one_i (by omega) (by simp) (by simp) fun e he => ?_⟩
  have hm : ∃ t u : Int, e = .tup [.int t, .int u] ∧ u ≠ 0 ∧ Bt 210 t ∧ Bt 210 u := by
    simp only [List.mem_cons, List.not_mem_nil, or_false, List.cons_append, List.nil_append] at he
    have h1 : Bt 140 (1 : Int) := by unfold Bt; decide
    have h2 : Bt 140 (0 : Int) := by unfold Bt; decide
    have hz := bump ht (by decide)
    rcases he with rfl | rfl | rfl | rfl | rfl | rfl
    · exact ⟨_, _, rfl, Int.mul_ne_zero u0 m0, (ht.mul m1).mono (by decide), (hu.mul m1).mono (by decide)⟩
    · exact ⟨_, _, rfl, u0, ht.add h1 (by decide), hu.mono (by decide)⟩
    · exact ⟨_, _, rfl, hz.1, hu.mono (by decide), hz.2.mono (by decide)⟩
    · exact ⟨_, _, rfl, u0, h2.sub ht (by decide), hu.mono (by decide)⟩
    · exact ⟨_, _, rfl, u0, ht.mono (by decide), hu.mono (by decide)⟩
    · exact ⟨_, _, rfl, u0', ht'.mono (by decide), hu'.mono (by decide)⟩
  obtain ⟨t2, u2, rfl, h0, h1, h2⟩ := hm
  walk_at "rks"
  exact hP _ _ (k _ _ _ h0 h1 h2 (by omega))
end Far

namespace Pw
open PySem PySem.Spec PyProof.Rows L2
theorem ev_callM0 {T : Cfg} {W : WX} {ρ : List (Option D)} {m0 : Mu} {P : D → Mu → Prop} {XP : XW} {c : Ct} {E : XK} {ta : TA}
    (h : EA T ta W ⟨ρ, m0⟩ (fun ds μ => ∃ μ1, Subm μ1 μ ∧ c ds μ1 (fun d μ2 => P d (mrg μ μ1 μ2)) (fun x μ2 => False)) XP) : EV T (tCall (spOf T c) [] E ta) W ⟨ρ, m0⟩ P XP := fun σ Hb H Q S q x =>
  h σ Hb H _ S (fun ds μ vs Hb1 H1 g r p => by
    obtain ⟨μ1, hs, p⟩ := p
    refine ⟨ds, μ1, Hb1, _, _, g.sub, hs.sim g.mu, by simpa using r, p, fun d μ' v Hb' H' g' r' k => ?_, fun y μ' cls dd Hb' H' g' r' k => k.elim⟩
    exact q _ _ _ _ _ (g.trans (g'.widen hs g.mu)) r' k) x
theorem mrg_put {μ : Mu} {a : Addr} {m : MO} : mrg μ mu0 (put mu0 a m) = put μ a m := by
  funext b
  unfold mrg put
  by_cases e : b = a
  · simp [e]
  · simp [e]
theorem cut_sub {ds : List D} {lo hi : Option Int} : ∀ e ∈ cutD ds lo hi, e ∈ ds := fun e h => List.mem_of_mem_drop (List.mem_of_mem_take h)
theorem cut_len {ds : List D} {lo hi : Option Int} : (cutD ds lo hi).length ≤ ds.length := by
  unfold cutD
  rw [List.length_take, List.length_drop]
  omega
/-! a script -/
def c_law (T : Cfg) : Ct := fun ds μ P _ => ∃ ns : List Int, ds = [.seq (ns.map D.int)] ∧ ns.length ≤ 63 ∧ μ = mu0 ∧ ∀ μ', P (.bl true) μ'
theorem len_law {T : Cfg} : ∀ ds μ P XP, c_law T ds μ P XP → ds.length = 1 := by
  rintro ds μ P XP ⟨ns, rfl, _⟩; rfl
theorem ints_rep {T : Cfg} {H : Hp} : ∀ ns : List Int, RepL T H (ns.map D.int) (ns.map V.int)
  | [] => .nil
  | n :: ns => .cons (.int n) (ints_rep ns)
theorem law_start {T : Cfg} {H : Hp} {a : Addr} {ns : List Int} (hl : ns.length ≤ 63) (hS : SqL T.K H a (ns.map V.int)) : spOf T (c_law T) [.ref a] H (fun v _ => v = .bl true) fun _ _ _ => False :=
  ⟨[.seq (ns.map D.int)], mu0, H, fun d _ => d = .bl true, fun _ _ => False, fun _ _ e => e, SimMu.nil, .cons (.seq hS (ints_rep (T := T) (H := H) ns).1 (ints_rep ns).2) .nil, ⟨ns, rfl, hl, rfl, fun _ => rfl⟩, fun d μ' v Hb' H' g r p => by
    subst p
    cases r
    rfl, fun _ _ _ _ _ _ _ _ k => k.elim⟩
theorem ev_cells {T : Cfg} {W : WX} {ρ : List (Option D)} {m0 : Mu} {P : D → Mu → Prop} {XP : XW} {k : Int} {ns : List Int} {ta : TA} (h0 : ρ[0]? = some (some (.seq (ns.map D.int)))) (hl : ns.length ≤ 63)
    (h : EA T ta W ⟨ρ, m0⟩ (fun ds μ => ds.length ≤ 1000 ∧ (∀ e ∈ ds, ∃ c : Int, e = .int c) ∧ ∀ es, es.length ≤ 2000 → (∀ e ∈ es, ∃ c : Int, e = .int c) → P (.lst es) μ) XP) : EV T (tOp rCat (tSl (rSlL T.K) (tVar 0) tNoPart (tPart (tC (.int k)))) (tLst ta)) W ⟨ρ, m0⟩ P XP := by
  refine ev_op (ev_slL (ev_var h0 (po_no (po_so (ev_int ⟨k, rfl, ns.map D.int, .inr rfl, ev_lst ?_⟩)))))
  intro σ Hb H Q S q x
  refine h σ Hb H Q S (fun ds μ vs Hb' H' g r p => q ds μ vs Hb' H' g r ⟨by omega, ?_⟩) x
  have hc := cut_len (ds := ns.map D.int) (lo := none) (hi := some k)
  rw [List.length_map] at hc
  refine ov_cat (by omega) (p.2.2 _ (by rw [List.length_append]; omega) fun e he => ?_)
  rcases List.mem_append.1 he with h1 | h1
  · have := cut_sub e h1
    rw [List.mem_map] at this
    obtain ⟨c, _, rfl⟩ := this
    exact ⟨c, rfl⟩
  · exact p.2.1 e h1
end Pw
namespace Far
open PySem PySem.Spec PyProof.Rows L2 Pw
open FM (Bq)
theorem ev_wellN {T : Cfg} {W : WX} {ρ : List (Option D)} {m0 : Mu} {P : D → Mu → Prop} {XP : XW} {E : XK} {ta : TA}
    (h : EA T ta W ⟨ρ, m0⟩ (fun ds μ => ∃ c : Int, ds = [.int c] ∧ ∀ a, P (.ptr a) (put μ a (.well 1073741824))) XP) : EV T (tCall (spOf T (c_Lwell T)) [] E ta) W ⟨ρ, m0⟩ P XP :=
  ev_callM0 fun σ Hb H Q S q x => h σ Hb H Q S (fun ds μ vs Hb' H' g r ⟨c, e, p⟩ => q ds μ vs Hb' H' g r ⟨mu0, sub_nil, c, e, fun a _ => by
    show P _ (mrg μ mu0 (put mu0 a (.well full)))
    rw [mrg_put]
    exact p a⟩) x
section
variable {T : Cfg} {μ : Mu} {P : D → Mu → Prop} {E : XK}
theorem ov_shEq (hT : ShOk T) {p q : Rat} (k : P (.bl (decide (p = q))) μ) : OV T (rOwnEq T.K (T.cls 0) (spOf T (pu (c_Share___eq__ T))) E) (shD p) (shD q) μ P :=
  ov_ownEq (th_sh hT q).ty (th_sh hT q).nf ⟨p, shD q, _, rfl, th_sh hT q, .inl ⟨q, rfl, ⟨_, rfl⟩, k⟩⟩
theorem ov_shEqN (hT : ShOk T) {p : Rat} {d : D} {t : Value} (ht : Thing T d t) (h : isSh d = false) (k : P (.bl false) μ) : OV T (rOwnEq T.K (T.cls 0) (spOf T (pu (c_Share___eq__ T))) E) (shD p) d μ P :=
  ov_ownEq ht.ty ht.nf ⟨p, d, _, rfl, ht, .inr ⟨h, ⟨_, rfl⟩, k⟩⟩
theorem ov_shNe (hT : ShOk T) {p q : Rat} (k : P (.bl (!decide (p = q))) μ) : OV T (rOwnNe T.K (T.cls 0) (spOf T (pu (c_Share___eq__ T))) E) (shD p) (shD q) μ P :=
  ov_ownNe (th_sh hT q).ty (th_sh hT q).nf ⟨p, shD q, _, rfl, th_sh hT q, .inl ⟨q, rfl, _, rfl, k⟩⟩
theorem cv_shStr {q : Rat} (hb : Bq 1900 q) (k : P (.str (shS q)) μ) : CV T (rStrOwn (T.cls 0) (spOf T (pu (c_Share___str__ T))) E) [shD q] μ P :=
  cv_strOwn ⟨q, rfl, hb, ⟨_, rfl⟩, k⟩
end
end Far
namespace Far
open PySem PySem.Spec PyProof.Rows L2 Pw
section
variable {T : Cfg} {W : WX} {ρ : List (Option D)} {m0 : Mu} {P : D → Mu → Prop} {XP : XW} {E : XK} {ta : TA}
theorem EA.imp {P P' : List D → Mu → Prop} (h : EA T ta W ⟨ρ, m0⟩ P XP) (k : ∀ ds μ, P ds μ → P' ds μ) : EA T ta W ⟨ρ, m0⟩ P' XP :=
  fun σ Hb H Q S q x => h σ Hb H Q S (fun ds μ vs Hb' H' g r p => q ds μ vs Hb' H' g r (k _ _ p)) x
theorem ev_mkS0 (hT : ShOk T) (h : EA T ta W ⟨ρ, m0⟩ (fun ds μ => ∃ i j : Int, ds = [.int i, .int j] ∧ j ≠ 0 ∧ Bt 9000 j ∧ P (shD (Rat.divInt i j)) μ) XP) : EV T (tMake (T.cls 0) (spOf T (ini 0 (c_Share___init__ T))) [] E ta) W ⟨ρ, m0⟩ P XP :=
  ev_mak0 (EA.imp h fun ds μ ⟨i, j, e, h1, h2, p⟩ => by subst e; exact i_init hT h1 h2 p)
theorem ev_mkS1 (hT : ShOk T) (h : EA T ta W ⟨ρ, m0⟩ (fun ds μ => ∃ i : Int, ds = [.int i] ∧ P (shD (i : Rat)) μ) XP) : EV T (tMake (T.cls 0) (spOf T (ini 0 (c_Share___init__ T))) [.int 1] E ta) W ⟨ρ, m0⟩ P XP :=
  ev_mak1 (EA.imp h fun ds μ ⟨i, e, p⟩ => by subst e; exact i_int hT p)
theorem ex_ii {i j : Int} {Q : Int → Int → Prop} (h : Q i j) : ∃ x y, [D.int i, D.int j] = [.int x, .int y] ∧ Q x y := ⟨_, _, rfl, h⟩
theorem ex_i {i : Int} {Q : Int → Prop} (h : Q i) : ∃ x, [D.int i] = [.int x] ∧ Q x := ⟨_, rfl, h⟩
end
end Far

/-! != of lists whose things are the same by an own __eq__ -/
namespace NQ
open PySem PySem.SeqAt GQ
open AutoSeq1 (wpAny_loadPart')
open MeetsSeq MeetsSeq2 MeetsSeq3 SeqRoads2
section
variable {pr : Program} {wd : World} {B : Around} {Rs : Result → Shared → Prop}
theorem ne_turns (p q : Addr) (m : Nat) (J : Nat → Shared → Prop) (ht : ListI pr wd B (fun e z => Rs (.error e) z) p q m J) (done : ∀ z, J m z → Rs (.ok (.ret (.bool false))) z) : ∀ (k i : Nat), m - i = k → i ≤ m → ∀ z, J i z →
    wpAny (model pr wd) B.in1 (Builtin.«list.__eq__.loop» ⟨[.ref p, .ref q, rawInt i, rawInt 3], []⟩) (FinOf pr wd B Rs) (fun e z' => Rs (.error e) z') z := by
  intro k
  induction k with
  | zero =>
    intro i ek le z jz
    obtain ⟨us, vs, cu, cv, gp, gq, su, sv, _⟩ := ht _ _ jz
    have ei : i = m := by omega
    have last : Rs (.ok (.ret (.bool false))) z := done z (ei ▸ jz)
    obtain ⟨z1, z2, z3, z4, z5⟩ := z
    wp_walk using wpAny_loadPart' gp, wpAny_loadPart' gq
    have n1 : us[((i : Nat) : Int).toNat]? = none := by simp; omega
    have n2 : vs[((i : Nat) : Int).toNat]? = none := by simp; omega
    rw [n1, n2]
    wp_walk using wpAny_loadPart' gp, wpAny_loadPart' gq
    show Rs (.ok (.ret (.bool (us.size != vs.size)))) _
    rw [su, sv]
    simpa using last
  | succ k ih =>
    intro i ek le z jz
    obtain ⟨us, vs, cu, cv, gp, gq, su, sv, turn⟩ := ht _ _ jz
    have lu : i < us.size := by omega
    have lv : i < vs.size := by omega
    have here := turn lu lv
    obtain ⟨z1, z2, z3, z4, z5⟩ := z
    wp_walk using wpAny_loadPart' gp, wpAny_loadPart' gq
    have n1 : us[((i : Nat) : Int).toNat]? = some us[i] := by simp [lu]
    have n2 : vs[((i : Nat) : Int).toNat]? = some vs[i] := by simp [lv]
    have up : ((i : Int) + 1) = ((i + 1 : Nat) : Int) := by omega
    rw [n1, n2]
    refine wpAny_bind (wpAny_mono here (fun b y by_ => ?_) fun _ _ x => x)
    obtain ⟨eb, jy⟩ := by_
    subst eb
    have more := ih (i + 1) (by omega) (by omega) y jy
    obtain ⟨y1, y2, y3, y4, y5⟩ := y
    wp_walk
    rw [up]
    refine ⟨plainId_quiet plain_eq_loop _, ?_⟩
    refine codeAny_builtin entry_eq_loop ?_
    rw [Around.under_plainId plain_eq_loop _]
    exact more
theorem ne_body (p q : Addr) (m : Nat) (J : Nat → Shared → Prop) (ht : ListI pr wd B (fun e z => Rs (.error e) z) p q m J) (done : ∀ z, J m z → Rs (.ok (.ret (.bool false))) z) {z : Shared} (jz : J 0 z) :
    wpAny (model pr wd) B.in1 (Builtin.«list.__ne__» ⟨[.ref p, .ref q], []⟩) (FinOf pr wd B Rs) (fun e z' => Rs (.error e) z') z := by
  obtain ⟨us, vs, cu, cv, gp, gq, su, sv, _⟩ := ht _ _ jz
  have more := ne_turns (B := B) (Rs := Rs) p q m J ht done _ 0 rfl (Nat.zero_le _) z jz
  obtain ⟨z1, z2, z3, z4, z5⟩ := z
  have ll := AutoSeq1.sub_list_list
  have same : ¬ (us.size != vs.size) = true := by simp [su, sv]
  wp_walk using wpAny_loadPart' gp, wpAny_loadPart' gq
  refine ⟨plainId_quiet plain_eq_loop _, ?_⟩
  refine codeAny_builtin entry_eq_loop ?_
  rw [Around.under_plainId plain_eq_loop _]
  exact more
end
theorem ne_rc {pr : Program} {wd : World} {B : Around} {Z : Value → Shared → Prop} {z : Shared} {p q : Addr} {m : Nat} {Q : Value → Shared → Prop} (hu : B.units < cLine) (J : Nat → Shared → Prop) (ht : ListI pr wd B Z p q m J)
    (done : ∀ z, J m z → Q (.bool false) z) (jz : J 0 z) : wpAny (model pr wd) B (richCompare .NotEq (.ref p) (.ref q)) Q Z z := by
  obtain ⟨us, vs, cu, cv, gp, gq, _, _, _⟩ := ht _ _ jz
  refine wpAny_richCompare_same_room (op := .NotEq) ⟨_, gp, rfl⟩ ⟨_, gq, rfl⟩ F.slot_list_ne (call_here F.slot_list_ne ⟨_, gp, rfl⟩ F.entry_list_ne (F.args_list_ne_2 _ _) ?_) hu
  exact ne_body (Rs := wants (fun v z' => v ≠ .notImplemented ∧ Q v z') Z) p q m J ht (fun z' k => ⟨(fun x => nomatch x), done z' k⟩) jz
end NQ
namespace Pw
open PySem PySem.Spec PyProof.Rows L2
open Evl (Ex ex_l ex_t)
def NrG (X : Cx) (n : Nat) (D : Eqv) : Prop := ∀ (A : Around) (pins : List (Addr × Obj)) (s : Shared) (σ : L2.St) (H : Hp) (x y : V) (u v : Value), L2.Sub X n A → Inv X pins σ H s → RelV x u → RelV y v → D x y H →
  wpAny (model X.prog X.w) A (richCompare .NotEq u v) (fun r s' => r = .bool false ∧ ∃ H', Inv X pins σ H' s' ∧ Ext H H') X.xe s
section
variable {X : Cx} {n : Nat} {D : Eqv}
theorem nrG_list (hD : Mon D) (h : EqG X n D) : NrG X (n + 1) (DList D) := by
  intro A pins s σ H x y u v sb I rx ry d
  obtain ⟨a, b, xs, ys, rfl, rfl, ha, hb, p⟩ := d
  cases rx
  cases ry
  refine NQ.ne_rc (m := xs.length) sb.room.units0 (fun _ z => LoopI X pins σ H z) (fun i z l => ?_) (fun z l => ⟨rfl, l⟩) ⟨H, I, Ext.rfl'⟩
  obtain ⟨H1, I1, e1⟩ := id l
  obtain ⟨z1, us, k1, r1, g1⟩ := I1.hok a _ (e1 _ _ ha)
  obtain ⟨z2, vs, k2, r2, g2⟩ := I1.hok b _ (e1 _ _ hb)
  exact ⟨us.toArray, vs.toArray, k1, k2, g1, g2, by rw [List.size_toArray, ← r1.length], by rw [List.size_toArray, ← r2.length, ← p.1], fun l1 l2 => turnG hD h sb p r1 r2 i l1 l2 z l⟩
def rNeG (D : Eqv) : R2 := fun x y H Q => D x y H ∧ ∀ H', Ext H H' → Q (.bl false) H'
theorem op_neG (h : NrG X n D) (hr : Room n X.A) : OpR X (compareOp .NotEq) (rNeG D) := by
  intro pins s σ H x y v u Q I rx ry hq
  obtain ⟨d, q⟩ := hq
  show wpAny (model X.prog X.w) X.A (richCompare .NotEq v u) (EP X pins σ Q) X.xe s
  refine wpAny_mono (h X.A pins s σ H x y v u ⟨hr, rfl⟩ I rx ry d) (fun r z k => ?_) fun _ _ x => x
  obtain ⟨er, H', I', e⟩ := k
  subst er
  exact ⟨.bl false, H', I', rfl, q H' e⟩
/-- two shares of one number -/
def DSh (T : Cfg) : Eqv := fun x y H => ∃ (q : Rat) (Hb : Hp), Ex Hb H ∧ Rep T Hb (Far.shD q) x ∧ Rep T Hb (Far.shD q) y
theorem mon_sh (T : Cfg) : Mon (DSh T) := fun x y H H' e ⟨q, Hb, ex, r1, r2⟩ => ⟨q, Hb, fun a o h => e a o (ex a o h), r1, r2⟩
theorem eqG_sh {T : Cfg} {CX : CXT} {f : Addr} {fd : FuncData} {ps : List Str} {E : XK} (hT : Far.ShOk T) (F : FnOk X.prog X.w X.K X.mg X.base CX n f fd ps (spOf T (pu (Far.c_Share___eq__ T))))
    (hs : PySem.W.findIn X.K (.ref (T.cls 0)) "__eq__" = some (some (.ref f))) (hf : PySem.W.isFn X.K (.ref f) = true) (hb : Binds X.K fd ps []) (hx : Passes CX X E) : EqG X n (DSh T) := by
  refine RcG.eqG ?_ ?_
  · intro A pins s σ H x y u v sb I rx ry d
    obtain ⟨q, Hb, ex, r1, r2⟩ := d
    have r1' := r1
    have r2' := r2
    obtain ⟨a, dx, fs, rfl, ha, _⟩ := r1.ins_inv
    obtain ⟨b, dy, gs, rfl, hb', _⟩ := r2.ins_inv
    cases rx
    cases ry
    obtain ⟨mA, J, _⟩ := ins_get I.hok (ex _ _ ha)
    obtain ⟨mB, J', _⟩ := ins_get I.hok (ex _ _ hb')
    obtain ⟨od, J, _⟩ := J.look
    obtain ⟨od', J', _⟩ := J'.look
    obtain ⟨m, hF⟩ := I.fr
    refine PySem.W.cmp_K (op := .Eq) (tb := .ref (T.cls 0)) sb.room.units0 hF I.ok.mod.kin J J'.type (by simp [PySem.W.notFirst]) hs hf ?_
    have hsp : spOf T (pu (Far.c_Share___eq__ T)) [.ref a, .ref b] H (fun z H' => z = .bl true ∧ Ext H H') E :=
      ⟨[Far.shD q, Far.shD q], mu0, Hb, fun z μ' => z = .bl true ∧ μ' = mu0, fun _ _ => False, ex, SimMu.nil, .cons r1' (.cons r2' .nil), ⟨rfl, fun z => z = .bl true, fun _ => False, ⟨q, Far.shD q, _, rfl, Far.th_sh hT q, .inl ⟨q, rfl, by rw [decide_eq_true rfl]⟩⟩, fun z k => ⟨k, rfl⟩, fun _ k => k⟩, fun z μ' w Hb' H' g r k => by
        obtain ⟨rfl, rfl⟩ := k
        cases r
        refine ⟨rfl, fun c o hc => ?_⟩
        cases e : Hb c with
        | some o' =>
          have e1 := ex c o' e
          rw [hc] at e1
          cases e1
          exact g.sub c _ (g.ex c _ e)
        | none => exact (g.keep c o hc e rfl).1, fun _ _ _ _ _ _ _ _ k => k.elim⟩
    refine wpAny_mono (call_under F hb hx sb I (vs := [.ref a, .ref b]) (us := [.ref a, .ref b]) (.cons rfl (.cons rfl .nil)) hsp) (fun z s' hz => ?_) fun _ _ e => e
    obtain ⟨v, H', I', rv, rfl, q⟩ := hz
    cases (show z = Value.bool true from rv)
    exact ⟨rfl, H', I', q⟩
  · rintro x y H ⟨q, Hb, ex, r1, r2⟩
    obtain ⟨a, dx, fs, rfl, _, _⟩ := r1.ins_inv
    obtain ⟨b, dy, gs, rfl, _, _⟩ := r2.ins_inv
    exact ⟨a, b, rfl, rfl⟩
end
section
variable {T : Cfg} {P : D → Mu → Prop} {μ : Mu}
theorem Go.ext {Hb H H' : Hp} (ex : Ex Hb H) (sm : SimMu T μ Hb H) (e : Ext H H') : Go T μ Hb H μ Hb H' :=
  ⟨Ex.refl _, fun a o h n _ => ⟨e a o h, n⟩, fun a m h => .inl (by rw [h]; simp), fun a o h => ⟨o, e a o h⟩, fun a o h => e a o (ex a o h), fun a m h => by
    obtain ⟨n, o, ho, r⟩ := sm a m h
    exact ⟨n, o, e a o ho, r⟩⟩
/-- rows of shares, twice the same -/
theorem dl_sh {Hb H : Hp} (ex : Ex Hb H) : ∀ {qs : List Rat} {x y : V}, Rep T Hb (.lst (qs.map Far.shD)) x → Rep T Hb (.lst (qs.map Far.shD)) y → DList (DSh T) x y H := by
  intro qs x y r1 r2
  obtain ⟨a, xs, rfl, hx, q1⟩ := r1.lst_inv
  obtain ⟨b, ys, rfl, hy, q2⟩ := r2.lst_inv
  refine ⟨a, b, xs, ys, rfl, rfl, ex _ _ hx, ex _ _ hy, q1.1.symm.trans q2.1, fun i v w hv hw => ?_⟩
  obtain ⟨d, hd, rd⟩ := q1.getV hv
  obtain ⟨e, he, re⟩ := q2.getV hw
  rw [hd] at he; cases he
  rw [List.getElem?_map, Option.map_eq_some_iff] at hd
  obtain ⟨q, _, rfl⟩ := hd
  exact ⟨q, Hb, ex, rd, re⟩
theorem ov_neRows {rows : List (List Rat)} (p : P (.bl false) μ) : OV T (rNeG (DList (DList (DSh T)))) (.lst (rows.map fun r => .lst (r.map Far.shD))) (.lst (rows.map fun r => .lst (r.map Far.shD))) μ P := fun x y Hb H Q ex sm rx ry q => by
  obtain ⟨a, xs, rfl, hx, q1⟩ := rx.lst_inv
  obtain ⟨b, ys, rfl, hy, q2⟩ := ry.lst_inv
  refine ⟨⟨a, b, xs, ys, rfl, rfl, ex _ _ hx, ex _ _ hy, q1.1.symm.trans q2.1, fun i v w hv hw => ?_⟩, fun H' e => q _ _ _ _ _ (Go.ext ex sm e) (.bl false) p⟩
  obtain ⟨d, hd, rd⟩ := q1.getV hv
  obtain ⟨e, he, re⟩ := q2.getV hw
  rw [hd] at he; cases he
  rw [List.getElem?_map, Option.map_eq_some_iff] at hd
  obtain ⟨r, _, rfl⟩ := hd
  exact dl_sh ex rd re
end
end Pw

namespace Far
open PySem PySem.Spec PyProof.Rows L2 Pw
open FM (Bq)
open FM
theorem bN {p : Prop} {i : Decidable p} {A B : Prop} (e : p) (h : B) : ((!decide p) = true → A) ∧ ((!decide p) = false → B) := bF (by rw [decide_eq_true e]; rfl) h
theorem bN' {p : Prop} {i : Decidable p} {A B : Prop} (e : p) (h : A) : ((!decide p) = false → A) ∧ ((!decide p) = true → B) := bF' (by rw [decide_eq_true e]; rfl) h
theorem bq_mul {n m : Nat} {p q : Rat} (h : Bq n p) (k : Bq m q) : Bq (n + m + 1) (p * q) := (Bq.mul (h.mono (Nat.le_add_right n 1)) k (by omega)).mono (by omega)
theorem bq_div {n m : Nat} {p q : Rat} (h : Bq n p) (k : Bq m q) : Bq (n + m + 1) (p / q) := (Bq.div (h.mono (Nat.le_add_right n 1)) k (by omega)).mono (by omega)
theorem cast0 : ((0 : Int) : Rat) = 0 := rfl
theorem cast1 : ((1 : Int) : Rat) = 1 := rfl
theorem plus_i {T : Cfg} {p q : Rat} {n m : Nat} {P : D → Prop} {X : XD → Prop} (h1 : Bq n p) (h2 : Bq m q) (h : n + m ≤ 9000) (k : P (shD (p + q))) : c_plus T [shD p, shD q] P X := ⟨p, q, n, m, rfl, h1, h2, h, k⟩
theorem minus_i {T : Cfg} {p q : Rat} {n m : Nat} {P : D → Prop} {X : XD → Prop} (h1 : Bq n p) (h2 : Bq m q) (h : n + m ≤ 9000) (k : P (shD (p - q))) : c_minus T [shD p, shD q] P X := ⟨p, q, n, m, rfl, h1, h2, h, k⟩
theorem times_i {T : Cfg} {p q : Rat} {n m : Nat} {P : D → Prop} {X : XD → Prop} (h1 : Bq n p) (h2 : Bq m q) (h : n + m ≤ 9000) (k : P (shD (p * q))) : c_times T [shD p, shD q] P X := ⟨p, q, n, m, rfl, h1, h2, h, k⟩
theorem less_i {T : Cfg} {p q : Rat} {n m : Nat} {P : D → Prop} {X : XD → Prop} (h1 : Bq n p) (h2 : Bq m q) (h : n + m ≤ 9000) (k : P (.bl (decide (p < q)))) : c_less T [shD p, shD q] P X := ⟨p, q, n, m, rfl, h1, h2, h, k⟩
theorem over_i {T : Cfg} {p q : Rat} {n m : Nat} {P : D → Prop} {X : XD → Prop} (h1 : Bq n p) (h2 : Bq m q) (h : n + m ≤ 9000) (h0 : q ≠ 0) (k : P (shD (p / q))) : c_over T [shD p, shD q] P X := ⟨p, q, n, m, rfl, h1, h2, h, .inl ⟨h0, k⟩⟩
theorem sum_i {T : Cfg} {qs : List Rat} {n : Nat} {P : D → Prop} {X : XD → Prop} (h1 : ∀ q ∈ qs, Bq n q) (h : (qs.length + 1) * (n + 2) ≤ 8000) (k : P (shD qs.sum)) : c_sum_of T [.lst (qs.map shD)] P X := ⟨_, qs, n, rfl, .inl rfl, h1, h, k⟩
/-- sizes found by themselves -/
class Sz (q : Rat) (n : outParam Nat) : Prop where
  ok : Bq n q
instance sz_add {p q : Rat} {n m : Nat} [h : Sz p n] [k : Sz q m] : Sz (p + q) (n + m + 1) := ⟨h.ok.add k.ok⟩
instance sz_sub {p q : Rat} {n m : Nat} [h : Sz p n] [k : Sz q m] : Sz (p - q) (n + m + 1) := ⟨h.ok.sub k.ok⟩
instance sz_mul {p q : Rat} {n m : Nat} [h : Sz p n] [k : Sz q m] : Sz (p * q) (n + m + 1) := ⟨bq_mul h.ok k.ok⟩
instance sz_div {p q : Rat} {n m : Nat} [h : Sz p n] [k : Sz q m] : Sz (p / q) (n + m + 1) := ⟨bq_div h.ok k.ok⟩
instance sz_0 : Sz ((0 : Int) : Rat) 1 := ⟨⟨by decide, by decide⟩⟩
instance sz_1 : Sz ((1 : Int) : Rat) 2 := ⟨⟨by decide, by decide⟩⟩
theorem plus_s {T : Cfg} {p q : Rat} {n m : Nat} {P : D → Prop} {X : XD → Prop} [h1 : Sz p n] [h2 : Sz q m] (h : n + m ≤ 9000) (k : P (shD (p + q))) : c_plus T [shD p, shD q] P X := plus_i h1.ok h2.ok h k
theorem minus_s {T : Cfg} {p q : Rat} {n m : Nat} {P : D → Prop} {X : XD → Prop} [h1 : Sz p n] [h2 : Sz q m] (h : n + m ≤ 9000) (k : P (shD (p - q))) : c_minus T [shD p, shD q] P X := minus_i h1.ok h2.ok h k
theorem times_s {T : Cfg} {p q : Rat} {n m : Nat} {P : D → Prop} {X : XD → Prop} [h1 : Sz p n] [h2 : Sz q m] (h : n + m ≤ 9000) (k : P (shD (p * q))) : c_times T [shD p, shD q] P X := times_i h1.ok h2.ok h k
theorem less_s {T : Cfg} {p q : Rat} {n m : Nat} {P : D → Prop} {X : XD → Prop} [h1 : Sz p n] [h2 : Sz q m] (h : n + m ≤ 9000) (k : P (.bl (decide (p < q)))) : c_less T [shD p, shD q] P X := less_i h1.ok h2.ok h k
theorem over_s {T : Cfg} {p q : Rat} {n m : Nat} {P : D → Prop} {X : XD → Prop} [h1 : Sz p n] [h2 : Sz q m] (h : n + m ≤ 9000) (h0 : q ≠ 0) (k : P (shD (p / q))) : c_over T [shD p, shD q] P X := over_i h1.ok h2.ok h h0 k
theorem bq_sum {n : Nat} : ∀ qs : List Rat, (∀ q ∈ qs, Bq n q) → Bq (qs.length * (n + 1) + 1) qs.sum
  | [], _ => by
    have e : ([] : List Rat).length * (n + 1) + 1 = 1 := by simp
    rw [e]
    exact ⟨by decide, by decide⟩
  | q :: qs, h => by
    have h1 := h q (by simp)
    have h2 := bq_sum qs fun p hp => h p (List.mem_cons_of_mem _ hp)
    rw [List.sum_cons]
    refine (h1.add h2).mono ?_
    rw [List.length_cons, Nat.succ_mul]
    omega
theorem put_swap {m : Mu} {a p : Addr} {x y w : MO} (h : p ≠ a) : put (put (put m p x) a w) p y = put (put m p y) a w := by
  funext b
  unfold put
  by_cases e1 : b = p
  · subst e1
    simp [h]
  · simp [e1]
theorem put_look {m : Mu} {a p : Addr} {x w : MO} (h : p ≠ a) : put (put m p x) a w p = some x := by
  unfold put
  simp [h]
theorem isi_bb {T : Cfg} {μ : Mu} {P : D → Mu → Prop} {b : Bool} (p : P (.bl true) μ) : CV T (rIsi T.K) [.bl b, .ty "bool"] μ P := cv_isiT (.bl b) (kit_ty (kit_tab "bool" (by simp [tags]) "bool" (by simp [tys]))) p
theorem d_add {a b c d : Int} (hb : b ≠ 0) (hd : d ≠ 0) : Rat.divInt (a * d + c * b) (b * d) = Rat.divInt a b + Rat.divInt c d := (Rat.divInt_add_divInt a c hb hd).symm
theorem d_sub {a b c d : Int} (hb : b ≠ 0) (hd : d ≠ 0) : Rat.divInt (a * d - c * b) (b * d) = Rat.divInt a b - Rat.divInt c d := (Rat.divInt_sub_divInt a c hb hd).symm
theorem d_mul {a b c d : Int} : Rat.divInt (a * c) (b * d) = Rat.divInt a b * Rat.divInt c d := (Rat.divInt_mul_divInt a c).symm
theorem d_div {a b c d : Int} : Rat.divInt (a * d) (b * c) = Rat.divInt a b / Rat.divInt c d := by
  rw [Rat.div_def, Rat.inv_divInt, Rat.divInt_mul_divInt]
theorem d_less {a b c d : Int} (hb : b ≠ 0) (hd : d ≠ 0) : decide (Rat.divInt a b < Rat.divInt c d) = decide ((a * d - c * b) * b * d < 0) := by
  rw [decide_eq_decide, Rat.divInt_eq_div, Rat.divInt_eq_div]
  have hb' : (b : Rat) ≠ 0 := by simpa using hb
  have hd' : (d : Rat) ≠ 0 := by simpa using hd
  have e : (((a * d - c * b) * b * d : Int) : Rat) = ((a : Rat) / b - (c : Rat) / d) * (((b : Rat) * d) * ((b : Rat) * d)) := by
    simp only [Rat.intCast_mul, Rat.intCast_sub]
    grind
  have hp : 0 < ((b : Rat) * d) * ((b : Rat) * d) := by
    have h0 : (b : Rat) * d ≠ 0 := by grind
    generalize (b : Rat) * d = z at h0
    by_cases h : 0 < z
    · exact Rat.mul_pos h h
    · have := Rat.mul_pos (a := -z) (b := -z) (by grind) (by grind)
      grind
  have hi : ((a * d - c * b) * b * d < 0) ↔ (((a * d - c * b) * b * d : Int) : Rat) < 0 := by
    rw [show (0 : Rat) = ((0 : Int) : Rat) from rfl, Rat.intCast_lt_intCast]
  rw [hi, e]
  generalize (a : Rat) / b = x
  generalize (c : Rat) / d = y
  generalize ((b : Rat) * d) * ((b : Rat) * d) = z at hp ⊢
  constructor
  · intro h
    have := Rat.mul_pos (a := y - x) (b := z) (by grind) hp
    grind
  · intro h
    by_cases w : x < y
    · exact w
    · by_cases w2 : x = y
      · subst w2; grind
      · have := Rat.mul_pos (a := x - y) (b := z) (by grind) hp
        grind
end Far

/-! Pw, part P: all that is one's own told as it is; lists beside [] -/
namespace Pw
open PySem PySem.Spec PyProof.Rows L2
open Evl (Ex ex_l ex_t fresh_back)
/-- d' is d, the lists of one's own within it told as they are -/
inductive Stl (μ : Mu) : D → D → Prop
  | refl (d : D) : Stl μ d d
  | ptr {p : Addr} {ds es : List D} (h : μ p = some (.lst ds)) (l : ds.length = es.length) (k : ∀ (i : Nat) (x y : D), ds[i]? = some x → es[i]? = some y → Stl μ x y) : Stl μ (.ptr p) (.lst es)
  | lst {ds es : List D} (l : ds.length = es.length) (k : ∀ (i : Nat) (x y : D), ds[i]? = some x → es[i]? = some y → Stl μ x y) : Stl μ (.lst ds) (.lst es)
  | tup {ds es : List D} (l : ds.length = es.length) (k : ∀ (i : Nat) (x y : D), ds[i]? = some x → es[i]? = some y → Stl μ x y) : Stl μ (.tup ds) (.tup es)
theorem Stl.own {μ : Mu} {p : Addr} {ds : List D} (h : μ p = some (.lst ds)) : Stl μ (.ptr p) (.lst ds) := .ptr h rfl fun i x y hx hy => by
  rw [hx] at hy; cases hy; exact .refl _
theorem Stl.two {μ : Mu} {d e d' e' : D} (h : Stl μ d d') (k : Stl μ e e') : Stl μ (.tup [d, e]) (.tup [d', e']) := .tup rfl fun i x y hx hy => by
  match i, hx, hy with
  | 0, hx, hy => cases hx; cases hy; exact h
  | 1, hx, hy => cases hx; cases hy; exact k
  | n + 2, hx, _ => simp at hx
/-- what is one's own, but a, shared from now on -/
def frzH (μ : Mu) (a : Addr) (Hb H : Hp) : Hp := fun b => if b = a then Hb b else match μ b with
  | some (.lst _) => H b
  | _ => Hb b
section
variable {T : Cfg} {W : WX} {ρ ρ' : List (Option D)} {m0 : Mu} {K : Out → Prop} {ta tb te te' : TE} {Hb H : Hp} {XP : XW} {P : D → Mu → Prop} {μ : Mu} {u : TS}
theorem frz_ex {a : Addr} (ex : Ex Hb H) (sm : SimMu T μ Hb H) : Ex Hb (frzH μ a Hb H) := fun b o h => by
  unfold frzH
  split
  · exact h
  · split
    · exact ex b o h
    · exact h
theorem frz_sub {a : Addr} (ex : Ex Hb H) : Ex (frzH μ a Hb H) H := fun b o h => by
  unfold frzH at h
  split at h
  · exact ex b o h
  · split at h
    · exact h
    · exact ex b o h
theorem Stl.rep {a : Addr} {w : MO} {d d' : D} (h : Stl μ d d') (ex : Ex Hb H) (sm : SimMu T μ Hb H) (ha : μ a = some w) (hw : ∀ ds, w ≠ .lst ds) : ∀ {v : V}, Rep T Hb d v → Rep T (frzH μ a Hb H) d' v := by
  have e1 := frz_ex (a := a) ex sm
  induction h with
  | refl d => intro v r; exact r.mono e1
  | @ptr p ds es hp l k ih =>
    intro v r
    cases r
    obtain ⟨n, o, ho, ro⟩ := sm p _ hp
    cases o with
    | lst xs =>
      have ro : RepL T Hb ds xs := ro
      have hh : frzH μ a Hb H p = some (.lst xs) := by
        unfold frzH
        rw [if_neg (fun e => by rw [e, ha] at hp; cases hp; exact hw _ rfl), hp]
        exact ho
      refine .lst hh (l.symm.trans ro.1) fun i y z hy hz => ?_
      have hi : i < ds.length := by rw [l]; exact (List.getElem?_eq_some_iff.mp hy).1
      exact ih i _ y (List.getElem?_eq_getElem hi) hy (ro.2 i _ z (List.getElem?_eq_getElem hi) hz)
    | _ => exact ro.elim
  | @lst ds es l k ih =>
    intro v r
    obtain ⟨b, xs, rfl, hx, rl⟩ := r.lst_inv
    refine .lst (e1 _ _ hx) (l.symm.trans rl.1) fun i y w hy hw => ?_
    have hi : i < ds.length := by rw [l]; exact (List.getElem?_eq_some_iff.mp hy).1
    exact ih i _ y (List.getElem?_eq_getElem hi) hy (rl.2 i _ w (List.getElem?_eq_getElem hi) hw)
  | @tup ds es l k ih =>
    intro v r
    obtain ⟨b, xs, rfl, hx, rl⟩ := r.tup_inv
    refine .tup (ex_t e1 hx) (l.symm.trans rl.1) fun i y w hy hw => ?_
    have hi : i < ds.length := by rw [l]; exact (List.getElem?_eq_some_iff.mp hy).1
    exact ih i _ y (List.getElem?_eq_getElem hi) hy (rl.2 i _ w (List.getElem?_eq_getElem hi) hw)
/-- at the end only the well is left, all else is told as it is -/
theorem ev_stl {a : Addr} (h : EV T te W ⟨ρ, m0⟩ (fun d μ => ∃ d' b, Stl μ d d' ∧ μ a = some (.well b) ∧ P d' (put mu0 a (.well b))) XP) : EV T te W ⟨ρ, m0⟩ P XP := fun σ Hb H Q S q x =>
  h σ Hb H Q S (fun d μ v Hb' H' g r p => by
    obtain ⟨d', b, st, ha, p⟩ := p
    have hna : ∀ ds, MO.well b ≠ .lst ds := fun ds e => by cases e
    have g2 : Go T μ Hb' H' (put mu0 a (.well b)) (frzH μ a Hb' H') H' := by
      refine ⟨frz_ex g.sub g.mu, fun c o h1 h2 h3 => ⟨h1, ?_⟩, fun c m e => ?_, fun c o h1 => ⟨o, h1⟩, frz_sub g.sub, fun c m e => ?_⟩
      · unfold frzH
        split
        · exact h2
        · rw [h3]; exact h2
      · left
        by_cases ec : c = a
        · rw [ec, ha]; simp
        · rw [put_ne ec] at e; cases e
      · by_cases ec : c = a
        · subst ec
          rw [put_same] at e
          cases e
          obtain ⟨n, o, ho, ro⟩ := g.mu c _ ha
          refine ⟨?_, o, ho, ro.mono (frz_ex g.sub g.mu)⟩
          unfold frzH
          rw [if_pos rfl]
          exact n
        · rw [put_ne ec] at e; cases e
    exact q d' _ v _ _ (g.trans g2) (st.rep g.sub g.mu ha hna r) p) x
theorem tv_wkR {t : TT} {s : S} {P : Bool → Mu → Prop} (h : leR ρ' s.r) (k : TV T t W ⟨ρ', s.m⟩ P XP) : TV T t W s P XP := fun σ Hb H Q S q x =>
  k σ Hb H Q (Sim.wk (ρ := s.r) (m0 := s.m) h sub_refl S) q x
theorem sv_wkR {s : S} (h : leR ρ' s.r) (k : SV T u W ⟨ρ', s.m⟩ K) : SV T u W s K := sv_wk (ρ := s.r) (m0 := s.m) h sub_refl k
/-- both ways come to one of R -/
theorem ev_ifR {t : TT} {μ' : Mu} {R : D → Prop} (h : TV T t W ⟨ρ, m0⟩ (fun b μ1 => μ1 = μ' ∧ (b = true → EV T ta W ⟨ρ, μ'⟩ (fun d μ2 => μ2 = μ' ∧ R d) XP) ∧ (b = false → EV T tb W ⟨ρ, μ'⟩ (fun d μ2 => μ2 = μ' ∧ R d) XP)) XP) (k : ∀ d, R d → P d μ') : EV T (tIf t ta tb) W ⟨ρ, m0⟩ P XP :=
  ev_if fun σ Hb H Q S q x => h σ Hb H Q S (fun b μ1 Hb' H' g ⟨e, p1, p2⟩ => q b μ1 Hb' H' g (by
    subst e
    exact ⟨fun hb => (p1 hb).imp fun d μ2 ⟨e2, r⟩ => by subst e2; exact k d r, fun hb => (p2 hb).imp fun d μ2 ⟨e2, r⟩ => by subst e2; exact k d r⟩)) x
end
/-! lists beside [] -/
structure Pln (d : D) (p : PyData) : Prop where
  dp : DPy d p
  lay : p.canLay0 = true
  dep : p.depth ≤ 2
theorem pln_list : ∀ {ds : List D}, (∀ d ∈ ds, ∃ p, Pln d p) → ∃ ps, DPyL ds ps ∧ PyData.canLayAll0 ps = true ∧ PyData.depthAll ps ≤ 2 ∧ ps.length = ds.length
  | [], _ => ⟨[], .nil, rfl, by simp [PyData.depthAll], rfl⟩
  | d :: ds, h => by
    obtain ⟨p, hp⟩ := h d (by simp)
    obtain ⟨ps, h1, h2, h3, h4⟩ := pln_list fun d hd => h d (List.mem_cons_of_mem _ hd)
    refine ⟨p :: ps, .cons hp.dp h1, ?_, ?_, by simp [h4]⟩
    · simp [PyData.canLayAll0, hp.lay, h2]
    · have := hp.dep
      simp only [PyData.depthAll]
      omega
theorem pln_shaped {ps : List PyData} (h : PyData.canLayAll0 ps = true) (k : PyData.depthAll ps ≤ 2) : SeqAt.shaped (.list ps) = true := by
  unfold SeqAt.shaped
  rw [Bool.and_eq_true]
  refine ⟨?_, decide_eq_true ?_⟩
  · simp only [PyData.canLay0]; exact h
  · simp only [PyData.depth]; omega
theorem eqv_nil (ps : List PyData) : PyData.eqv (.list ps) (.list []) = decide (ps.length = 0) := by
  cases ps with
  | nil => rfl
  | cons p ps => rfl
theorem pln_non : Pln .non .none := ⟨.non, rfl, by decide⟩
theorem pln_int (i : Int) : Pln (.int i) (.int i) := ⟨.int i, rfl, by simp [PyData.depth]⟩
theorem pln_bl (i : Bool) : Pln (.bl i) (.bool i) := ⟨.bl i, rfl, by simp [PyData.depth]⟩
theorem pln_2 (i j : Int) : Pln (.tup [.int i, .int j]) (.tuple [.int i, .int j]) := ⟨dpy2, rfl, by simp [PyData.depth, PyData.depthAll]⟩
section
variable {T : Cfg} {P : D → Mu → Prop} {μ : Mu}
theorem ov_neNil {d : D} {ds : List D} (hd : d = .lst ds) (h : ∀ d ∈ ds, ∃ p, Pln d p) (k : P (.bl (!decide (ds.length = 0))) μ) : OV T (rNeD T.K) d (.lst []) μ P := by
  obtain ⟨ps, h1, h2, h3, h4⟩ := pln_list h
  subst hd
  refine ov_neD (.lst h1) (.lst .nil) (pln_shaped h2 h3) (by decide) ?_
  rw [eqv_nil, h4]
  exact k
theorem ov_neNilM {a : Addr} {ds : List D} (hm : μ a = some (.lst ds)) (h : ∀ d ∈ ds, ∃ p, Pln d p) (k : P (.bl (!decide (ds.length = 0))) μ) : OV T (rNeD T.K) (.ptr a) (.lst []) μ P := by
  obtain ⟨ps, h1, h2, h3, h4⟩ := pln_list h
  refine ov_neDM hm h1 (.lst .nil) (pln_shaped h2 h3) (by decide) ?_
  rw [eqv_nil, h4]
  exact k
theorem ov_eqNilM {a : Addr} {ds : List D} (hm : μ a = some (.lst ds)) (h : ∀ d ∈ ds, ∃ p, Pln d p) (k : P (.bl (decide (ds.length = 0))) μ) : OV T (rEqD T.K) (.ptr a) (.lst []) μ P := by
  obtain ⟨ps, h1, h2, h3, h4⟩ := pln_list h
  refine ov_eqDM hm h1 (.lst .nil) (pln_shaped h2 h3) (by decide) ?_
  rw [eqv_nil, h4]
  exact k
end
end Pw

/-! != of tuples of lists whose things are the same by an own __eq__; a[i], a[j] = .. -/
namespace NQ
open PySem PySem.SeqAt GQ
open AutoSeq1 (wpAny_loadPart')
open MeetsSeq MeetsSeq2 MeetsSeq3 SeqRoads2
section
variable {pr : Program} {wd : World} {B : Around} {Rs : Result → Shared → Prop}
theorem ne_tup (p q : Addr) (us vs : Array Value) (cu cv : Nat) (du dv : Option Addr) (lu lv : Array (Option Value)) (same : us.size = vs.size) (J : Nat → Shared → Prop)
    (turn : ∀ k (k1 : k < us.size) (k2 : k < vs.size) z, J k z → wpAny (model pr wd) B.in1 (eqBool us[k] vs[k]) (fun t z' => t = true ∧ J (k + 1) z') (fun e z' => Rs (.error e) z') z)
    (done : ∀ z, J us.size z → Rs (.ok (.ret (.bool false))) z) {z : Shared} (gp : z.heap.get? p = some { cls := .type "tuple", dict := du, data := .seq us cu, slots := lu }) (gq : z.heap.get? q = some { cls := .type "tuple", dict := dv, data := .seq vs cv, slots := lv }) (j0 : J 0 z) :
    wpAny (model pr wd) B.in1 (Builtin.«tuple.__ne__» ⟨[.ref p, .ref q], []⟩) (FinOf pr wd B Rs) (fun e z' => Rs (.error e) z') z := by
  have tt := AutoSeq1.sub_tuple_tuple
  have len : (us.toList.zip vs.toList).length = us.size := by simp [same]
  have j1 := j0
  obtain ⟨z1, z2, z3, z4, z5⟩ := z
  wp_walk using wpAny_loadPart' gp, wpAny_loadPart' gq, wpAny_forIn_list _ (fun more c z' => c.1 = none ∧ ∃ k, more = (us.toList.zip vs.toList).drop k ∧ k ≤ us.size ∧ J k z') _
  case turn =>
    rintro ⟨u, v⟩ more c z' ⟨c0, k, ek, lek, jk⟩
    have kl : k < (us.toList.zip vs.toList).length := by
      by_cases w : k < (us.toList.zip vs.toList).length
      · exact w
      · rw [List.drop_of_length_le (by omega)] at ek; cases ek
    have ku : k < us.size := len ▸ kl
    have kv : k < vs.size := same ▸ ku
    rw [List.drop_eq_getElem_cons kl] at ek
    injection ek with e1 e2
    have eu : u = us[k] := by have := congrArg Prod.fst e1; simpa using this
    have ev : v = vs[k] := by have := congrArg Prod.snd e1; simpa using this
    subst eu ev
    refine wpAny_bind (wpAny_mono (turn k ku kv z' jk) (fun t y ty => ?_) fun _ _ x => x)
    obtain ⟨et, jy⟩ := ty
    subst et
    wp_walk
    exact ⟨rfl, k + 1, e2, ku, jy⟩
  case fin =>
    rintro ⟨c1, c2⟩ z' ⟨c0, k, ek, lek, jk⟩
    simp only at c0
    subst c0
    have ge : us.size ≤ k := by
      by_cases w : k < (us.toList.zip vs.toList).length
      · rw [List.drop_eq_getElem_cons w] at ek; cases ek
      · omega
    have kk : k = us.size := by omega
    have last : Rs (.ok (.ret (.bool false))) z' := done z' (kk ▸ jk)
    wp_walk
    simpa [Builtin.Tuple.tupleCompareSizes, same] using last
  case h =>
    exact ⟨rfl, 0, rfl, Nat.zero_le _, j1⟩
end
theorem ne_rcT {pr : Program} {wd : World} {B : Around} {Z : Value → Shared → Prop} {z : Shared} {p q : Addr} {us vs : Array Value} {Q : Value → Shared → Prop} (same : us.size = vs.size) (hu : B.units < cLine) (J : Nat → Shared → Prop)
    (gp : z.heap.IsTuple p us) (gq : z.heap.IsTuple q vs) (turn : ∀ k (k1 : k < us.size) (k2 : k < vs.size) z, J k z → wpAny (model pr wd) B.in1 (eqBool us[k] vs[k]) (fun t z' => t = true ∧ J (k + 1) z') Z z)
    (done : ∀ z, J us.size z → Q (.bool false) z) (j0 : J 0 z) : wpAny (model pr wd) B (richCompare .NotEq (.ref p) (.ref q)) Q Z z := by
  obtain ⟨⟨c1, d1, x1, l1⟩, g1, e1, n1, e2⟩ := id gp
  obtain ⟨⟨c2, d2, x2, l2⟩, g2, e3, n2, e4⟩ := id gq
  simp only at e1 e2 e3 e4
  subst e1 e2 e3 e4
  refine wpAny_richCompare_same_room (op := .NotEq) ⟨_, g1, rfl⟩ ⟨_, g2, rfl⟩ F.slot_tuple_ne (call_here F.slot_tuple_ne ⟨_, g1, rfl⟩ F.entry_tuple_ne (F.args_tuple_ne_2 _ _) ?_) hu
  exact ne_tup (Rs := wants (fun v z' => v ≠ .notImplemented ∧ Q v z') Z) p q us vs n1 n2 d1 d2 l1 l2 same J turn (fun z' k => ⟨(fun x => nomatch x), done z' k⟩) g1 g2 j0
end NQ
namespace Pw
open PySem PySem.Spec PyProof.Rows L2
open Evl (Ex ex_l ex_t)
theorem nrG_tup {X : Cx} {n : Nat} {D : Eqv} (hD : Mon D) (h : EqG X n D) : NrG X (n + 1) (DTup X.K D) := by
  intro A pins s σ H x y u v sb I rx ry d
  obtain ⟨a, b, xs, ys, rfl, rfl, ha, hb, p⟩ := d
  cases rx
  cases ry
  obtain ⟨us, r1, g1, z1⟩ := I.tuple ha
  obtain ⟨vs, r2, g2, z2⟩ := I.tuple hb
  have same : us.toArray.size = vs.toArray.size := by rw [List.size_toArray, List.size_toArray, ← r1.length, ← r2.length]; exact p.1
  exact NQ.ne_rcT same sb.room.units0 (fun _ z => LoopI X pins σ H z) g1 g2 (fun k k1 k2 z l => turnG hD h sb p r1 r2 k k1 k2 z l) (fun z l => ⟨rfl, l⟩) ⟨H, I, Ext.rfl'⟩
section
variable {T : Cfg} {W : WX} {ρ : List (Option D)} {m0 : Mu} {XP : XW} {K : Out → Prop} {te te' : TE} {P : D → Mu → Prop} {μ : Mu}
theorem ov_neHeaps {ps qs : List Rat} (p : P (.bl false) μ) : OV T (rNeG (DTup T.K (DList (DSh T)))) (.tup [.lst (ps.map Far.shD), .lst (qs.map Far.shD)]) (.tup [.lst (ps.map Far.shD), .lst (qs.map Far.shD)]) μ P := fun x y Hb H Q ex sm rx ry q => by
  obtain ⟨a, xs, rfl, hx, q1⟩ := rx.tup_inv
  obtain ⟨b, ys, rfl, hy, q2⟩ := ry.tup_inv
  refine ⟨⟨a, b, xs, ys, rfl, rfl, ex_t ex hx, ex_t ex hy, q1.1.symm.trans q2.1, fun i v w hv hw => ?_⟩, fun H' e => q _ _ _ _ _ (Go.ext ex sm e) (.bl false) p⟩
  obtain ⟨d, hd, rd⟩ := q1.getV hv
  obtain ⟨e, he, re⟩ := q2.getV hw
  rw [hd] at he; cases he
  match i, hd with
  | 0, hd => cases hd; exact dl_sh ex rd re
  | 1, hd => cases hd; exact dl_sh ex rd re
  | n + 2, hd => simp at hd
/-- a[i], b[j] = two -/
theorem sv_set2 {ta tb tc td : TE} (h : EV T te W ⟨ρ, m0⟩ (fun d μ1 => ∃ x y, d = .tup [x, y] ∧ EV T ta W ⟨ρ, μ1⟩ (fun c μ2 => EV T tb W ⟨ρ, μ2⟩ (fun i μ3 => ∃ a ds k j, c = .ptr a ∧ μ3 a = some (.lst ds) ∧ i = .int k ∧ ixN ds.length k = some j ∧
      EV T tc W ⟨ρ, put μ3 a (.lst (ds.set j x))⟩ (fun c' μ4 => EV T td W ⟨ρ, μ4⟩ (fun i' μ5 => ∃ a' ds' k' j', c' = .ptr a' ∧ μ5 a' = some (.lst ds') ∧ i' = .int k' ∧ ixN ds'.length k' = some j' ∧ K (.nx ⟨ρ, put μ5 a' (.lst (ds'.set j' y))⟩)) (xk ⟨ρ, m0⟩ K)) (xk ⟨ρ, m0⟩ K)) (xk ⟨ρ, m0⟩ K)) (xk ⟨ρ, m0⟩ K)) (xk ⟨ρ, m0⟩ K)) :
    SV T (tAsg te (gTup T.K 2 (gCons (gSub ta tb rSetL) (gCons (gSub tc td rSetL) gNil)))) W ⟨ρ, m0⟩ K := fun σ Hb H Dn S c => by
  refine h σ Hb H _ S (fun d μ1 v Hb1 H1 g1 r1 p1 => ?_) (c.x S)
  obtain ⟨x, y, rfl, p1⟩ := p1
  obtain ⟨tp, vs, rfl, hx, rl⟩ := r1.tup_inv
  obtain ⟨v1, v2, rfl, rx, ry⟩ := two_inv rl
  refine ⟨tp, [v1, v2], rfl, ex_t g1.sub hx, rfl, v1, [v2], rfl, ?_⟩
  refine p1 σ Hb1 H1 _ (S.go g1) (fun d μ2 w Hb2 H2 g2 r2 p2 => ?_) (fun x μ' cls dd Hb' H' g r k => c.x S x μ' cls dd Hb' H' (g1.trans g) r k)
  have g12 := g1.trans g2
  refine p2 σ Hb2 H2 _ (S.go g12) (fun i μ3 u Hb3 H3 g3 r3 p3 => ?_) (fun x μ' cls dd Hb' H' g r k => c.x S x μ' cls dd Hb' H' (g12.trans g) r k)
  obtain ⟨a, ds, k, j, rfl, hm, rfl, hj, kk⟩ := p3
  cases r2
  cases r3
  obtain ⟨n, o, ho, rr⟩ := g3.mu a _ hm
  have g13 := g12.trans g3
  cases o with
  | lst xs =>
    have rr : RepL T Hb3 ds xs := rr
    have ex13 : Ex Hb1 Hb3 := g2.ex.trans g3.ex
    have g4 := Go.chg g3.sub g3.mu (p := a) (o := .lst (xs.set j v1)) (z := .lst (ds.set j x)) hm (rr.set (rx.mono ex13))
    have g14 := g13.trans g4
    refine ⟨a, xs, k, j, rfl, rfl, ho, by rw [← rr.1]; exact hj, v2, [], rfl, ?_⟩
    refine kk σ Hb3 _ _ (S.go g14) (fun d μ5 w Hb5 H5 g5 r5 p5 => ?_) (fun x μ' cls dd Hb' H' g r k => c.x S x μ' cls dd Hb' H' (g14.trans g) r k)
    have g15 := g14.trans g5
    refine p5 σ Hb5 H5 _ (S.go g15) (fun i μ6 u Hb6 H6 g6 r6 p6 => ?_) (fun x μ' cls dd Hb' H' g r k => c.x S x μ' cls dd Hb' H' (g15.trans g) r k)
    obtain ⟨a', ds', k', j', rfl, hm', rfl, hj', kk'⟩ := p6
    cases r5
    cases r6
    obtain ⟨n', o', ho', rr'⟩ := g6.mu a' _ hm'
    cases o' with
    | lst xs' =>
      have rr' : RepL T Hb6 ds' xs' := rr'
      have ex16 : Ex Hb1 Hb6 := ((ex13.trans g4.ex).trans g5.ex).trans g6.ex
      have g7 := Go.chg g6.sub g6.mu (p := a') (o := .lst (xs'.set j' v2)) (z := .lst (ds'.set j' y)) hm' (rr'.set (ry.mono ex16))
      have g17 := (g15.trans g6).trans g7
      exact ⟨a', xs', k', j', rfl, rfl, ho', by rw [← rr'.1]; exact hj', rfl, c.nx _ _ _ _ g17 (S.go g17) kk'⟩
    | _ => exact rr'.elim
  | _ => exact rr.elim
/-- a number in a tuple of numbers -/
theorem inV_ints {i : Int} : ∀ is : List Int, inV (.int i) (is.map V.int) = decide (i ∈ is)
  | [] => by simp [inV]
  | j :: is => by
    have ih := inV_ints (i := i) is
    unfold inV at ih ⊢
    rw [List.map_cons, List.any_cons, ih]
    show ((j == i) || decide (i ∈ is)) = _
    by_cases h : j = i
    · subst h; simp
    · have h' : ¬ i = j := fun e => h e.symm
      simp [h, h']
theorem ov_inI {i : Int} {is : List Int} (p : P (.bl (decide (i ∈ is))) μ) : OV T (rIn T.K false) (.int i) (.tup (is.map D.int)) μ P := ov_of (fun x y Hb H Q ex rx ry q => by
  cases rx
  obtain ⟨a, xs, rfl, hx, r⟩ := ry.tup_inv
  obtain rfl := r.ints
  refine ⟨a, _, rfl, .inr (ex_t ex hx), rfl, ?_, ?_⟩
  · rw [List.all_eq_true]
    intro v hv
    obtain ⟨s, _, rfl⟩ := List.mem_map.1 hv
    rfl
  · show Q (.bl (if false = true then _ else inV (.int i) (is.map V.int))) H
    rw [if_neg Bool.false_ne_true, inV_ints]
    exact q _ (.bl _)) p
theorem ov_eqNilL {d : D} {ds : List D} (hd : d = .lst ds) (h : ∀ d ∈ ds, ∃ p, Pln d p) (k : P (.bl (decide (ds.length = 0))) μ) : OV T (rEqD T.K) d (.lst []) μ P := by
  obtain ⟨ps, h1, h2, h3, h4⟩ := pln_list h
  subst hd
  refine ov_eqD (.lst h1) (.lst .nil) (pln_shaped h2 h3) (by decide) ?_
  rw [eqv_nil, h4]
  exact k
/-- a row of flat things and pairs -/
theorem pln_row {ds : List D} (h : ∀ d ∈ ds, ∃ p, Pln d p ∧ p.depth ≤ 1) : ∃ p, Pln (.lst ds) p := by
  have : ∃ ps, DPyL ds ps ∧ PyData.canLayAll0 ps = true ∧ PyData.depthAll ps ≤ 1 := by
    induction ds with
    | nil => exact ⟨[], .nil, rfl, by simp [PyData.depthAll]⟩
    | cons d ds ih =>
      obtain ⟨p, hp, hd⟩ := h d (by simp)
      obtain ⟨ps, h1, h2, h3⟩ := ih fun d hd => h d (List.mem_cons_of_mem _ hd)
      refine ⟨p :: ps, .cons hp.dp h1, by simp [PyData.canLayAll0, hp.lay, h2], ?_⟩
      simp only [PyData.depthAll]
      omega
  obtain ⟨ps, h1, h2, h3⟩ := this
  refine ⟨.list ps, .lst h1, ?_, ?_⟩
  · simp only [PyData.canLay0]; exact h2
  · simp only [PyData.depth]; omega
/-- lists of pairs -/
def prP (q : Rat) : PyData := .tuple [.int q.num, .int (q.den : Int)]
theorem prs_dpy : ∀ qs : List Rat, DPyL (qs.map Far.prD) (qs.map prP) ∧ PyData.canLayAll0 (qs.map prP) = true ∧ PyData.depthAll (qs.map prP) ≤ 2
  | [] => ⟨.nil, rfl, by simp [PyData.depthAll]⟩
  | q :: qs => by
    obtain ⟨h1, h2, h3⟩ := prs_dpy qs
    refine ⟨.cons dpy2 h1, ?_, ?_⟩
    · rw [List.map_cons]
      simp only [PyData.canLayAll0, h2, Bool.and_true]
      rfl
    · rw [List.map_cons]
      simp only [PyData.depthAll]
      have : (prP q).depth ≤ 2 := by simp [prP, PyData.depth, PyData.depthAll]
      omega
theorem prs_eqv : ∀ ps qs : List Rat, PyData.eqv (.list (ps.map prP)) (.list (qs.map prP)) = decide (ps = qs)
  | [], [] => by simp [PyData.eqv, PyData.eqvAll]
  | [], q :: qs => by simp [PyData.eqv, PyData.eqvAll]
  | p :: ps, [] => by simp [PyData.eqv, PyData.eqvAll]
  | p :: ps, q :: qs => by
    have ih := prs_eqv ps qs
    have e : PyData.eqv (prP p) (prP q) = decide (p = q) := by
      unfold prP
      rw [eqv2, Far.rat_eq]
    show (PyData.eqv (prP p) (prP q) && PyData.eqv (.list (ps.map prP)) (.list (qs.map prP))) = _
    rw [e, ih]
    by_cases h1 : p = q
    · by_cases h2 : ps = qs
      · simp [h1, h2]
      · simp [h1, h2]
    · simp [h1]
theorem ov_eqPrs {ps qs : List Rat} (k : P (.bl (decide (ps = qs))) μ) : OV T (rEqD T.K) (.lst (ps.map Far.prD)) (.lst (qs.map Far.prD)) μ P := by
  obtain ⟨h1, h2, h3⟩ := prs_dpy ps
  obtain ⟨g1, g2, g3⟩ := prs_dpy qs
  refine ov_eqD (.lst h1) (.lst g1) (pln_shaped h2 h3) (pln_shaped g2 g3) ?_
  rw [prs_eqv]
  exact k
/-- comprehensions over numbered things -/
theorem ev_lcE {i j : Nat} {tz : TA} (h : EA T tz W ⟨ρ, m0⟩ (fun fs μ => ∃ d ds g, fs = [d] ∧ Seqd d ds ∧ ds.length ≤ 100000 ∧ (∀ (n : Nat) x, ds[n]? = some x → EV T te' (fun _ _ _ _ => False) ⟨((wipeD ρ [i, j]).set i (some (.int (n : Nat)))).set j (some x), μ⟩ (fun z μ2 => z = g n ∧ μ2 = μ) (fun _ _ => False)) ∧ P (.lst ((List.range ds.length).map g)) μ) XP) : EV T (tLc (iEnum T.K tz) (gTup T.K 2 (gCons (gName i) (gCons (gName j) gNil))) tYes te' [i, j]) W ⟨ρ, m0⟩ P XP :=
  ev_lc (is := [i] ++ ([j] ++ [])) (fun _ h => h) (iv_enum (fun σ Hb H Q S q x => h σ Hb H Q S (fun fs μ vs Hb' H' g r ⟨d, ds, gg, ef, hd, hl, turn, done⟩ => q fs μ vs Hb' H' g r ⟨d, ds, ef, hd, hl, fun k acc μ' => μ' = μ ∧ acc = (List.range k).map gg, ⟨rfl, by simp⟩, fun k acc μ' hk _ ⟨e1, e2⟩ => by
    subst e1 e2
    refine gv_tup rfl (gvs_cons (gv_name (gvs_cons (gv_name (gvs_nil (tv_yes ⟨fun _ => ?_, fun e => (nomatch e)⟩))))))
    refine (turn k _ (nth_get hk)).imp fun z μ2 ⟨e1, e2⟩ => ⟨e2, ?_⟩
    rw [List.range_succ, List.map_append, e1]
    rfl, fun acc μ' ⟨e1, e2⟩ => by
    subst e1 e2
    exact done⟩) x))
end
end Pw

namespace Pw
open PySem PySem.Spec PyProof.Rows L2
open Evl (Ex ex_l ex_t fresh_back)
section
variable {T : Cfg} {W : WX} {s : S} {ρ : List (Option D)} {m0 : Mu} {K : Out → Prop} {ta tb te te' : TE} {m m1 : Mu} {Hb H Hb1 H1 : Hp} {Dn : Ends} {u : TS}
/-- a comprehension over a list of one's own -/
theorem ev_lcO {sl : Nat} {a : Addr} {ds : List D} {g : TG} {is vs : List Nat} {tt : TT} {P : D → Mu → Prop} {XP : XW} {I : Nat → List D → Mu → Prop} (hvar : ρ[sl]? = some (some (.ptr a))) (hmem : m0 a = some (.lst ds)) (hv : ∀ i ∈ is, i ∈ vs) (hn : ds.length ≤ 100000)
    (i0 : I 0 [] m0) (hI : ∀ i acc μ', I i acc μ' → μ' a = some (.lst ds)) (turn : ∀ i acc μ', i < ds.length → acc.length ≤ i → I i acc μ' → GV T g is (nth ds i) ⟨wipeD ρ vs, μ'⟩ (fun s'' => TV T tt (fun _ _ _ _ => False) s'' (fun b μ1 =>
      (b = true → EV T te (fun _ _ _ _ => False) ⟨s''.r, μ1⟩ (fun e μ2 => I (i + 1) (acc ++ [e]) μ2) (fun _ _ => False)) ∧ (b = false → I (i + 1) acc μ1)) (fun _ _ => False))) (done : ∀ acc μ', I ds.length acc μ' → P (.lst acc) μ') :
    EV T (tLc (iList T.K (tVar sl)) g tt te vs) W ⟨ρ, m0⟩ P XP := fun σ Hb H Q S q x => by
  obtain ⟨v0, e0, r0⟩ := S.vars sl _ hvar
  cases r0
  obtain ⟨nb0, o0, ho0, ro0⟩ := S.mu a _ hmem
  have hL : ∃ xs, H a = some (.lst xs) := by
    cases o0 with
    | lst xs => exact ⟨xs, ho0⟩
    | _ => exact ro0.elim
  obtain ⟨xs0, hx0⟩ := hL
  refine ⟨.ref a, e0, a, rfl, ⟨xs0, Evl.sq_of hx0⟩, ?_⟩
  have ok : ∀ μ' Hb' H', SimMu T μ' Hb' H' → Ex Hb' H' → μ' a = some (.lst ds) → (∀ i, i < ds.length → (Itl T.K a).go i H') ∧ (∀ i, ds.length ≤ i → (Itl T.K a).stop i H') ∧ ∀ i x H2, i < ds.length → (Itl T.K a).yld i H' x H2 → H2 = H' ∧ Rep T Hb' (nth ds i) x := by
    intro μ' Hb' H' sm ex ha
    obtain ⟨_, o, ho, ro⟩ := sm a _ ha
    cases o with
    | lst xs =>
      have ro : RepL T Hb' ds xs := ro
      refine ⟨fun i hi => ⟨xs, xs[i]'(by rw [← ro.1]; exact hi), Evl.sq_of ho, List.getElem?_eq_getElem _⟩, fun i hi => ⟨xs, Evl.sq_of ho, by rw [← ro.1]; exact hi⟩, ?_⟩
      rintro i x H2 hi ⟨rfl, y⟩
      exact ⟨rfl, ro.2 i _ x (nth_get hi) (y xs (Evl.sq_of ho))⟩
    | _ => exact ro.elim
  let n := ds.length
  let μ := m0
  let Hb1 := Hb
  let H1 := H
  have g1 : Go T m0 Hb H m0 Hb H := S.refl
  have S1 := S.go g1
  intro Dl hD
  have hDb : Hb1 Dl = none := fresh_back S1.sub hD
  have hDm : μ Dl = none := by
    cases e : μ Dl with
    | none => rfl
    | some m =>
      obtain ⟨_, o, ho, _⟩ := g1.mu Dl m e
      rw [hD] at ho; cases ho
  -- the new list is one's own at Dl
  have gD : Go T μ Hb1 H1 (put μ Dl (.lst [])) Hb1 (upd H1 Dl (.lst [])) := Go.own g1.sub g1.mu hD RepL.nil
  refine ⟨fun i m H' => m = n - i ∧ i ≤ n ∧ ∃ acc μ' Hb', acc.length ≤ i ∧ μ' Dl = none ∧ Go T μ Hb1 H1 (put μ' Dl (.lst acc)) Hb' H' ∧ I i acc μ', ⟨n, by simp, Nat.zero_le _, [], μ, Hb1, Nat.le_refl _, hDm, gD, i0⟩, ?_⟩
  rintro i m H' ⟨rfl, hi, acc, μ', Hb', hl, hm', g', i'⟩
  have S' : Sim T ⟨ρ, put μ' Dl (.lst acc)⟩ σ Hb' H' := S1.go g'
  have haD : a ≠ Dl := fun e => by
    have h1 := hI i acc μ' i'
    rw [e, hm'] at h1; cases h1
  obtain ⟨go, stop, yld⟩ := ok _ Hb' H' g'.mu g'.sub (by rw [put_ne haD]; exact hI i acc μ' i')
  by_cases hlt : i < n
  · refine .inr ⟨go i hlt, fun H2 => ∃ acc2 μ2 Hb2, acc2.length ≤ i + 1 ∧ μ2 Dl = none ∧ Go T μ Hb1 H1 (put μ2 Dl (.lst acc2)) Hb2 H2 ∧ I (i + 1) acc2 μ2, ?_, ?_⟩
    · rintro H2 ⟨acc2, μ2, Hb2, hl2, hm2, g2, i2⟩
      exact ⟨n - (i + 1), by omega, rfl, hlt, acc2, μ2, Hb2, hl2, hm2, g2, i2⟩
    · intro y H2 hy
      obtain ⟨eH2, r2⟩ := yld i y H2 hlt hy
      subst eH2
      obtain ⟨Hb2, g2, r2⟩ : ∃ Hb2, Go T (put μ' Dl (.lst acc)) Hb' H2 (put μ' Dl (.lst acc)) Hb2 H2 ∧ Rep T Hb2 (nth ds i) y := ⟨Hb', .refl g'.sub g'.mu, r2⟩
      have g02 := g'.trans g2
      -- the list set aside: the store without it
      have aside : ∀ {μa : Mu} {Hba Ha : Hp} {ac : List D}, μa Dl = none → SimMu T (put μa Dl (.lst ac)) Hba Ha → SimMu T μa Hba Ha := fun {μa Hba Ha ac} hn hs a m ha => by
        refine hs a m ?_
        rw [put_ne (fun e => by rw [e, hn] at ha; cases ha)]
        exact ha
      have back : ∀ {μa μb : Mu} {Hba Ha Hbb Hc : Hp} {ac : List D}, μa Dl = none → SimMu T (put μa Dl (.lst ac)) Hba Ha → Go T μa Hba Ha μb Hbb Hc → μb Dl = none ∧ Go T (put μa Dl (.lst ac)) Hba Ha (put μb Dl (.lst ac)) Hbb Hc := fun {μa μb Hba Ha Hbb Hc ac} hn hs gg => by
        obtain ⟨hbn, o, ho, ro⟩ := hs Dl _ put_same
        obtain ⟨ho', hbn'⟩ := gg.keep Dl o ho hbn hn
        have mb : μb Dl = none := by
          cases e : μb Dl with
          | none => rfl
          | some m =>
            rcases gg.new Dl m e with z | z
            · exact absurd hn z
            · rw [ho] at z; cases z
        refine ⟨mb, gg.ex, fun a u h1 h2 h3 => ?_, fun a m h1 => ?_, gg.alive, gg.sub, fun a m h1 => ?_⟩
        · have ne : a ≠ Dl := fun e => by rw [e, put_same] at h3; cases h3
          rw [put_ne ne] at h3
          exact gg.keep a u h1 h2 h3
        · by_cases e : a = Dl
          · subst e; exact .inl (by rw [put_same]; simp)
          · rw [put_ne e] at h1 ⊢; exact gg.new a m h1
        · by_cases e : a = Dl
          · subst e
            rw [put_same] at h1
            cases h1
            exact ⟨hbn', o, ho', ro.mono gg.ex⟩
          · rw [put_ne e] at h1; exact gg.mu a m h1
      have Sw0 : Sim T ⟨ρ, put μ' Dl (.lst acc)⟩ σ Hb2 H2 := S'.go g2
      have Sw : Sim T ⟨ρ, μ'⟩ σ Hb2 H2 := ⟨Sw0.len, Sw0.vars, Sw0.sub, aside hm' Sw0.mu⟩
      have Sww : Sim T ⟨wipeD ρ vs, μ'⟩ (L2.wipe σ vs) Hb2 H2 := Sw.wipe vs
      refine turn i acc μ' hlt hl i' y (L2.wipe σ vs) Hb2 H2 _ Sww r2 fun s3 σ3 em S3 wq k => ?_
      have em : s3.m = μ' := em
      refine ⟨?_, ?_⟩
      · have e1 := wq vs hv
        have idem : ∀ (us : List Nat), (∀ u ∈ us, u ∈ vs) → L2.wipe (L2.wipe σ vs) us = L2.wipe σ vs := by
          intro us
          induction us with
          | nil => intro _; rfl
          | cons u us ih =>
            intro hu
            show (L2.wipe (L2.wipe σ vs) us).set u none = L2.wipe σ vs
            rw [ih fun z hz => hu z (List.mem_cons_of_mem _ hz)]
            have : ∀ (ws : List Nat) (u : Nat), u ∈ ws → (L2.wipe σ ws).set u none = L2.wipe σ ws := by
              intro ws
              induction ws with
              | nil => intro u hu; cases hu
              | cons w ws ih2 =>
                intro u hu
                show ((L2.wipe σ ws).set w none).set u none = (L2.wipe σ ws).set w none
                by_cases e : u = w
                · subst e; rw [List.set_set]
                · have hu2 : u ∈ ws := by
                    rcases List.mem_cons.mp hu with z | z
                    · exact absurd z e
                    · exact z
                  rw [List.set_comm _ _ (fun z => e z.symm), ih2 u hu2]
            exact this vs u (hu u (by simp))
        rw [e1]
        exact idem vs fun _ z => z
      · refine k σ3 Hb2 H2 _ S3 (fun b μ3 Hb3 H3 g3 kk => ?_) (fun _ _ _ _ _ _ _ _ z => z.elim)
        rw [em] at g3
        obtain ⟨hm3, g3'⟩ := back hm' Sw0.mu g3
        have S3' : Sim T ⟨s3.r, μ3⟩ σ3 Hb3 H3 := S3.go (by rw [em]; exact g3)
        cases b with
        | false =>
          show ∃ acc2 μ2 Hb2, _
          exact ⟨acc, μ3, Hb3, by omega, hm3, g02.trans g3', kk.2 rfl⟩
        | true =>
          show te σ3 H3 _
          refine kk.1 rfl σ3 Hb3 H3 _ S3' (fun e μ4 w Hb4 H4 g4 r4 i4 => ?_) (fun _ _ _ _ _ _ _ _ z => z.elim)
          obtain ⟨hm4, g4'⟩ := back hm3 g3'.mu g4
          obtain ⟨_, o, ho, ro⟩ := g4'.mu Dl _ put_same
          cases o with
          | lst xs =>
            have ro : RepL T Hb4 acc xs := ro
            have g5 := Go.chg g4'.sub g4'.mu (p := Dl) (o := .lst (xs ++ [w])) (z := .lst (acc ++ [e])) put_same (ro.app (.cons r4 .nil))
            rw [put_put] at g5
            exact ⟨xs, ho, Evl.sz_lt (by rw [← ro.1]; omega), acc ++ [e], μ4, Hb4, by simp; omega, hm4, ((g02.trans g3').trans g4').trans g5, i4⟩
          | _ => exact ro.elim
  · have e : i = ds.length := by omega
    have i2 : I ds.length acc μ' := e ▸ i'
    obtain ⟨hbn, o, ho, ro⟩ := g'.mu Dl _ put_same
    cases o with
    | lst xs =>
      have gf := Go.freeze g'.sub g'.mu (p := Dl) put_same ho
      rw [del_put hm'] at gf
      have ro : RepL T Hb' acc xs := ro
      exact .inl ⟨stop i (by omega), q _ _ _ _ _ ((g1.trans g').trans gf) (.lst upd_same ro.1 (ro.mono gf.ex).2) (done acc μ' i2)⟩
    | _ => exact ro.elim
theorem ev_lcOT {i sl : Nat} {a : Addr} {ds : List D} {tt : TT} {P : D → Mu → Prop} {XP : XW} {g : D → Option D} (hvar : ρ[sl]? = some (some (.ptr a))) (hmem : m0 a = some (.lst ds)) (hl : ds.length ≤ 100000)
    (turn : ∀ x, x ∈ ds → TV T tt (fun _ _ _ _ => False) ⟨(wipeD ρ [i]).set i (some x), m0⟩ (fun b μ1 => μ1 = m0 ∧ (b = true → EV T te' (fun _ _ _ _ => False) ⟨(wipeD ρ [i]).set i (some x), m0⟩ (fun z μ2 => g x = some z ∧ μ2 = m0) (fun _ _ => False)) ∧ (b = false → g x = none)) (fun _ _ => False))
    (done : P (.lst (ds.filterMap g)) m0) : EV T (tLc (iList T.K (tVar sl)) (gName i) tt te' [i]) W ⟨ρ, m0⟩ P XP :=
  ev_lcO (I := fun k acc μ' => μ' = m0 ∧ acc = (ds.take k).filterMap g) (is := [i]) hvar hmem (fun _ h => h) hl ⟨rfl, by simp⟩ (fun k acc μ' h => by rw [h.1]; exact hmem) (fun k acc μ' hk _ h => by
    obtain ⟨rfl, rfl⟩ := h
    refine gv_name ?_
    intro σ2 Hb2 H2 Q2 S2 q2 x2
    refine turn _ (List.mem_of_getElem? (nth_get hk)) σ2 Hb2 H2 Q2 S2 (fun b μ1 Hb3 H3 g3 h3 => q2 b μ1 Hb3 H3 g3 ⟨fun hb => ?_, fun hb => ?_⟩) x2
    · obtain ⟨em, pt, pf⟩ := h3
      rw [em]
      refine (pt hb).imp fun z μ2 h4 => ⟨h4.2, ?_⟩
      rw [List.take_succ, List.filterMap_append, nth_get hk]
      simp [h4.1]
    · obtain ⟨em, pt, pf⟩ := h3
      refine ⟨em, ?_⟩
      rw [List.take_succ, List.filterMap_append, nth_get hk]
      simp [pf hb]) (fun acc μ' h => by
    obtain ⟨rfl, rfl⟩ := h
    rw [List.take_length]
    exact done)
end
end Pw

/-! ### steps of the pure walk -/
local macro_rules | `(tactic| walk_at "uw") => `(tactic| first
  | (with_reducible refine Pw.ev_op ?_)
  | ((with_reducible refine Pw.ev_var (d := ?d) ?h ?_); (case h => rfl))
  | (with_reducible refine Pw.ev_int ?_)
  | (with_reducible refine Pw.ev_bl ?_)
  | (with_reducible refine Pw.ev_str ?_)
  | (with_reducible refine Pw.ev_non ?_)
  | (with_reducible refine Pw.ev_ty ?_)
  | (with_reducible refine Pw.ev_ref ?_)
  | (with_reducible refine Pw.ev_cb ?_)
  | (with_reducible refine Pw.ev_un ?_)
  | (with_reducible refine Pw.ea_cons ?_)
  | (with_reducible refine Pw.ea_nil ?_)
  | (with_reducible refine Pw.ev_cal0 ?_)
  | (with_reducible refine Pw.ev_calN ?_)
  | (with_reducible refine Pw.ev_mak0 ?_)
  | (with_reducible refine Pw.ev_mak1 ?_)
  | (with_reducible refine Pw.ev_if ?_)
  | (with_reducible refine Pw.ev_and ?_)
  | (with_reducible refine Pw.ev_or ?_)
  | (with_reducible refine Pw.ev_not ?_)
  | (with_reducible refine Pw.tv_test ?_)
  | (with_reducible refine Pw.tv_B ?_)
  | (with_reducible refine Pw.tv_and ?_)
  | (with_reducible refine Pw.tv_or ?_)
  | (with_reducible refine Pw.tv_not ?_)
  | (with_reducible refine Pw.tv_yes ?_)
  | (with_reducible refine Pw.po_no ?_)
  | (with_reducible refine Pw.po_so ?_)
  | (with_reducible refine Pw.sv_seq ?_)
  | (with_reducible refine Pw.sv_asg ?_)
  | (with_reducible refine Pw.sv_ret ?_)
  | (with_reducible refine Pw.sv_if ?_)
  | (with_reducible refine Pw.sv_par ?_)
  | (with_reducible refine Pw.sv_next ?_)
  | (with_reducible refine Pw.sv_app ?_)
  | (with_reducible refine Pw.sv_drop ?_)
  | (with_reducible refine Pw.sv_fld ?_)
  | (with_reducible refine Pw.ov_add ?_)
  | (with_reducible refine Pw.ov_sub ?_)
  | (with_reducible refine Pw.ov_lt ?_)
  | (with_reducible refine Pw.ov_le ?_)
  | (with_reducible refine Pw.ov_gt ?_)
  | (with_reducible refine Pw.ov_ge ?_)
  | (with_reducible refine Pw.ov_eqI ?_)
  | (with_reducible refine Pw.ov_neI ?_)
  | (with_reducible refine Pw.ov_eqS ?_)
  | (with_reducible refine Pw.ov_neS ?_)
  | (with_reducible refine Pw.ov_eqB ?_)
  | (with_reducible refine Pw.ov_neB ?_)
  | (with_reducible refine Pw.cv_abs ?_)
  | ((with_reducible refine Pw.ov_ixT (e := ?e) ?h ?_); (case h => rfl))
  | ((with_reducible refine Pw.ov_ixM (ds := ?ds) (e := ?e) ?hm ?h ?_); (case hm => exact Pw.put_same); (case h => rfl))
  | ((with_reducible refine Pw.ov_pow ?h ?_); (case h => exact ⟨by decide, by decide, by decide⟩))
  | ((with_reducible refine Pw.ov_mod ?h ?_); (case h => decide))
  | (with_reducible refine Pw.ev_tup ?_)
  | ((with_reducible refine And.intro (show _ ≤ 100000 from ?hl) ?_); (case hl => (simp; done)))
  | (with_reducible refine Pw.cv_intB ?_)
  | (with_reducible refine Pw.uv_neg ?_)
  | (with_reducible refine Pw.seqK_nx ?_)
  | (with_reducible refine Pw.seqK_rt ?_)
  | (with_reducible refine Pw.seqK_xr ?_)
  | (with_reducible refine Pw.seqK_ct ?_)
  | (with_reducible refine Pw.seqK_bk ?_)
  | (with_reducible refine Pw.whK_rt ?_)
  | (with_reducible refine Pw.whK_xr ?_)
  | (with_reducible refine Pw.whK_bk ?_)
  | (with_reducible refine Pw.forK_nx ?_)
  | (with_reducible refine Pw.forK_ct ?_)
  | (with_reducible refine Pw.forK_rt ?_)
  | (with_reducible refine Pw.forK_xr ?_)
  | (with_reducible refine Pw.forK_bk ?_)
  | (with_reducible refine Pw.fnK_rt ?_)
  | (with_reducible refine Pw.fnK_nx ?_)
  | (with_reducible refine Pw.fnK_xr ?_))
local macro_rules | `(tactic| walk_at "ul") => `(tactic| first
  | walk_at "uw"
  | (with_reducible refine Pw.ev_lst ?_))
local macro_rules | `(tactic| walk_at "uls") => `(tactic| repeat (walk_at "ul"))
local macro_rules | `(tactic| walk_at "uws") => `(tactic| repeat (walk_at "uw"))
local macro_rules | `(tactic| walk_at "uk") => `(tactic| first
  | ((with_reducible refine Far.ev_mkS0 ?hT ?_); (case hT => assumption))
  | ((with_reducible refine Far.ev_mkS1 ?hT ?_); (case hT => assumption))
  | walk_at "ul"
  | (with_reducible refine Pw.ex_bl ?_)
  | (with_reducible refine Pw.b_tt ?_)
  | (with_reducible refine Pw.b_ff ?_)
  | (with_reducible refine Pw.b_tt' ?_)
  | (with_reducible refine Pw.b_ff' ?_)
  | (with_reducible refine Pw.b_nt ?_)
  | (with_reducible refine Pw.b_nf ?_)
  | (with_reducible refine Pw.b_nt' ?_)
  | (with_reducible refine Pw.b_nf' ?_)
  | (with_reducible refine Pw.b_d ?_)
  | (with_reducible refine Pw.b_d' ?_)
  | (with_reducible refine Pw.b_dn ?_)
  | (with_reducible refine Pw.b_dn' ?_)
  | (with_reducible refine Pw.ex_2 ?_)
  | ((with_reducible refine Far.ev_top ?hT ?_); (case hT => assumption))
  | ((with_reducible refine Far.ev_bot ?hT ?_); (case hT => assumption))
  | (with_reducible refine Far.ex_sh ?_)
  | ((with_reducible refine Far.isi_sh ?hT ?_); (case hT => assumption))
  | (with_reducible refine Far.isi_ib ?_)
  | (with_reducible refine Far.isi_ii ?_)
  | (with_reducible refine Pw.ov_eq2 ?_)
  | (with_reducible refine Pw.ov_ne2 ?_)
  | (with_reducible refine Far.ov_eqP ?_)
  | (with_reducible refine Far.ov_neP ?_)
  | (with_reducible refine Far.ex_ii ?_)
  | (with_reducible refine Far.ex_i ?_)
  | (with_reducible refine Far.ev_wellN ?_)
  | ((with_reducible refine Far.ov_shEq ?hT ?_); (case hT => assumption))
  | ((with_reducible refine Far.ov_shNe ?hT ?_); (case hT => assumption))
  | (with_reducible refine Pw.sv_asg2 ?_)
  | (with_reducible refine Pw.sv_asg3 ?_)
  | (with_reducible refine Pw.tryK_nx ?_)
  | (with_reducible refine Pw.tryK_rt ?_)
  | (with_reducible refine Pw.unK_rt ?_)
  | (with_reducible refine Pw.unK_nx ?_)
  | (with_reducible refine Pw.ex_t2 ?_)
  | (with_reducible refine Pw.ex_t3 ?_))
local macro_rules | `(tactic| walk_at "uks") => `(tactic| repeat (walk_at "uk"))
local macro_rules | `(tactic| walk_at "le") => `(tactic| (repeat (first | exact trivial | refine And.intro rfl ?_)))
local macro_rules | `(tactic| walk_at "po") => `(tactic| first
  | walk_at "uk"
  | ((with_reducible refine Far.plus_s ?h ?_); (case h => decide))
  | ((with_reducible refine Far.minus_s ?h ?_); (case h => decide))
  | ((with_reducible refine Far.times_s ?h ?_); (case h => decide))
  | ((with_reducible refine Far.less_s ?h ?_); (case h => decide)))
local macro_rules | `(tactic| walk_at "pos") => `(tactic| repeat (walk_at "po"))
local macro_rules | `(tactic| walk_at "gn") => `(tactic| first
  | ((refine Far.bN' ?h ?_); (case h => grind))
  | ((refine Far.bN ?h ?_); (case h => grind)))
namespace Far
open PySem PySem.Spec PyProof.Rows L2 Pw
open FM (Bq)
/-! ### lists of shares and of pairs; carrying -/
abbrev prL (qs : List Rat) : D := .lst (qs.map prD)
abbrev shL (qs : List Rat) : D := .lst (qs.map shD)
abbrev prR (rows : List (List Rat)) : D := .lst (rows.map fun r => .lst (r.map prD))
abbrev shR (rows : List (List Rat)) : D := .lst (rows.map fun r => .lst (r.map shD))
def dot (ps qs : List Rat) : Rat := ((ps.zip qs).map fun z => z.1 * z.2).sum
def dots (rs ss : List (List Rat)) : Rat := ((rs.zip ss).map fun z => dot z.1 z.2).sum
/-- what stands in prices that are no prices -/
inductive Od where
  | pr (q : Rat) | zero | none | txt | tru
def odD : Od → D
  | .pr q => prD q
  | .zero => .int 0
  | .none => .non
  | .txt => .str "0"
  | .tru => .bl true
def odS : Od → D
  | .pr q => shD q
  | .zero => .int 0
  | .none => .non
  | .txt => .str "0"
  | .tru => .bl true
def Od.isP : Od → Bool
  | .pr _ => true
  | _ => false
def Od.bq (n : Nat) : Od → Prop
  | .pr q => Bq n q
  | _ => True
theorem od_th {T : Cfg} (hT : ShOk T) (o : Od) : ∃ t, Thing T (odS o) t := by
  cases o
  · exact ⟨_, th_sh hT _⟩
  · exact ⟨_, th_int hT 0⟩
  · exact ⟨_, th_non hT⟩
  · exact ⟨_, th_str hT _⟩
  · exact ⟨_, th_bl hT true⟩
theorem od_thD {T : Cfg} (hT : ShOk T) (o : Od) : ∃ t, Thing T (odD o) t ∧ kindOf (odD o) "tuple" = o.isP := by
  cases o
  · exact ⟨_, th_tup hT _, rfl⟩
  · exact ⟨_, th_int hT 0, by decide⟩
  · exact ⟨_, th_non hT, by decide⟩
  · exact ⟨_, th_str hT _, by decide⟩
  · exact ⟨_, th_bl hT true, by decide⟩
theorem od_sh (o : Od) : isSh (odS o) = o.isP := by cases o <;> rfl
def Rows (n m : Nat) (k : Nat) (rows : List (List Rat)) : Prop := rows.length = n ∧ ∀ r ∈ rows, r.length = m ∧ ∀ q ∈ r, Bq k q
def OkO (costs : List (List Rat)) (hs ts : List Od) : Prop := hs.length = costs.length ∧ ts.length = (costs.headD []).length ∧ (∀ o ∈ hs, o.isP = true) ∧ (∀ o ∈ ts, o.isP = true) ∧
  ∀ (k : Nat) (row : List Rat) (h : Rat), costs[k]? = some row → hs[k]? = some (.pr h) → ∀ (j : Nat) (c t : Rat), row[j]? = some c → ts[j]? = some (.pr t) → ¬ c < h - t
def c_are_shares (T : Cfg) : PC := fun ds P _ => ∃ d t, ds = [d] ∧ Thing T d t ∧ ((∃ es, d = .lst es ∧ es.length ≤ 1000 ∧ (∀ e ∈ es, ∃ t, Thing T e t) ∧ P (.bl (es.all isSh))) ∨ (kindOf d "list" = false ∧ P (.bl false)))
inductive Pri (T : Cfg) (costs : List (List Rat)) : D → Prop → Prop
  | od (hs ts : List Od) (h1 : ∀ o ∈ hs, o.bq 100) (h2 : ∀ o ∈ ts, o.bq 100) (l1 : hs.length ≤ 100) (l2 : ts.length ≤ 100) : Pri T costs (.tup [.lst (hs.map odS), .lst (ts.map odS)]) (OkO costs hs ts)
  | no1 {d : D} {t : Value} (h : Thing T d t) (k : kindOf d "tuple" = false) : Pri T costs d False
  | no2 {es : List D} (h : es.length ≠ 2) (hl : es.length ≤ 100) : Pri T costs (.tup es) False
  | no3 {d e : D} {t u : Value} (h : Thing T d t) (k : kindOf d "list" = false) (h' : Thing T e u) (k' : kindOf e "list" = false) : Pri T costs (.tup [d, e]) False
  | no4 {e : D} {u : Value} (hs : List Od) (l1 : hs.length ≤ 100) (h' : Thing T e u) (k' : kindOf e "list" = false) : Pri T costs (.tup [.lst (hs.map odS), e]) False
def c_are_prices (T : Cfg) : PC := fun ds P _ => ∃ (d : D) (costs : List (List Rat)) (pp : Prop) (n : Nat), ds = [d, shR costs] ∧ Rows costs.length n 40 costs ∧ costs ≠ [] ∧ costs.length ≤ 100 ∧ n ≤ 100 ∧ Pri T costs d pp ∧ ∀ b : Bool, (b = true ↔ pp) → P (.bl b)
def c_cost_of (T : Cfg) : PC := fun ds P _ => ∃ (rs ss : List (List Rat)) (n m : Nat), ds = [shR rs, shR ss] ∧ Rows n m 32 rs ∧ Rows n m 16 ss ∧ n ≤ 12 ∧ m ≤ 12 ∧ P (shD (dots rs ss))
def c_brought (T : Cfg) : PC := fun ds P _ => ∃ (hs ts fs ss : List Rat), ds = [.tup [shL hs, shL ts], shL fs, shL ss] ∧ hs.length ≤ 12 ∧ ts.length ≤ 12 ∧ (∀ q ∈ hs, Bq 60 q) ∧ (∀ q ∈ ts, Bq 60 q) ∧ (∀ q ∈ fs, Bq 20 q) ∧ (∀ q ∈ ss, Bq 20 q) ∧ P (shD (dot hs fs - dot ts ss))
theorem len_are_shares {T : Cfg} : ∀ ds μ P XP, pu (c_are_shares T) ds μ P XP → ds.length = 1 := by
  rintro ds μ P XP ⟨rfl, Pf, Xf, ⟨d, t, rfl, _⟩, _⟩; rfl
theorem len_are_prices {T : Cfg} : ∀ ds μ P XP, pu (c_are_prices T) ds μ P XP → ds.length = 2 := by
  rintro ds μ P XP ⟨rfl, Pf, Xf, ⟨d, c, p, n, rfl, _⟩, _⟩; rfl
theorem len_cost_of {T : Cfg} : ∀ ds μ P XP, pu (c_cost_of T) ds μ P XP → ds.length = 2 := by
  rintro ds μ P XP ⟨rfl, Pf, Xf, ⟨r, s, n, m, rfl, _⟩, _⟩; rfl
theorem len_brought {T : Cfg} : ∀ ds μ P XP, pu (c_brought T) ds μ P XP → ds.length = 3 := by
  rintro ds μ P XP ⟨rfl, Pf, Xf, ⟨h, t, f, s, rfl, _⟩, _⟩; rfl
def t_are_shares (T : Cfg) (E : XK) : TS := (tRet (tAndV (tCB (rIsi T.K) (tCons (tVar 0) (tCons (tC (.ty "list")) tNil))) (tCB (rAll T.K) (tCons (tLc (iList T.K (tVar 0)) (gName 1) tYes (tCB (rIsi T.K) (tCons (tVar 1) (tCons (tC (.ref (T.cls 0))) tNil))) [1]) tNil))))
def t_are_prices (T : Cfg) (E : XK) : TS := (tSeq (tIfS (tOr (tNot (tB (tCB (rIsi T.K) (tCons (tVar 0) (tCons (tC (.ty "tuple")) tNil))))) (tOr (tTest (tOp rNe (tCB (Pw.rLen T.K) (tCons (tVar 0) tNil)) (tC (.int 2)))) (tNot (tB (tCB (rAll T.K) (tCons (tLc (iTup T.K (tVar 0)) (gName 6) tYes (tCall (spOf T (pu (c_are_shares T))) [] E0 (tCons (tVar 6) tNil)) [6]) tNil)))))) (tRet (tC (.bl false))) tNext)
    (tSeq (tAsg (tVar 0) (gTup T.K 2 (gCons (gName 2) (gCons (gName 3) gNil))))
    (tSeq (tIfS (tOr (tTest (tOp rNe (tCB (Pw.rLen T.K) (tCons (tVar 2) tNil)) (tCB (Pw.rLen T.K) (tCons (tVar 1) tNil)))) (tTest (tOp rNe (tCB (Pw.rLen T.K) (tCons (tVar 3) tNil)) (tCB (Pw.rLen T.K) (tCons (tOp (rIxL T.K) (tVar 1) (tC (.int 0))) tNil))))) (tRet (tC (.bl false))) tNext)
    (tSeq (tFor (iZip T.K (tCons (tVar 2) (tCons (tVar 1) tNil))) (gTup T.K 2 (gCons (gName 4) (gCons (gName 5) gNil))) (tIfS (tB (tCB (rAny T.K) (tCons (tLc (iZip T.K (tCons (tVar 5) (tCons (tVar 3) tNil))) (gTup T.K 2 (gCons (gName 7) (gCons (gName 8) gNil))) tYes (tCall (spOf T (pu (c_less T))) [] E0 (tCons (tVar 7) (tCons (tCall (spOf T (pu (c_minus T))) [] E0 (tCons (tVar 4) (tCons (tVar 8) tNil))) tNil))) [7, 8]) tNil))) (tRet (tC (.bl false))) tNext))
    (tRet (tC (.bl true)))))))
def t_cost_of (T : Cfg) (E : XK) : TS := (tSeq (tAsg (tMake (T.cls 0) (spOf T (ini 0 (c_Share___init__ T))) [.int 1] E0 (tCons (tC (.int 0)) tNil)) (gName 2))
    (tSeq (tFor (iZip T.K (tCons (tVar 0) (tCons (tVar 1) tNil))) (gTup T.K 2 (gCons (gName 3) (gCons (gName 4) gNil))) (tAsg (tCall (spOf T (pu (c_plus T))) [] E0 (tCons (tVar 2) (tCons (tCall (spOf T (pu (c_sum_of T))) [] E0 (tCons (tLc (iZip T.K (tCons (tVar 3) (tCons (tVar 4) tNil))) (gTup T.K 2 (gCons (gName 5) (gCons (gName 6) gNil))) tYes (tCall (spOf T (pu (c_times T))) [] E0 (tCons (tVar 5) (tCons (tVar 6) tNil))) [5, 6]) tNil)) tNil))) (gName 2)))
    (tRet (tVar 2))))
def t_brought (T : Cfg) (E : XK) : TS := (tSeq (tAsg (tVar 0) (gTup T.K 2 (gCons (gName 4) (gCons (gName 5) gNil))))
    (tSeq (tAsg (tCall (spOf T (pu (c_sum_of T))) [] E0 (tCons (tLc (iZip T.K (tCons (tVar 4) (tCons (tVar 1) tNil))) (gTup T.K 2 (gCons (gName 6) (gCons (gName 7) gNil))) tYes (tCall (spOf T (pu (c_times T))) [] E0 (tCons (tVar 6) (tCons (tVar 7) tNil))) [6, 7]) tNil)) (gName 3))
    (tRet (tCall (spOf T (pu (c_minus T))) [] E0 (tCons (tVar 3) (tCons (tCall (spOf T (pu (c_sum_of T))) [] E0 (tCons (tLc (iZip T.K (tCons (tVar 5) (tCons (tVar 2) tNil))) (gTup T.K 2 (gCons (gName 6) (gCons (gName 7) gNil))) tYes (tCall (spOf T (pu (c_times T))) [] E0 (tCons (tVar 6) (tCons (tVar 7) tNil))) [6, 7]) tNil)) tNil))))))
theorem isi_t {T : Cfg} {μ : Mu} {P : D → Mu → Prop} {d : D} {t : Value} (h : Thing T d t) {n : String} (hn : n ∈ tys) (p : P (.bl (kindOf d n)) μ) : CV T (rIsi T.K) [d, .ty n] μ P := cv_isiT h.ty (h.kd n hn) p
theorem isi_s {T : Cfg} {μ : Mu} {P : D → Mu → Prop} {d : D} {t : Value} (h : Thing T d t) (p : P (.bl (isSh d)) μ) : CV T (rIsi T.K) [d, .ptr (T.cls 0)] μ P := cv_isi h.ty h.sh p
theorem isi_tp {T : Cfg} {μ : Mu} {P : D → Mu → Prop} {ds : List D} (p : P (.bl true) μ) : CV T (rIsi T.K) [.tup ds, .ty "tuple"] μ P := cv_isiT (.tup ds) (kit_ty (kit_tab "tuple" (by simp [tags]) "tuple" (by simp [tys]))) p
theorem pure_are_shares {T : Cfg} (hT : ShOk T) : ∀ E ds μ P XP, pu (c_are_shares T) ds μ P XP → SV T (t_are_shares T E) (fun cls dd _ H => E cls dd H) ⟨slots 2 ds, μ⟩ (fnK P XP) := by
  rintro E ds μ P XP ⟨rfl, Pf, Xf, ⟨d, t, rfl, ht, h⟩, hP, hX⟩
  unfold t_are_shares
  walk_at "uks"
  refine isi_t ht (by simp [tys]) ?_
  walk_at "uks"
  rcases h with ⟨es, rfl, hl, he, p⟩ | ⟨hk, p⟩
  · refine bT (by rfl) ?_
    walk_at "uks"
    refine ev_lcF ?_
    walk_at "uks"
    refine ⟨es, fun e => .bl (isSh e), .inl rfl, by omega, fun e hm => ?_, ?_⟩
    · obtain ⟨t, ht⟩ := he e hm
      walk_at "uks"
      exact isi_s ht ⟨rfl, rfl⟩
    · walk_at "uks"
      refine cv_all (bs := es.map isSh) (.inl ?_) ?_
      · rw [List.map_map]; rfl
      rw [List.all_map]
      exact hP _ p
  · rw [hk]
    walk_at "uks"
    exact hP _ p
theorem fm_map {α β : Type} (f : α → β) (l : List α) : l.filterMap (fun x => some (f x)) = l.map f := by
  induction l with
  | nil => rfl
  | cons a l ih => rw [List.filterMap_cons]; simp [ih]
theorem zip_mem {ps qs : List Rat} {z : Rat × Rat} (h : z ∈ ps.zip qs) : z.1 ∈ ps ∧ z.2 ∈ qs := List.of_mem_zip h
theorem zipD {α : Type} (f : α → D) (ps qs : List α) (g : α → α → D) : ((ps.map f).zip (qs.map f)).filterMap (fun p : D × D => match p with | _ => none) = ([] : List D) := by
  induction ((ps.map f).zip (qs.map f)) with
  | nil => rfl
  | cons a l ih => rw [List.filterMap_cons, ih]
/-- a zip of shares, each two by a function -/
def unSh : D → Rat
  | .ins 0 [(_, .int a), (_, .int b)] => Rat.divInt a b
  | _ => 0
theorem unSh_sh (q : Rat) : unSh (shD q) = q := Rat.num_divInt_den q
def unPr : D → Rat
  | .tup [.int a, .int b] => Rat.divInt a b
  | _ => 0
theorem unPr_pr (q : Rat) : unPr (prD q) = q := Rat.num_divInt_den q
theorem zip_sh {ps qs : List Rat} {g : Rat → Rat → D} : ((ps.map shD).zip (qs.map shD)).filterMap (fun p => some (g (unSh p.1) (unSh p.2))) = (ps.zip qs).map fun z => g z.1 z.2 := by
  rw [fm_map, List.zip_map, List.map_map]
  refine List.map_congr_left fun z _ => ?_
  show g (unSh (shD z.1)) (unSh (shD z.2)) = _
  rw [unSh_sh, unSh_sh]
theorem zip_pr {ps qs : List Rat} {g : Rat → Rat → D} : ((ps.map prD).zip (qs.map prD)).filterMap (fun p => some (g (unPr p.1) (unPr p.2))) = (ps.zip qs).map fun z => g z.1 z.2 := by
  rw [fm_map, List.zip_map, List.map_map]
  refine List.map_congr_left fun z _ => ?_
  show g (unPr (prD z.1)) (unPr (prD z.2)) = _
  rw [unPr_pr, unPr_pr]
/-- [f(x, y) for x, y in zip(shares, shares)] -/
theorem ev_zipS {T : Cfg} {W : WX} {ρ : List (Option D)} {m0 : Mu} {P : D → Mu → Prop} {XP : XW} {i j : Nat} {te' : TE} {tz : TA} (h : EA T tz W ⟨ρ, m0⟩ (fun fs μ => ∃ (ps qs : List Rat) (g : Rat → Rat → D), fs = [shL ps, shL qs] ∧ ps.length ≤ 1000 ∧ (∀ x y, x ∈ ps → y ∈ qs → EV T te' (fun _ _ _ _ => False) ⟨((wipeD ρ [i, j]).set i (some (shD x))).set j (some (shD y)), μ⟩ (fun z μ2 => z = g x y ∧ μ2 = μ) (fun _ _ => False)) ∧ P (.lst ((ps.zip qs).map fun z => g z.1 z.2)) μ) XP) : EV T (tLc (iZip T.K tz) (gTup T.K 2 (gCons (gName i) (gCons (gName j) gNil))) tYes te' [i, j]) W ⟨ρ, m0⟩ P XP :=
  ev_lcZ (EA.imp h fun fs μ ⟨ps, qs, g, e, hl, turn, done⟩ => ⟨_, _, _, _, e, .inl rfl, .inl rfl, by rw [List.length_map]; omega, fun d e => some (g (unSh d) (unSh e)), fun x y hx hy => by
    obtain ⟨p, hp, rfl⟩ := List.mem_map.1 hx
    obtain ⟨q, hq, rfl⟩ := List.mem_map.1 hy
    refine tv_yes ⟨rfl, fun _ => ?_, fun e => (nomatch e)⟩
    refine (turn p q hp hq).imp fun z μ2 ⟨e1, e2⟩ => ⟨?_, e2⟩
    show some (g (unSh (shD p)) (unSh (shD q))) = some z
    rw [unSh_sh, unSh_sh, e1], by
    rw [zip_sh]
    exact done⟩)
theorem ev_zipP {T : Cfg} {W : WX} {ρ : List (Option D)} {m0 : Mu} {P : D → Mu → Prop} {XP : XW} {i j : Nat} {te' : TE} {tz : TA} (h : EA T tz W ⟨ρ, m0⟩ (fun fs μ => ∃ (ps qs : List Rat) (g : Rat → Rat → D), fs = [prL ps, prL qs] ∧ ps.length ≤ 1000 ∧ (∀ x y, x ∈ ps → y ∈ qs → EV T te' (fun _ _ _ _ => False) ⟨((wipeD ρ [i, j]).set i (some (prD x))).set j (some (prD y)), μ⟩ (fun z μ2 => z = g x y ∧ μ2 = μ) (fun _ _ => False)) ∧ P (.lst ((ps.zip qs).map fun z => g z.1 z.2)) μ) XP) : EV T (tLc (iZip T.K tz) (gTup T.K 2 (gCons (gName i) (gCons (gName j) gNil))) tYes te' [i, j]) W ⟨ρ, m0⟩ P XP :=
  ev_lcZ (EA.imp h fun fs μ ⟨ps, qs, g, e, hl, turn, done⟩ => ⟨_, _, _, _, e, .inl rfl, .inl rfl, by rw [List.length_map]; omega, fun d e => some (g (unPr d) (unPr e)), fun x y hx hy => by
    obtain ⟨p, hp, rfl⟩ := List.mem_map.1 hx
    obtain ⟨q, hq, rfl⟩ := List.mem_map.1 hy
    refine tv_yes ⟨rfl, fun _ => ?_, fun e => (nomatch e)⟩
    refine (turn p q hp hq).imp fun z μ2 ⟨e1, e2⟩ => ⟨?_, e2⟩
    show some (g (unPr (prD p)) (unPr (prD q))) = some z
    rw [unPr_pr, unPr_pr, e1], by
    rw [zip_pr]
    exact done⟩)
theorem map_sh (ps : List (Rat × Rat)) (f : Rat × Rat → Rat) : (ps.map fun z => shD (f z)) = (ps.map f).map shD := by rw [List.map_map]; rfl
theorem sum_dot {T : Cfg} {ps qs : List Rat} {P : D → Prop} {X : XD → Prop} {n m k : Nat} (hp : ∀ q ∈ ps, Bq n q) (hq : ∀ q ∈ qs, Bq m q) (hl : ps.length ≤ k) (hs : (k + 1) * (n + m + 3) ≤ 8000) (p : P (shD (dot ps qs))) : c_sum_of T [.lst ((ps.zip qs).map fun z => shD (z.1 * z.2))] P X := by
  rw [map_sh (ps.zip qs) fun z => z.1 * z.2]
  refine sum_i (n := n + m + 1) (fun q h => ?_) ?_ p
  · obtain ⟨z, hz, rfl⟩ := List.mem_map.1 h
    obtain ⟨h1, h2⟩ := List.of_mem_zip hz
    exact bq_mul (hp _ h1) (hq _ h2)
  · rw [List.length_map, List.length_zip]
    refine Nat.le_trans (Nat.mul_le_mul_right _ ?_) hs
    omega
theorem dot_bq {ps qs : List Rat} {n m k : Nat} (hp : ∀ q ∈ ps, Bq n q) (hq : ∀ q ∈ qs, Bq m q) (hl : ps.length ≤ k) : Bq (k * (n + m + 2) + 1) (dot ps qs) := by
  unfold dot
  refine (bq_sum (n := n + m + 1) _ fun q h => ?_).mono ?_
  · obtain ⟨z, hz, rfl⟩ := List.mem_map.1 h
    obtain ⟨h1, h2⟩ := List.of_mem_zip hz
    exact bq_mul (hp _ h1) (hq _ h2)
  · rw [List.length_map, List.length_zip]
    have : min ps.length qs.length * (n + m + 1 + 1) ≤ k * (n + m + 2) := Nat.mul_le_mul_right _ (by omega)
    omega
theorem pure_brought {T : Cfg} (hT : ShOk T) : ∀ E ds μ P XP, pu (c_brought T) ds μ P XP → SV T (t_brought T E) (fun cls dd _ H => E cls dd H) ⟨slots 8 ds, μ⟩ (fnK P XP) := by
  rintro E ds μ P XP ⟨rfl, Pf, Xf, ⟨hs, ts, fs, ss, rfl, l1, l2, b1, b2, b3, b4, p⟩, hP, hX⟩
  unfold t_brought
  walk_at "uks"
  refine ev_zipS ?_
  walk_at "uks"
  refine ⟨hs, fs, fun x y => shD (x * y), rfl, by omega, fun x y hx hy => ?_, ?_⟩
  · walk_at "uks"
    exact times_i (b1 _ hx) (b3 _ hy) (by decide) ⟨rfl, rfl⟩
  walk_at "uks"
  refine sum_dot (k := 12) b1 b3 l1 (by decide) ?_
  walk_at "uks"
  refine ev_zipS ?_
  walk_at "uks"
  refine ⟨ts, ss, fun x y => shD (x * y), rfl, by omega, fun x y hx hy => ?_, ?_⟩
  · walk_at "uks"
    exact times_i (b2 _ hx) (b4 _ hy) (by decide) ⟨rfl, rfl⟩
  walk_at "uks"
  refine sum_dot (k := 12) b2 b4 l2 (by decide) ?_
  walk_at "uks"
  refine minus_i (dot_bq (k := 12) b1 b3 l1) (dot_bq (k := 12) b2 b4 l2) (by decide) ?_
  walk_at "uks"
  exact hP _ p
theorem dots_take {rs ss : List (List Rat)} {k : Nat} {r s : List Rat} (h1 : rs[k]? = some r) (h2 : ss[k]? = some s) : dots (rs.take (k + 1)) (ss.take (k + 1)) = dots (rs.take k) (ss.take k) + dot r s := by
  unfold dots
  have e : ∀ n, (rs.take n).zip (ss.take n) = (rs.zip ss).take n := fun n => by rw [List.zip_eq_zipWith, List.zip_eq_zipWith, List.take_zipWith]
  rw [e, e]
  have hz : (rs.zip ss)[k]? = some (r, s) := by rw [List.getElem?_zip_eq_some]; exact ⟨h1, h2⟩
  rw [List.take_succ, hz]
  simp [Rat.add_zero]
theorem dots_bq {rs ss : List (List Rat)} {n m a b : Nat} (h1 : Rows n m a rs) (h2 : Rows n m b ss) (hm : m ≤ 12) (k : Nat) (hk : k ≤ 12) : Bq (k * (12 * (a + b + 2) + 2) + 1) (dots (rs.take k) (ss.take k)) := by
  unfold dots
  refine (bq_sum (n := 12 * (a + b + 2) + 1) _ fun q h => ?_).mono ?_
  · obtain ⟨z, hz, rfl⟩ := List.mem_map.1 h
    obtain ⟨e1, e2⟩ := List.of_mem_zip hz
    have r1 := h1.2 _ (List.mem_of_mem_take e1)
    have r2 := h2.2 _ (List.mem_of_mem_take e2)
    exact dot_bq r1.2 r2.2 (by omega)
  · rw [List.length_map, List.length_zip, List.length_take, List.length_take]
    have : min (min k rs.length) (min k ss.length) * (12 * (a + b + 2) + 1 + 1) ≤ k * (12 * (a + b + 2) + 2) := Nat.mul_le_mul_right _ (by omega)
    omega
theorem row_get {rows : List (List Rat)} {f : Rat → D} {n : Nat} {x : D} (h : (rows.map fun r => D.lst (r.map f))[n]? = some x) : ∃ r, rows[n]? = some r ∧ x = .lst (r.map f) := by
  rw [List.getElem?_map, Option.map_eq_some_iff] at h
  obtain ⟨r, h1, rfl⟩ := h
  exact ⟨r, h1, rfl⟩
theorem pure_cost_of {T : Cfg} (hT : ShOk T) : ∀ E ds μ P XP, pu (c_cost_of T) ds μ P XP → SV T (t_cost_of T E) (fun cls dd _ H => E cls dd H) ⟨slots 7 ds, μ⟩ (fnK P XP) := by
  rintro E ds μ P XP ⟨rfl, Pf, Xf, ⟨rs, ss, n, m, rfl, h1, h2, hn, hm, p⟩, hP, hX⟩
  unfold t_cost_of
  walk_at "uks"
  refine sv_forZ ?_
  walk_at "uks"
  refine ⟨_, _, _, _, fun k => [some (shR rs), some (shR ss), some (shD (dots (rs.take k) (ss.take k))), none, none, none, none], fun _ μ => μ = mu0, rfl, .inl rfl, .inl rfl, ?_, rfl, fun k x y μ' hx hy em => ?_, fun s' hs em => ?_⟩
  · walk_at "le"
  · subst em
    obtain ⟨r, hr, rfl⟩ := row_get hx
    obtain ⟨s, hs, rfl⟩ := row_get hy
    have r1 := h1.2 _ (List.mem_of_getElem? hr)
    have r2 := h2.2 _ (List.mem_of_getElem? hs)
    have hk : k < 12 := by
      have := (List.getElem?_eq_some_iff.mp hr).1
      have := h1.1
      omega
    walk_at "uks"
    refine ev_zipS ?_
    walk_at "uks"
    refine ⟨r, s, fun x y => shD (x * y), rfl, by omega, fun x y hx hy => ?_, ?_⟩
    · walk_at "uks"
      exact times_i (r1.2 _ hx) (r2.2 _ hy) (by decide) ⟨rfl, rfl⟩
    walk_at "uks"
    refine sum_dot (k := 12) r1.2 r2.2 (by omega) (by decide) ?_
    walk_at "uks"
    refine plus_i ((dots_bq h1 h2 hm k (by omega)).mono (m := 12 * (12 * (32 + 16 + 2) + 2) + 1) ?_) (dot_bq (k := 12) r1.2 r2.2 (by omega)) (by decide) ?_
    · have := Nat.mul_le_mul_right (12 * (32 + 16 + 2) + 2) (show k ≤ 12 by omega)
      omega
    rw [← dots_take hr hs]
    walk_at "uks"
    refine ⟨?_, rfl⟩
    walk_at "le"
  · refine seqK_res hs ?_
    dsimp only
    have e : dots (rs.take (min (rs.map fun r => D.lst (r.map shD)).length (ss.map fun r => D.lst (r.map shD)).length)) (ss.take (min (rs.map fun r => D.lst (r.map shD)).length (ss.map fun r => D.lst (r.map shD)).length)) = dots rs ss := by
      rw [List.length_map, List.length_map, h1.1, h2.1, Nat.min_self, List.take_of_length_le (by rw [h1.1]; exact Nat.le_refl _), List.take_of_length_le (by rw [h2.1]; exact Nat.le_refl _)]
    rw [e]
    walk_at "uks"
    exact hP _ p
theorem at_0 {d : D} {ds : List D} : atI (d :: ds) 0 = some d := by
  have e : ixN (d :: ds).length (0 : Int) = some 0 := by
    unfold ixN
    rw [if_pos (by omega), if_pos (by rw [List.length_cons]; omega)]
    rfl
  unfold atI
  rw [e]
  rfl
theorem any_map {ps qs : List Rat} (f : Rat → Rat → Bool) : ((ps.zip qs).map fun z => D.bl (f z.1 z.2)) = ((ps.zip qs).map fun z => f z.1 z.2).map D.bl := by
  rw [List.map_map]; rfl
theorem allPr : ∀ {hs : List Od}, (∀ o ∈ hs, o.isP = true) → ∃ qs : List Rat, hs = qs.map Od.pr
  | [], _ => ⟨[], rfl⟩
  | o :: hs, h => by
    obtain ⟨qs, rfl⟩ := allPr (hs := hs) fun o ho => h o (List.mem_cons_of_mem _ ho)
    have h0 := h o (by simp)
    cases o with
    | pr q => exact ⟨q :: qs, rfl⟩
    | _ => cases h0
theorem allS {hs : List Od} : (hs.map odS).all isSh = hs.all Od.isP := by
  induction hs with
  | nil => rfl
  | cons o hs ih => rw [List.map_cons, List.all_cons, List.all_cons, ih, od_sh]
theorem shs_i {T : Cfg} (hT : ShOk T) {hs : List Od} {P : D → Prop} {X : XD → Prop} (hl : hs.length ≤ 100) (p : P (.bl (hs.all Od.isP))) : c_are_shares T [.lst (hs.map odS)] P X :=
  ⟨_, _, rfl, th_lst hT _, .inl ⟨_, rfl, by rw [List.length_map]; omega, fun e he => by
    obtain ⟨o, _, rfl⟩ := List.mem_map.1 he
    exact od_th hT o, by rw [allS]; exact p⟩⟩
theorem shs_n {T : Cfg} {d : D} {t : Value} {P : D → Prop} {X : XD → Prop} (h : Thing T d t) (k : kindOf d "list" = false) (p : P (.bl false)) : c_are_shares T [d] P X := ⟨d, t, rfl, h, .inr ⟨k, p⟩⟩
def shB : D → Bool
  | .lst es => es.all isSh
  | _ => false
theorem shB_no {d : D} (k : kindOf d "list" = false) : shB d = false := by
  cases d <;> first | rfl | (simp [kindOf, kk, tagOf] at k)
theorem pure_are_prices {T : Cfg} (hT : ShOk T) : ∀ E ds μ P XP, pu (c_are_prices T) ds μ P XP → SV T (t_are_prices T E) (fun cls dd _ H => E cls dd H) ⟨slots 9 ds, μ⟩ (fnK P XP) := by
  rintro E ds μ P XP ⟨rfl, Pf, Xf, ⟨d, costs, pp, n, rfl, hc, hne, hl, hn, hp, p⟩, hP, hX⟩
  unfold t_are_prices
  cases hp with
  | no1 h k =>
    walk_at "uks"
    refine isi_t h (by simp [tys]) ?_
    rw [k]
    walk_at "uks"
    exact hP _ (p _ (by simp))
  | @no2 es h hl =>
    walk_at "uks"
    refine isi_tp ?_
    walk_at "uks"
    refine cv_lenT ?_
    walk_at "uks"
    refine bT' ?_ ?_
    · rw [decide_eq_false (by omega)]; rfl
    walk_at "uks"
    exact hP _ (p _ (by simp))
  | @no3 d e t u h k h' k' =>
    walk_at "uks"
    refine isi_tp ?_
    walk_at "uks"
    refine cv_lenT ?_
    walk_at "uks"
    refine bF' (by rfl) ?_
    walk_at "uks"
    refine ev_lcU ?_
    walk_at "uks"
    refine ⟨[d, e], fun x => .bl (shB x), rfl, by simp, fun x hx => ?_, ?_⟩
    · walk_at "uks"
      simp only [List.mem_cons, List.not_mem_nil, or_false] at hx
      rcases hx with rfl | rfl
      · exact shs_n h k ⟨by show D.bl false = D.bl (shB _); rw [shB_no k], rfl⟩
      · exact shs_n h' k' ⟨by show D.bl false = D.bl (shB _); rw [shB_no k'], rfl⟩
    walk_at "uks"
    refine cv_all (bs := [shB d, shB e]) (.inl rfl) ?_
    refine ex_bl (bT ?_ ?_)
    · rw [shB_no k]; rfl
    walk_at "uks"
    exact hP _ (p false (by simp))
  | @no4 e u hs l1 h' k' =>
    walk_at "uks"
    refine isi_tp ?_
    walk_at "uks"
    refine cv_lenT ?_
    walk_at "uks"
    refine bF' (by rfl) ?_
    walk_at "uks"
    refine ev_lcU ?_
    walk_at "uks"
    refine ⟨_, fun x => .bl (shB x), rfl, by simp, fun x hx => ?_, ?_⟩
    · walk_at "uks"
      simp only [List.mem_cons, List.not_mem_nil, or_false] at hx
      rcases hx with rfl | rfl
      · exact shs_i hT l1 ⟨by rw [← allS]; rfl, rfl⟩
      · exact shs_n h' k' ⟨by show D.bl false = D.bl (shB _); rw [shB_no k'], rfl⟩
    walk_at "uks"
    refine cv_all (bs := [shB (.lst (hs.map odS)), shB e]) (.inl rfl) ?_
    refine ex_bl (bT ?_ ?_)
    · rw [shB_no k']
      cases shB (.lst (hs.map odS)) <;> rfl
    walk_at "uks"
    exact hP _ (p false (by simp))
  | od hs ts h1 h2 l1 l2 =>
    walk_at "uks"
    refine isi_tp ?_
    walk_at "uks"
    refine cv_lenT ?_
    walk_at "uks"
    refine bF' (by rfl) ?_
    walk_at "uks"
    refine ev_lcU ?_
    walk_at "uks"
    refine ⟨_, fun x => .bl (shB x), rfl, by simp, fun x hx => ?_, ?_⟩
    · walk_at "uks"
      simp only [List.mem_cons, List.not_mem_nil, or_false] at hx
      rcases hx with rfl | rfl
      · exact shs_i hT l1 ⟨by rw [← allS]; rfl, rfl⟩
      · exact shs_i hT l2 ⟨by rw [← allS]; rfl, rfl⟩
    walk_at "uks"
    refine cv_all (bs := [shB (.lst (hs.map odS)), shB (.lst (ts.map odS))]) (.inl rfl) ?_
    have e1 : shB (.lst (hs.map odS)) = hs.all Od.isP := allS
    have e2 : shB (.lst (ts.map odS)) = ts.all Od.isP := allS
    rw [e1, e2]
    refine ⟨_, rfl, fun ha => ?_, fun ha => ?_⟩
    · walk_at "uks"
      refine hP _ (p _ ?_)
      refine ⟨fun z => (nomatch z), fun z => ?_⟩
      have a1 : hs.all Od.isP = true := List.all_eq_true.mpr z.2.2.1
      have a2 : ts.all Od.isP = true := List.all_eq_true.mpr z.2.2.2.1
      rw [a1, a2] at ha
      cases ha
    · have ha' : (hs.all Od.isP && (ts.all Od.isP && true)) = true := by
        have : (!(hs.all Od.isP && (ts.all Od.isP && true))) = false := ha
        simpa using this
      rw [Bool.and_eq_true, Bool.and_eq_true] at ha'
      have a1 := List.all_eq_true.mp ha'.1
      have a2 := List.all_eq_true.mp ha'.2.1
      obtain ⟨xs, rfl⟩ := allPr a1
      obtain ⟨ys, rfl⟩ := allPr a2
      have ex : (xs.map Od.pr).map odS = xs.map shD := by rw [List.map_map]; rfl
      have ey : (ys.map Od.pr).map odS = ys.map shD := by rw [List.map_map]; rfl
      rw [ex, ey]
      have bx : ∀ q ∈ xs, Bq 100 q := fun q hq => h1 (.pr q) (List.mem_map.2 ⟨q, hq, rfl⟩)
      have by_ : ∀ q ∈ ys, Bq 100 q := fun q hq => h2 (.pr q) (List.mem_map.2 ⟨q, hq, rfl⟩)
      rw [List.length_map] at l1 l2
      obtain ⟨c0, cs, rfl⟩ : ∃ c0 cs, costs = c0 :: cs := by
        cases costs with
        | nil => exact absurd rfl hne
        | cons a b => exact ⟨a, b, rfl⟩
      walk_at "uks"
      refine cv_len (.inl rfl) ?_
      walk_at "uks"
      refine cv_len (.inl rfl) ?_
      walk_at "uks"
      refine ⟨fun hA => ?_, fun hA => ?_⟩
      rotate_left
      · walk_at "uks"
        refine hP _ (p _ ⟨fun z => (nomatch z), fun z => ?_⟩)
        have z1 := z.1
        rw [List.length_map] at z1
        rw [List.length_map, List.length_map, decide_eq_true (by rw [z1])] at hA
        cases hA
      have hlen : xs.length = (c0 :: cs).length := by
        rw [List.length_map, List.length_map] at hA
        have : decide ((xs.length : Int) = ((c0 :: cs).length : Int)) = true := by simpa using hA
        have := of_decide_eq_true this
        omega
      walk_at "uks"
      refine cv_len (.inl rfl) ?_
      walk_at "uks"
      refine ov_ixL (e := shL c0) (.inl rfl) at_0 ?_
      walk_at "uks"
      refine cv_len (.inl rfl) ?_
      walk_at "uks"
      refine ⟨fun hB => ?_, fun hB => ?_⟩
      · walk_at "uks"
        refine hP _ (p _ ⟨fun z => (nomatch z), fun z => ?_⟩)
        have z1 := z.2.1
        rw [List.length_map] at z1
        have z1 : ys.length = c0.length := z1
        rw [List.length_map, List.length_map, decide_eq_true (by rw [z1])] at hB
        cases hB
      have hlen2 : ys.length = c0.length := by
        rw [List.length_map, List.length_map] at hB
        have : decide ((ys.length : Int) = (c0.length : Int)) = true := by simpa using hB
        have := of_decide_eq_true this
        omega
      walk_at "uks"
      refine sv_forZ ?_
      walk_at "uks"
      refine ⟨_, _, _, _, fun _ => [none, some (shR (c0 :: cs)), some (shL xs), some (shL ys), none, none, none, none, none], fun k μ => μ = mu0 ∧ ∀ (i : Nat) (row : List Rat) (h : Rat), i < k → (c0 :: cs)[i]? = some row → xs[i]? = some h → ∀ (j : Nat) (c t : Rat), row[j]? = some c → ys[j]? = some t → ¬ c < h - t, rfl, .inl rfl, .inl rfl, ?_, ⟨rfl, fun i row h hi => by omega⟩, fun k x y μ' hx hy em => ?_, fun s' hs em => ?_⟩
      · walk_at "le"
      · obtain ⟨rfl, hk⟩ := em
        rw [List.getElem?_map, Option.map_eq_some_iff] at hx
        obtain ⟨h, hx, rfl⟩ := hx
        obtain ⟨row, hr, rfl⟩ := row_get hy
        have r1 := hc.2 _ (List.mem_of_getElem? hr)
        walk_at "uks"
        refine ev_zipS ?_
        walk_at "uks"
        refine ⟨row, ys, fun c t => .bl (decide (c < h - t)), rfl, by omega, fun c t hc' ht => ?_, ?_⟩
        · walk_at "uks"
          refine minus_i (bx _ (List.mem_of_getElem? hx)) (by_ _ ht) (by decide) ?_
          walk_at "uks"
          exact less_i (r1.2 _ hc') ((bx _ (List.mem_of_getElem? hx)).sub (by_ _ ht)) (by decide) ⟨rfl, rfl⟩
        rw [any_map fun c t => decide (c < h - t)]
        walk_at "uks"
        refine cv_any (.inl rfl) ?_
        refine ⟨_, rfl, fun hC => ?_, fun hC => ?_⟩
        · walk_at "uks"
          refine hP _ (p _ ⟨fun z => (nomatch z), fun z => ?_⟩)
          rw [List.any_map, List.any_eq_true] at hC
          obtain ⟨w, hw, hlt⟩ := hC
          obtain ⟨j, hj⟩ := List.getElem?_of_mem hw
          rw [List.getElem?_zip_eq_some] at hj
          have hlt : w.1 < h - w.2 := by simpa using hlt
          exact absurd hlt (z.2.2.2.2 k row h hr (by rw [List.getElem?_map, hx]; rfl) j w.1 w.2 hj.1 (by rw [List.getElem?_map, hj.2]; rfl))
        · walk_at "uks"
          refine ⟨?_, rfl, fun i row' h' hi hr' hx' j c t hc' ht => ?_⟩
          · walk_at "le"
          by_cases e : i = k
          · subst e
            rw [hr] at hr'; cases hr'
            rw [hx] at hx'; cases hx'
            intro hlt
            rw [List.any_map] at hC
            have : ((row.zip ys).any (id ∘ fun z => decide (z.1 < h - z.2))) = true := by
              rw [List.any_eq_true]
              refine ⟨(c, t), List.mem_of_getElem? (i := j) ?_, by simpa using hlt⟩
              rw [List.getElem?_zip_eq_some]
              exact ⟨hc', ht⟩
            rw [this] at hC
            cases hC
          · exact hk i row' h' (by omega) hr' hx' j c t hc' ht
      · obtain ⟨em, hk⟩ := em
        refine seqK_res hs ?_
        walk_at "uks"
        refine hP _ (p _ ⟨fun _ => ⟨by rw [List.length_map]; exact hlen, by rw [List.length_map]; exact hlen2, a1, a2, fun k row h hr hx j c t hc' ht => ?_⟩, fun _ => rfl⟩)
        rw [List.getElem?_map, Option.map_eq_some_iff] at hx ht
        obtain ⟨h', hx, e⟩ := hx
        cases e
        obtain ⟨t', ht, e⟩ := ht
        cases e
        refine hk k row h ?_ hr hx j c t hc' ht
        have := (List.getElem?_eq_some_iff.mp hx).1
        rw [List.length_map, List.length_map]
        omega
end Far

/-! ### steps of the pure walk -/
local macro_rules | `(tactic| walk_at "vw") => `(tactic| first
  | (with_reducible refine Pw.ev_op ?_)
  | ((with_reducible refine Pw.ev_var (d := ?d) ?h ?_); (case h => rfl))
  | (with_reducible refine Pw.ev_int ?_)
  | (with_reducible refine Pw.ev_bl ?_)
  | (with_reducible refine Pw.ev_str ?_)
  | (with_reducible refine Pw.ev_non ?_)
  | (with_reducible refine Pw.ev_ty ?_)
  | (with_reducible refine Pw.ev_ref ?_)
  | (with_reducible refine Pw.ev_cb ?_)
  | (with_reducible refine Pw.ev_un ?_)
  | (with_reducible refine Pw.ea_cons ?_)
  | (with_reducible refine Pw.ea_nil ?_)
  | (with_reducible refine Pw.ev_cal0 ?_)
  | (with_reducible refine Pw.ev_calN ?_)
  | (with_reducible refine Pw.ev_mak0 ?_)
  | (with_reducible refine Pw.ev_mak1 ?_)
  | (with_reducible refine Pw.ev_if ?_)
  | (with_reducible refine Pw.ev_and ?_)
  | (with_reducible refine Pw.ev_or ?_)
  | (with_reducible refine Pw.ev_not ?_)
  | (with_reducible refine Pw.tv_test ?_)
  | (with_reducible refine Pw.tv_B ?_)
  | (with_reducible refine Pw.tv_and ?_)
  | (with_reducible refine Pw.tv_or ?_)
  | (with_reducible refine Pw.tv_not ?_)
  | (with_reducible refine Pw.tv_yes ?_)
  | (with_reducible refine Pw.po_no ?_)
  | (with_reducible refine Pw.po_so ?_)
  | (with_reducible refine Pw.sv_seq ?_)
  | (with_reducible refine Pw.sv_asg ?_)
  | (with_reducible refine Pw.sv_ret ?_)
  | (with_reducible refine Pw.sv_if ?_)
  | (with_reducible refine Pw.sv_par ?_)
  | (with_reducible refine Pw.sv_next ?_)
  | (with_reducible refine Pw.sv_app ?_)
  | (with_reducible refine Pw.sv_drop ?_)
  | (with_reducible refine Pw.sv_fld ?_)
  | (with_reducible refine Pw.ov_add ?_)
  | (with_reducible refine Pw.ov_sub ?_)
  | (with_reducible refine Pw.ov_lt ?_)
  | (with_reducible refine Pw.ov_le ?_)
  | (with_reducible refine Pw.ov_gt ?_)
  | (with_reducible refine Pw.ov_ge ?_)
  | (with_reducible refine Pw.ov_eqI ?_)
  | (with_reducible refine Pw.ov_neI ?_)
  | (with_reducible refine Pw.ov_eqS ?_)
  | (with_reducible refine Pw.ov_neS ?_)
  | (with_reducible refine Pw.ov_eqB ?_)
  | (with_reducible refine Pw.ov_neB ?_)
  | (with_reducible refine Pw.cv_abs ?_)
  | ((with_reducible refine Pw.ov_ixT (e := ?e) ?h ?_); (case h => rfl))
  | ((with_reducible refine Pw.ov_ixM (ds := ?ds) (e := ?e) ?hm ?h ?_); (case hm => exact Pw.put_same); (case h => rfl))
  | ((with_reducible refine Pw.ov_pow ?h ?_); (case h => exact ⟨by decide, by decide, by decide⟩))
  | ((with_reducible refine Pw.ov_mod ?h ?_); (case h => decide))
  | (with_reducible refine Pw.ev_tup ?_)
  | ((with_reducible refine And.intro (show _ ≤ 100000 from ?hl) ?_); (case hl => (simp; done)))
  | (with_reducible refine Pw.cv_intB ?_)
  | (with_reducible refine Pw.uv_neg ?_)
  | (with_reducible refine Pw.seqK_nx ?_)
  | (with_reducible refine Pw.seqK_rt ?_)
  | (with_reducible refine Pw.seqK_xr ?_)
  | (with_reducible refine Pw.seqK_ct ?_)
  | (with_reducible refine Pw.seqK_bk ?_)
  | (with_reducible refine Pw.whK_rt ?_)
  | (with_reducible refine Pw.whK_xr ?_)
  | (with_reducible refine Pw.whK_bk ?_)
  | (with_reducible refine Pw.forK_nx ?_)
  | (with_reducible refine Pw.forK_ct ?_)
  | (with_reducible refine Pw.forK_rt ?_)
  | (with_reducible refine Pw.forK_xr ?_)
  | (with_reducible refine Pw.forK_bk ?_)
  | (with_reducible refine Pw.fnK_rt ?_)
  | (with_reducible refine Pw.fnK_nx ?_)
  | (with_reducible refine Pw.fnK_xr ?_))
local macro_rules | `(tactic| walk_at "vl") => `(tactic| first
  | walk_at "vw"
  | (with_reducible refine Pw.ev_lst ?_))
local macro_rules | `(tactic| walk_at "vls") => `(tactic| repeat (walk_at "vl"))
local macro_rules | `(tactic| walk_at "vws") => `(tactic| repeat (walk_at "vw"))
local macro_rules | `(tactic| walk_at "vk") => `(tactic| first
  | ((with_reducible refine Far.ev_mkS0 ?hT ?_); (case hT => assumption))
  | ((with_reducible refine Far.ev_mkS1 ?hT ?_); (case hT => assumption))
  | walk_at "vl"
  | (with_reducible refine Pw.ex_bl ?_)
  | (with_reducible refine Pw.b_tt ?_)
  | (with_reducible refine Pw.b_ff ?_)
  | (with_reducible refine Pw.b_tt' ?_)
  | (with_reducible refine Pw.b_ff' ?_)
  | (with_reducible refine Pw.b_nt ?_)
  | (with_reducible refine Pw.b_nf ?_)
  | (with_reducible refine Pw.b_nt' ?_)
  | (with_reducible refine Pw.b_nf' ?_)
  | (with_reducible refine Pw.b_d ?_)
  | (with_reducible refine Pw.b_d' ?_)
  | (with_reducible refine Pw.b_dn ?_)
  | (with_reducible refine Pw.b_dn' ?_)
  | (with_reducible refine Pw.ex_2 ?_)
  | ((with_reducible refine Far.ev_top ?hT ?_); (case hT => assumption))
  | ((with_reducible refine Far.ev_bot ?hT ?_); (case hT => assumption))
  | (with_reducible refine Far.ex_sh ?_)
  | ((with_reducible refine Far.isi_sh ?hT ?_); (case hT => assumption))
  | (with_reducible refine Far.isi_ib ?_)
  | (with_reducible refine Far.isi_ii ?_)
  | (with_reducible refine Pw.ov_eq2 ?_)
  | (with_reducible refine Pw.ov_ne2 ?_)
  | (with_reducible refine Far.ov_eqP ?_)
  | (with_reducible refine Far.ov_neP ?_)
  | (with_reducible refine Far.ex_ii ?_)
  | (with_reducible refine Far.ex_i ?_)
  | (with_reducible refine Far.ev_wellN ?_)
  | ((with_reducible refine Far.ov_shEq ?hT ?_); (case hT => assumption))
  | ((with_reducible refine Far.ov_shNe ?hT ?_); (case hT => assumption))
  | (with_reducible refine Pw.sv_asg2 ?_)
  | (with_reducible refine Pw.sv_asg3 ?_)
  | (with_reducible refine Pw.tryK_nx ?_)
  | (with_reducible refine Pw.tryK_rt ?_)
  | (with_reducible refine Pw.unK_rt ?_)
  | (with_reducible refine Pw.unK_nx ?_)
  | (with_reducible refine Pw.ex_t2 ?_)
  | (with_reducible refine Pw.ex_t3 ?_))
local macro_rules | `(tactic| walk_at "vks") => `(tactic| repeat (walk_at "vk"))
local macro_rules | `(tactic| walk_at "le") => `(tactic| (repeat (first | exact trivial | refine And.intro rfl ?_)))
local macro_rules | `(tactic| walk_at "po") => `(tactic| first
  | walk_at "vk"
  | ((with_reducible refine Far.plus_s ?h ?_); (case h => decide))
  | ((with_reducible refine Far.minus_s ?h ?_); (case h => decide))
  | ((with_reducible refine Far.times_s ?h ?_); (case h => decide))
  | ((with_reducible refine Far.less_s ?h ?_); (case h => decide)))
local macro_rules | `(tactic| walk_at "pos") => `(tactic| repeat (walk_at "po"))
local macro_rules | `(tactic| walk_at "gn") => `(tactic| first
  | ((refine Far.bN' ?h ?_); (case h => grind))
  | ((refine Far.bN ?h ?_); (case h => grind)))
namespace Far
open PySem PySem.Spec PyProof.Rows L2 Pw
open FM (Bq)
/-! ### the laws' own pairs: sums, heaps, costs -/
def c_Lshares (T : Cfg) : PC := fun ds P _ => ∃ qs : List Rat, ds = [prL qs] ∧ qs.length ≤ 1000 ∧ (∀ q ∈ qs, Bq 9000 q) ∧ P (shL qs)
def c_LrowsS (T : Cfg) : PC := fun ds P _ => ∃ rows : List (List Rat), ds = [prR rows] ∧ rows.length ≤ 1000 ∧ (∀ r ∈ rows, r.length ≤ 1000 ∧ ∀ q ∈ r, Bq 9000 q) ∧ P (shR rows)
def c_Ladded (T : Cfg) : PC := fun ds P _ => ∃ (a b c d : Int) (n m : Nat), ds = [.tup [.int a, .int b], .tup [.int c, .int d]] ∧ b ≠ 0 ∧ d ≠ 0 ∧ Bt n a ∧ Bt n b ∧ Bt m c ∧ Bt m d ∧ n + m ≤ 9000 ∧ P (prD (Rat.divInt a b + Rat.divInt c d))
def c_Ltotal (T : Cfg) : PC := fun ds P _ => ∃ (d : D) (qs : List Rat) (n : Nat), ds = [d] ∧ Seqd d (qs.map prD) ∧ (∀ q ∈ qs, Bq n q) ∧ (qs.length + 1) * (n + 2) ≤ 8000 ∧ P (prD qs.sum)
def c_Lby (T : Cfg) : PC := fun ds P _ => ∃ (p q : Rat) (n m : Nat), ds = [prD p, prD q] ∧ Bq n p ∧ Bq m q ∧ n + m ≤ 9000 ∧ P (prD (p * q))
def c_Lbelow (T : Cfg) : PC := fun ds P _ => ∃ (p q : Rat) (n m : Nat), ds = [prD p, prD q] ∧ Bq n p ∧ Bq m q ∧ n + m ≤ 9000 ∧ P (.bl (decide (p < q)))
def c_Lless (T : Cfg) : PC := fun ds P _ => ∃ (a b c d : Int) (n m : Nat), ds = [.tup [.int a, .int b], .tup [.int c, .int d]] ∧ b ≠ 0 ∧ d ≠ 0 ∧ Bt n a ∧ Bt n b ∧ Bt m c ∧ Bt m d ∧ n + m ≤ 8000 ∧ P (prD (Rat.divInt a b - Rat.divInt c d))
def c_Lcost (T : Cfg) : PC := fun ds P _ => ∃ (rs ss : List (List Rat)) (n m : Nat), ds = [prR rs, prR ss] ∧ Rows n m 32 rs ∧ Rows n m 16 ss ∧ n ≤ 12 ∧ m ≤ 12 ∧ P (prD (dots rs ss))
def c_Lheap (T : Cfg) : Nat → List D → (D → Nat → Prop) → Prop := fun b rest P => ∃ n : Nat, rest = [.int n] ∧ 1 ≤ n ∧ n ≤ 12 ∧ 40 ≤ b ∧ ∀ (ws : List Nat) (b' : Nat), ws.length = n → 0 < ws.sum → ws.sum ≤ 200 → b ≤ b' + 40 → P (prL (ws.map fun (w : Nat) => Rat.divInt (w : Int) (ws.sum : Int))) b'
def c_Lcosts (T : Cfg) : Nat → List D → (D → Nat → Prop) → Prop := fun b rest P => ∃ n m : Nat, rest = [.int n, .int m] ∧ n ≤ 12 ∧ m ≤ 12 ∧ 200 ≤ b ∧ ∀ (rows : List (List Rat)) (b' : Nat), Rows n m 32 rows → b ≤ b' + 200 → P (prR rows) b'
theorem len_Lshares {T : Cfg} : ∀ ds μ P XP, pu (c_Lshares T) ds μ P XP → ds.length = 1 := by
  rintro ds μ P XP ⟨rfl, Pf, Xf, ⟨d, rfl, _⟩, _⟩; rfl
theorem len_LrowsS {T : Cfg} : ∀ ds μ P XP, pu (c_LrowsS T) ds μ P XP → ds.length = 1 := by
  rintro ds μ P XP ⟨rfl, Pf, Xf, ⟨d, rfl, _⟩, _⟩; rfl
theorem len_Ladded {T : Cfg} : ∀ ds μ P XP, pu (c_Ladded T) ds μ P XP → ds.length = 2 := by
  rintro ds μ P XP ⟨rfl, Pf, Xf, ⟨a, b, c, d, n, m, rfl, _⟩, _⟩; rfl
theorem len_Ltotal {T : Cfg} : ∀ ds μ P XP, pu (c_Ltotal T) ds μ P XP → ds.length = 1 := by
  rintro ds μ P XP ⟨rfl, Pf, Xf, ⟨d, q, n, rfl, _⟩, _⟩; rfl
theorem len_Lby {T : Cfg} : ∀ ds μ P XP, pu (c_Lby T) ds μ P XP → ds.length = 2 := by
  rintro ds μ P XP ⟨rfl, Pf, Xf, ⟨p, q, n, m, rfl, _⟩, _⟩; rfl
theorem len_Lbelow {T : Cfg} : ∀ ds μ P XP, pu (c_Lbelow T) ds μ P XP → ds.length = 2 := by
  rintro ds μ P XP ⟨rfl, Pf, Xf, ⟨p, q, n, m, rfl, _⟩, _⟩; rfl
theorem len_Lless {T : Cfg} : ∀ ds μ P XP, pu (c_Lless T) ds μ P XP → ds.length = 2 := by
  rintro ds μ P XP ⟨rfl, Pf, Xf, ⟨a, b, c, d, n, m, rfl, _⟩, _⟩; rfl
theorem len_Lcost {T : Cfg} : ∀ ds μ P XP, pu (c_Lcost T) ds μ P XP → ds.length = 2 := by
  rintro ds μ P XP ⟨rfl, Pf, Xf, ⟨p, q, n, m, rfl, _⟩, _⟩; rfl
theorem len_Lheap {T : Cfg} : ∀ ds μ P XP, wl (c_Lheap T) ds μ P XP → ds.length = 2 := by
  rintro ds μ P XP ⟨a, b, rest, rfl, rfl, Pf, ⟨n, rfl, _⟩, _⟩; rfl
theorem len_Lcosts {T : Cfg} : ∀ ds μ P XP, wl (c_Lcosts T) ds μ P XP → ds.length = 3 := by
  rintro ds μ P XP ⟨a, b, rest, rfl, rfl, Pf, ⟨n, m, rfl, _⟩, _⟩; rfl
def t_Lshares (T : Cfg) (E : XK) : TS := (tRet (tLc (iList T.K (tVar 0)) (gTup T.K 2 (gCons (gName 1) (gCons (gName 2) gNil))) tYes (tMake (T.cls 0) (spOf T (ini 0 (c_Share___init__ T))) [] E0 (tCons (tVar 1) (tCons (tVar 2) tNil))) [1, 2]))
def t_LrowsS (T : Cfg) (E : XK) : TS := (tRet (tLc (iList T.K (tVar 0)) (gName 1) tYes (tCall (spOf T (pu (c_Lshares T))) [] E0 (tCons (tVar 1) tNil)) [1]))
def t_Ladded (T : Cfg) (E : XK) : TS := (tRet (tCall (spOf T (pu (c_Llow T))) [] E0 (tCons (tOp (rI0 fun i j => .int (i + j)) (tOp (rI IntMulOk fun i j => .int (i * j)) (tOp (rIxT T.K) (tVar 0) (tC (.int 0))) (tOp (rIxT T.K) (tVar 1) (tC (.int 1)))) (tOp (rI IntMulOk fun i j => .int (i * j)) (tOp (rIxT T.K) (tVar 1) (tC (.int 0))) (tOp (rIxT T.K) (tVar 0) (tC (.int 1))))) (tCons (tOp (rI IntMulOk fun i j => .int (i * j)) (tOp (rIxT T.K) (tVar 0) (tC (.int 1))) (tOp (rIxT T.K) (tVar 1) (tC (.int 1)))) tNil))))
def t_Ltotal (T : Cfg) (E : XK) : TS := (tSeq (tAsg (tTup (tCons (tC (.int 0)) (tCons (tC (.int 1)) tNil))) (gName 1))
    (tSeq (tFor (iList T.K (tVar 0)) (gName 2) (tAsg (tCall (spOf T (pu (c_Ladded T))) [] E0 (tCons (tVar 1) (tCons (tVar 2) tNil))) (gName 1)))
    (tRet (tVar 1))))
def t_Lby (T : Cfg) (E : XK) : TS := (tRet (tCall (spOf T (pu (c_Llow T))) [] E0 (tCons (tOp (rI IntMulOk fun i j => .int (i * j)) (tOp (rIxT T.K) (tVar 0) (tC (.int 0))) (tOp (rIxT T.K) (tVar 1) (tC (.int 0)))) (tCons (tOp (rI IntMulOk fun i j => .int (i * j)) (tOp (rIxT T.K) (tVar 0) (tC (.int 1))) (tOp (rIxT T.K) (tVar 1) (tC (.int 1)))) tNil))))
def t_Lbelow (T : Cfg) (E : XK) : TS := (tRet (tOp (rI0 fun i j => .bl (decide (i < j))) (tOp (rI IntMulOk fun i j => .int (i * j)) (tOp (rIxT T.K) (tVar 0) (tC (.int 0))) (tOp (rIxT T.K) (tVar 1) (tC (.int 1)))) (tOp (rI IntMulOk fun i j => .int (i * j)) (tOp (rIxT T.K) (tVar 1) (tC (.int 0))) (tOp (rIxT T.K) (tVar 0) (tC (.int 1))))))
def t_Lless (T : Cfg) (E : XK) : TS := (tRet (tCall (spOf T (pu (c_Ladded T))) [] E0 (tCons (tVar 0) (tCons (tTup (tCons (tOp (rI0 fun i j => .int (i - j)) (tC (.int 0)) (tOp (rIxT T.K) (tVar 1) (tC (.int 0)))) (tCons (tOp (rIxT T.K) (tVar 1) (tC (.int 1))) tNil))) tNil))))
def t_Lcost (T : Cfg) (E : XK) : TS := (tSeq (tAsg (tTup (tCons (tC (.int 0)) (tCons (tC (.int 1)) tNil))) (gName 2))
    (tSeq (tFor (iZip T.K (tCons (tVar 0) (tCons (tVar 1) tNil))) (gTup T.K 2 (gCons (gName 3) (gCons (gName 4) gNil))) (tAsg (tCall (spOf T (pu (c_Ladded T))) [] E0 (tCons (tVar 2) (tCons (tCall (spOf T (pu (c_Ltotal T))) [] E0 (tCons (tLc (iZip T.K (tCons (tVar 3) (tCons (tVar 4) tNil))) (gTup T.K 2 (gCons (gName 5) (gCons (gName 6) gNil))) tYes (tCall (spOf T (pu (c_Lby T))) [] E0 (tCons (tVar 5) (tCons (tVar 6) tNil))) [5, 6]) tNil)) tNil))) (gName 2)))
    (tRet (tVar 2))))
def t_Lheap (T : Cfg) (E : XK) : TS := (tSeq (tAsg (tCall (spOf T (wl (c_Ldraw T))) [] E0 (tCons (tVar 0) (tCons (tC (.int 4)) tNil))) (gName 2))
    (tSeq (tAsg (tOp rRep (tLst (tCons (tC (.int 0)) tNil)) (tVar 1)) (gName 3))
    (tSeq (tFor (iRng1 (tCons (tOp (rIxL T.K) (tLst (tCons (tC (.int 1)) (tCons (tC (.int 2)) (tCons (tC (.int 3)) (tCons (tC (.int 0)) tNil))))) (tVar 2)) tNil)) (gName 4) (tSeq (tAsg (tCall (spOf T (wl (c_Ldraw T))) [] E0 (tCons (tVar 0) (tCons (tVar 1) tNil))) (gName 5))
    (tAsg (tOp (rI0 fun i j => .int (i + j)) (tOp (rI0 fun i j => .int (i + j)) (tOp (rIxL T.K) (tVar 3) (tVar 5)) (tC (.int 1))) (tCall (spOf T (wl (c_Ldraw T))) [] E0 (tCons (tVar 0) (tCons (tC (.int 9)) tNil)))) (gSub (tVar 3) (tVar 5) rSetL))))
    (tSeq (tIfS (tTest (tOp rEq (tVar 2) (tC (.int 3)))) (tAsg (tLc (iRng1 (tCons (tVar 1) tNil)) (gName 7) tYes (tCall (spOf T (wl (c_Ldraw T))) [] E0 (tCons (tVar 0) (tCons (tC (.int 12)) tNil))) [7]) (gName 3)) tNext)
    (tSeq (tIfS (tTest (tOp rEq (tCB (rSum T.K) (tCons (tVar 3) tNil)) (tC (.int 0)))) (tAsg (tC (.int 1)) (gSub (tVar 3) (tCall (spOf T (wl (c_Ldraw T))) [] E0 (tCons (tVar 0) (tCons (tVar 1) tNil))) rSetL)) tNext)
    (tRet (tLc (iList T.K (tVar 3)) (gName 6) tYes (tCall (spOf T (pu (c_Llow T))) [] E0 (tCons (tVar 6) (tCons (tCB (rSum T.K) (tCons (tVar 3) tNil)) tNil))) [6])))))))
def t_Lcosts (T : Cfg) (E : XK) : TS := (tSeq (tAsg (tCall (spOf T (wl (c_Lone T))) [] E0 (tCons (tVar 0) (tCons (tLst (tCons (tC (.int 2)) (tCons (tC (.int 4)) (tCons (tC (.int 20)) (tCons (tOp (rI CPow fun i j => .int (i ^ j.toNat)) (tC (.int 10)) (tC (.int 9))) tNil))))) tNil))) (gName 3))
    (tSeq (tAsg (tOp (rI0 fun i j => .int (i + j)) (tC (.int 1)) (tCall (spOf T (wl (c_Ldraw T))) [] E0 (tCons (tVar 0) (tCons (tCall (spOf T (wl (c_Lone T))) [] E0 (tCons (tVar 0) (tCons (tLst (tCons (tC (.int 1)) (tCons (tC (.int 2)) (tCons (tC (.int 12)) tNil)))) tNil))) tNil)))) (gName 4))
    (tRet (tLc (iRng1 (tCons (tVar 1) tNil)) (gName 5) tYes (tLc (iRng1 (tCons (tVar 2) tNil)) (gName 6) tYes (tCall (spOf T (pu (c_Llow T))) [] E0 (tCons (tCall (spOf T (wl (c_Ldraw T))) [] E0 (tCons (tVar 0) (tCons (tVar 3) tNil))) (tCons (tVar 4) tNil))) [6]) [5]))))
def shOf : D → D
  | .tup [.int a, .int b] => shD (Rat.divInt a b)
  | d => d
theorem shOf_pr (q : Rat) : shOf (prD q) = shD q := by
  show shD (Rat.divInt q.num (q.den : Int)) = _
  rw [Rat.num_divInt_den]
theorem pure_Lshares {T : Cfg} (hT : ShOk T) : ∀ E ds μ P XP, pu (c_Lshares T) ds μ P XP → SV T (t_Lshares T E) (fun cls dd _ H => E cls dd H) ⟨slots 3 ds, μ⟩ (fnK P XP) := by
  rintro E ds μ P XP ⟨rfl, Pf, Xf, ⟨qs, rfl, hl, hb, p⟩, hP, hX⟩
  unfold t_Lshares
  walk_at "vks"
  refine ev_lcF2 ?_
  walk_at "vks"
  refine ⟨_, shOf, .inl rfl, by rw [List.length_map]; omega, fun e he => ?_, ?_⟩
  · obtain ⟨q, hq, rfl⟩ := List.mem_map.1 he
    refine ⟨_, _, rfl, ?_⟩
    walk_at "vks"
    exact ⟨den_ne q, (hb q hq).bd, rfl, rfl⟩
  have e : (qs.map prD).map shOf = qs.map shD := by
    rw [List.map_map]
    exact List.map_congr_left fun q _ => shOf_pr q
  rw [e]
  exact hP _ p
def rowSh : D → D
  | .lst ds => .lst (ds.map shOf)
  | d => d
theorem pure_LrowsS {T : Cfg} (hT : ShOk T) : ∀ E ds μ P XP, pu (c_LrowsS T) ds μ P XP → SV T (t_LrowsS T E) (fun cls dd _ H => E cls dd H) ⟨slots 2 ds, μ⟩ (fnK P XP) := by
  rintro E ds μ P XP ⟨rfl, Pf, Xf, ⟨rows, rfl, hl, hb, p⟩, hP, hX⟩
  unfold t_LrowsS
  have er : ∀ r : List Rat, rowSh (.lst (r.map prD)) = .lst (r.map shD) := fun r => by
    show D.lst ((r.map prD).map shOf) = _
    rw [List.map_map]
    exact congrArg D.lst (List.map_congr_left fun q _ => shOf_pr q)
  walk_at "vks"
  refine ev_lcF ?_
  walk_at "vks"
  refine ⟨_, rowSh, .inl rfl, by rw [List.length_map]; omega, fun e he => ?_, ?_⟩
  · obtain ⟨r, hr, rfl⟩ := List.mem_map.1 he
    walk_at "vks"
    exact ⟨r, rfl, (hb r hr).1, (hb r hr).2, (er r).symm, rfl⟩
  have e : (rows.map fun r => D.lst (r.map prD)).map rowSh = rows.map fun r => D.lst (r.map shD) := by
    rw [List.map_map]
    exact List.map_congr_left fun r _ => er r
  rw [e]
  exact hP _ p
theorem pure_Ladded {T : Cfg} (hT : ShOk T) : ∀ E ds μ P XP, pu (c_Ladded T) ds μ P XP → SV T (t_Ladded T E) (fun cls dd _ H => E cls dd H) ⟨slots 2 ds, μ⟩ (fnK P XP) := by
  rintro E ds μ P XP ⟨rfl, Pf, Xf, ⟨a, b, c, d, n, m, rfl, hb, hd, ka, kb, kc, kd, hs, p⟩, hP, hX⟩
  unfold t_Ladded
  walk_at "vks"
  refine ov_mul (ka.ok kd (by omega)) ?_
  walk_at "vks"
  refine ov_mul (kc.ok kb (by omega)) ?_
  walk_at "vks"
  refine ov_mul (kb.ok kd (by omega)) ?_
  walk_at "vks"
  refine low_i (Int.mul_ne_zero hb hd) ((kb.mul kd).mono (by omega)) ?_
  rw [d_add hb hd]
  exact hP _ p
theorem added_i {T : Cfg} {p q : Rat} {n m : Nat} {P : D → Prop} {X : XD → Prop} (h1 : Bq n p) (h2 : Bq m q) (h : n + m ≤ 9000) (k : P (prD (p + q))) : c_Ladded T [prD p, prD q] P X :=
  ⟨_, _, _, _, n, m, rfl, den_ne p, den_ne q, h1.bn, h1.bd, h2.bn, h2.bd, h, by rw [Rat.num_divInt_den, Rat.num_divInt_den]; exact k⟩
theorem neg_pr (q : Rat) : D.tup [.int (0 - q.num), .int (q.den : Int)] = prD (-q) := by
  unfold prD
  rw [Rat.neg_num, Rat.neg_den, Int.zero_sub]
theorem bq_neg {n : Nat} {q : Rat} (h : Bq n q) : Bq n (-q) := by
  refine ⟨?_, ?_⟩
  · rw [Rat.neg_num, Int.natAbs_neg]; exact h.1
  · rw [Rat.neg_den]; exact h.2
theorem pure_Lless {T : Cfg} (hT : ShOk T) : ∀ E ds μ P XP, pu (c_Lless T) ds μ P XP → SV T (t_Lless T E) (fun cls dd _ H => E cls dd H) ⟨slots 2 ds, μ⟩ (fnK P XP) := by
  rintro E ds μ P XP ⟨rfl, Pf, Xf, ⟨a, b, c, d, n, m, rfl, hb, hd, ka, kb, kc, kd, hs, p⟩, hP, hX⟩
  unfold t_Lless
  walk_at "vks"
  refine ⟨_, _, _, _, n, m, rfl, hb, hd, ka, kb, ?_, kd, by omega, ?_⟩
  · have := kc.neg
    rwa [← Int.zero_sub] at this
  have e : Rat.divInt (0 - c) d = - Rat.divInt c d := by rw [Int.zero_sub, Rat.neg_divInt]
  rw [e, ← Rat.sub_eq_add_neg]
  exact hP _ p
theorem less_p {T : Cfg} {p q : Rat} {n m : Nat} {P : D → Prop} {X : XD → Prop} (h1 : Bq n p) (h2 : Bq m q) (h : n + m ≤ 8000) (k : P (prD (p - q))) : c_Lless T [prD p, prD q] P X :=
  ⟨_, _, _, _, n, m, rfl, den_ne p, den_ne q, h1.bn, h1.bd, h2.bn, h2.bd, h, by rw [Rat.num_divInt_den, Rat.num_divInt_den]; exact k⟩
theorem pure_Lby {T : Cfg} (hT : ShOk T) : ∀ E ds μ P XP, pu (c_Lby T) ds μ P XP → SV T (t_Lby T E) (fun cls dd _ H => E cls dd H) ⟨slots 2 ds, μ⟩ (fnK P XP) := by
  rintro E ds μ P XP ⟨rfl, Pf, Xf, ⟨p, q, n, m, rfl, h1, h2, hs, k⟩, hP, hX⟩
  unfold t_Lby prD
  walk_at "vks"
  refine ov_mul (h1.bn.ok h2.bn (by omega)) ?_
  walk_at "vks"
  refine ov_mul (h1.bd.ok h2.bd (by omega)) ?_
  walk_at "vks"
  refine low_i (dd_ne p q) (dd_bt h1 h2 hs) ?_
  rw [FM.mk_mul]
  exact hP _ k
theorem by_i {T : Cfg} {p q : Rat} {n m : Nat} {P : D → Prop} {X : XD → Prop} (h1 : Bq n p) (h2 : Bq m q) (h : n + m ≤ 9000) (k : P (prD (p * q))) : c_Lby T [prD p, prD q] P X := ⟨p, q, n, m, rfl, h1, h2, h, k⟩
theorem pure_Lbelow {T : Cfg} (hT : ShOk T) : ∀ E ds μ P XP, pu (c_Lbelow T) ds μ P XP → SV T (t_Lbelow T E) (fun cls dd _ H => E cls dd H) ⟨slots 2 ds, μ⟩ (fnK P XP) := by
  rintro E ds μ P XP ⟨rfl, Pf, Xf, ⟨p, q, n, m, rfl, h1, h2, hs, k⟩, hP, hX⟩
  unfold t_Lbelow prD
  walk_at "vks"
  refine ov_mul (h1.bn.ok h2.bd (by omega)) ?_
  walk_at "vks"
  refine ov_mul (h2.bn.ok h1.bd (by omega)) ?_
  walk_at "vks"
  rw [decide_eq_decide.mpr (FM.less_iff p q)]
  exact hP _ k
theorem below_i {T : Cfg} {p q : Rat} {n m : Nat} {P : D → Prop} {X : XD → Prop} (h1 : Bq n p) (h2 : Bq m q) (h : n + m ≤ 9000) (k : P (.bl (decide (p < q)))) : c_Lbelow T [prD p, prD q] P X := ⟨p, q, n, m, rfl, h1, h2, h, k⟩
theorem pure_Ltotal {T : Cfg} (hT : ShOk T) : ∀ E ds μ P XP, pu (c_Ltotal T) ds μ P XP → SV T (t_Ltotal T E) (fun cls dd _ H => E cls dd H) ⟨slots 3 ds, μ⟩ (fnK P XP) := by
  rintro E ds μ P XP ⟨rfl, Pf, Xf, ⟨d, qs, n, rfl, hd, hb, hs, p⟩, hP, hX⟩
  unfold t_Ltotal
  walk_at "vks"
  refine sv_forNI ?_
  walk_at "vks"
  refine ⟨_, fun k => [some d, some (prD (qs.take k).sum), none], fun _ μ => μ = mu0, hd, ?_, rfl, fun k e μ' he em => ?_, fun s' hs' em => ?_⟩
  · exact ⟨rfl, rfl, trivial⟩
  · subst em
    rw [List.getElem?_map, Option.map_eq_some_iff] at he
    obtain ⟨q, hq, rfl⟩ := he
    have hk : k < qs.length := (List.getElem?_eq_some_iff.mp hq).1
    have hq' : qs[k] = q := by
      rw [List.getElem?_eq_getElem hk] at hq
      exact Option.some.inj hq
    have hs2 : qs.length * (n + 1) + (n + 2) ≤ 8000 := by
      have : (qs.length + 1) * (n + 2) = qs.length * (n + 2) + (n + 2) := by rw [Nat.succ_mul]
      have h3 : qs.length * (n + 1) ≤ qs.length * (n + 2) := Nat.mul_le_mul_left _ (by omega)
      omega
    have bt : Bq (qs.length * (n + 1) + 1) (qs.take k).sum := (bq_sum _ fun q hq => hb q (List.mem_of_mem_take hq)).mono (by
      rw [List.length_take]
      have : min k qs.length * (n + 1) ≤ qs.length * (n + 1) := Nat.mul_le_mul_right _ (by omega)
      omega)
    walk_at "vks"
    refine added_i bt (hb _ (List.mem_of_getElem? hq)) (by omega) ?_
    rw [← hq', ← FM.sum_take_succ hk]
    walk_at "vks"
    exact ⟨⟨rfl, rfl, trivial⟩, rfl⟩
  · refine seqK_res hs' ?_
    dsimp only
    rw [List.length_map, List.take_length]
    walk_at "vks"
    exact hP _ p
theorem total_i {T : Cfg} {qs : List Rat} {n : Nat} {P : D → Prop} {X : XD → Prop} (hb : ∀ q ∈ qs, Bq n q) (hs : (qs.length + 1) * (n + 2) ≤ 8000) (k : P (prD qs.sum)) : c_Ltotal T [prL qs] P X := ⟨_, qs, n, rfl, .inl rfl, hb, hs, k⟩
theorem map_pr (ps : List (Rat × Rat)) (f : Rat × Rat → Rat) : (ps.map fun z => prD (f z)) = (ps.map f).map prD := by rw [List.map_map]; rfl
theorem total_dot {T : Cfg} {ps qs : List Rat} {P : D → Prop} {X : XD → Prop} {n m k : Nat} (hp : ∀ q ∈ ps, Bq n q) (hq : ∀ q ∈ qs, Bq m q) (hl : ps.length ≤ k) (hs : (k + 1) * (n + m + 3) ≤ 8000) (p : P (prD (dot ps qs))) : c_Ltotal T [.lst ((ps.zip qs).map fun z => prD (z.1 * z.2))] P X := by
  rw [map_pr (ps.zip qs) fun z => z.1 * z.2]
  refine total_i (n := n + m + 1) (fun q h => ?_) ?_ p
  · obtain ⟨z, hz, rfl⟩ := List.mem_map.1 h
    obtain ⟨h1, h2⟩ := List.of_mem_zip hz
    exact bq_mul (hp _ h1) (hq _ h2)
  · rw [List.length_map, List.length_zip]
    refine Nat.le_trans (Nat.mul_le_mul_right _ ?_) hs
    omega
theorem pure_Lcost {T : Cfg} (hT : ShOk T) : ∀ E ds μ P XP, pu (c_Lcost T) ds μ P XP → SV T (t_Lcost T E) (fun cls dd _ H => E cls dd H) ⟨slots 7 ds, μ⟩ (fnK P XP) := by
  rintro E ds μ P XP ⟨rfl, Pf, Xf, ⟨rs, ss, n, m, rfl, h1, h2, hn, hm, p⟩, hP, hX⟩
  unfold t_Lcost
  walk_at "vks"
  refine sv_forZ ?_
  walk_at "vks"
  refine ⟨_, _, _, _, fun k => [some (prR rs), some (prR ss), some (prD (dots (rs.take k) (ss.take k))), none, none, none, none], fun _ μ => μ = mu0, rfl, .inl rfl, .inl rfl, ?_, rfl, fun k x y μ' hx hy em => ?_, fun s' hs em => ?_⟩
  · exact ⟨rfl, rfl, rfl, trivial⟩
  · subst em
    obtain ⟨r, hr, rfl⟩ := row_get hx
    obtain ⟨s, hs, rfl⟩ := row_get hy
    have r1 := h1.2 _ (List.mem_of_getElem? hr)
    have r2 := h2.2 _ (List.mem_of_getElem? hs)
    have hk : k < 12 := by
      have := (List.getElem?_eq_some_iff.mp hr).1
      have := h1.1
      omega
    walk_at "vks"
    refine ev_zipP ?_
    walk_at "vks"
    refine ⟨r, s, fun x y => prD (x * y), rfl, by omega, fun x y hx hy => ?_, ?_⟩
    · walk_at "vks"
      exact by_i (r1.2 _ hx) (r2.2 _ hy) (by decide) ⟨rfl, rfl⟩
    walk_at "vks"
    refine total_dot (k := 12) r1.2 r2.2 (by omega) (by decide) ?_
    walk_at "vks"
    refine added_i ((dots_bq h1 h2 hm k (by omega)).mono (m := 12 * (12 * (32 + 16 + 2) + 2) + 1) ?_) (dot_bq (k := 12) r1.2 r2.2 (by omega)) (by decide) ?_
    · have := Nat.mul_le_mul_right (12 * (32 + 16 + 2) + 2) (show k ≤ 12 by omega)
      omega
    rw [← dots_take hr hs]
    walk_at "vks"
    refine ⟨?_, rfl⟩
    exact ⟨rfl, rfl, rfl, trivial⟩
  · refine seqK_res hs ?_
    dsimp only
    have e : dots (rs.take (min (rs.map fun r => D.lst (r.map prD)).length (ss.map fun r => D.lst (r.map prD)).length)) (ss.take (min (rs.map fun r => D.lst (r.map prD)).length (ss.map fun r => D.lst (r.map prD)).length)) = dots rs ss := by
      rw [List.length_map, List.length_map, h1.1, h2.1, Nat.min_self, List.take_of_length_le (by rw [h1.1]; exact Nat.le_refl _), List.take_of_length_le (by rw [h2.1]; exact Nat.le_refl _)]
    rw [e]
    walk_at "vks"
    exact hP _ p
/-! heaps -/
abbrev natL (ws : List Nat) : List D := ws.map fun (w : Nat) => D.int (w : Int)
theorem ixn {n j : Nat} (h : j < n) : ixN n (j : Int) = some j := by
  unfold ixN
  rw [if_pos (by omega), if_pos (by omega)]
  rfl
theorem at_nat {ds : List D} {j : Nat} {d : D} (h : ds[j]? = some d) : atI ds (j : Int) = some d := by
  have hj : j < ds.length := (List.getElem?_eq_some_iff.mp h).1
  unfold atI
  rw [ixn hj]
  exact h
theorem at_natL {ws : List Nat} {j : Nat} (h : j < ws.length) : atI (natL ws) (j : Int) = some (.int (ws[j] : Int)) := at_nat (by rw [List.getElem?_map, List.getElem?_eq_getElem h]; rfl)
theorem set_natL {ws : List Nat} {j v : Nat} : (natL ws).set j (.int (v : Int)) = natL (ws.set j v) := (List.map_set (f := fun (w : Nat) => D.int (w : Int))).symm
theorem sum_set {ws : List Nat} {j v : Nat} (h : j < ws.length) : (ws.set j v).sum + ws[j] = ws.sum + v := by
  induction ws generalizing j with
  | nil => cases h
  | cons w ws ih =>
    cases j with
    | zero => simp; omega
    | succ j =>
      have := ih (j := j) (by simpa using h)
      simp only [List.set_cons_succ, List.sum_cons, List.getElem_cons_succ]
      omega
theorem natL_int (ws : List Nat) : natL ws = (ws.map fun (w : Nat) => (w : Int)).map D.int := by rw [List.map_map]; rfl
theorem sum_cast (ws : List Nat) : (ws.map fun (w : Nat) => (w : Int)).sum = (ws.sum : Int) := by
  induction ws with
  | nil => rfl
  | cons w ws ih => rw [List.map_cons, List.sum_cons, List.sum_cons, ih]; omega
theorem le_sum : ∀ (ws : List Nat) (w : Nat), w ∈ ws → w ≤ ws.sum
  | v :: ws, w, h => by
    rw [List.sum_cons]
    rcases List.mem_cons.1 h with rfl | h
    · omega
    · have := le_sum ws w h
      omega
theorem sum_rep0 (n : Nat) : (List.replicate n 0).sum = 0 := by
  induction n with
  | zero => rfl
  | succ n ih => rw [List.replicate_succ, List.sum_cons, ih]
theorem bt4 {i : Int} (h : i.natAbs < 10000) : Bt 9000 i := Bt.mono (n := 14) (Nat.lt_of_lt_of_le h (by decide)) (by decide)
theorem natI {x : Int} (h : 0 ≤ x) : ∃ k : Nat, x = (k : Int) := Int.eq_ofNat_of_zero_le h
theorem pure_Lheap {T : Cfg} (hT : ShOk T) : ∀ E ds μ P XP, wl (c_Lheap T) ds μ P XP → SV T (t_Lheap T E) (fun cls dd _ H => E cls dd H) ⟨slots 8 ds, μ⟩ (fnK P XP) := by
  rintro E ds μ P XP ⟨a, b, rest, rfl, rfl, Pf, ⟨n, rfl, n1, n12, hb, k⟩, hP⟩
  unfold t_Lheap
  walk_at "vks"
  refine ⟨a, b, _, _, rfl, rfl, draw_i (by omega) (by decide) (bt4 (by decide)) fun way w0 w1 => ?_⟩
  walk_at "vks"
  refine ov_repM1 (by omega) fun p hp => ?_
  have hpa : p ≠ a := fun e => by rw [e, put_same] at hp; cases hp
  have hap : a ≠ p := fun e => hpa e.symm
  walk_at "vks"
  refine sv_forRg ?_
  walk_at "vks"
  obtain ⟨c, hc, hcm⟩ := atI_mem (ds := [D.int 1, .int 2, .int 3, .int 0]) w0 w1
  refine ov_ixL (.inl rfl) hc ?_
  have hc' : ∃ c' : Int, c = .int c' ∧ 0 ≤ c' ∧ c' ≤ 3 := by
    simp only [List.mem_cons, List.not_mem_nil, or_false] at hcm
    rcases hcm with rfl | rfl | rfl | rfl <;> exact ⟨_, rfl, by decide, by decide⟩
  obtain ⟨c', rfl, c0, c3⟩ := hc'
  walk_at "vks"
  let J : Nat → Mu → Prop := fun k μ => ∃ (b' : Nat) (ws : List Nat), μ a = some (.well b') ∧ μ p = some (.lst (natL ws)) ∧ ws.length = n ∧ ws.sum ≤ 9 * k ∧ b ≤ b' + 1 + 2 * k
  refine ⟨c', fun _ => [some (.ptr a), some (.int n), some (.int way), some (.ptr p), none, none, none, none], J, rfl, by omega, by omega, ⟨rfl, rfl, rfl, rfl, trivial⟩, ?_, ?_, ?_⟩
  · refine ⟨b - 1, List.replicate n 0, ?_, ?_, by simp, by rw [sum_rep0]; omega, by omega⟩
    · rw [put_ne hap, put_same]
    · rw [put_same]
      show _ = some (MO.lst ((List.replicate n 0).map fun (w : Nat) => D.int (w : Int)))
      rw [List.map_replicate]; rfl
  · rintro i μ hi ⟨b', ws, hw, hl, len, hs, hbb⟩
    walk_at "vks"
    refine ⟨a, b', _, _, rfl, (put_get hw).symm, draw_i (by omega) (by omega) (bt4 (by omega)) fun x x0 x1 => ?_⟩
    obtain ⟨j, rfl⟩ := natI x0
    have hj : j < ws.length := by omega
    generalize hm : put μ a (.well (b' - 1)) = μ1
    have hw1 : μ1 a = some (.well (b' - 1)) := by rw [← hm, put_same]
    have hl1 : μ1 p = some (.lst (natL ws)) := by rw [← hm, put_ne hpa]; exact hl
    walk_at "vks"
    refine sv_setL ?_
    walk_at "vks"
    refine ov_ixM hl1 (at_natL hj) ?_
    walk_at "vks"
    refine ⟨a, _, _, _, rfl, (put_get hw1).symm, draw_i (by omega) (by decide) (bt4 (by decide)) fun y y0 y1 => ?_⟩
    obtain ⟨v, rfl⟩ := natI y0
    generalize hm2 : put μ1 a (.well (b' - 1 - 1)) = μ2
    have hw2 : μ2 a = some (.well (b' - 1 - 1)) := by rw [← hm2, put_same]
    have hl2 : μ2 p = some (.lst (natL ws)) := by rw [← hm2, put_ne hpa]; exact hl1
    walk_at "vks"
    refine ⟨p, _, _, j, rfl, hl2, rfl, ixn (by rw [List.length_map]; exact hj), ?_⟩
    walk_at "vks"
    refine ⟨⟨rfl, rfl, rfl, rfl, trivial⟩, b' - 1 - 1, ws.set j (ws[j] + 1 + v), ?_, ?_, by simp [len], ?_, by omega⟩
    · show put μ2 p _ a = _
      rw [put_ne hap]; exact hw2
    · show put μ2 p _ p = _
      rw [put_same, ← set_natL]
      congr 3
    · have := sum_set (v := ws[j] + 1 + v) hj
      omega
  · rintro s' hs' ⟨b', ws, hw, hl, len, hs, hbb⟩
    refine seqK_wk hs' ?_
    obtain ⟨r', m'⟩ := s'
    dsimp only at hw hl ⊢
    have c9 : c'.toNat ≤ 3 := by omega
    -- the way with all drawn, or not
    have rest : ∀ (p' : Addr) (μ : Mu) (b' : Nat) (ws : List Nat), p' ≠ a → μ a = some (.well b') → μ p' = some (.lst (natL ws)) → ws.length = n → ws.sum ≤ 150 → b ≤ b' + 30 →
        SV T (tSeq (tIfS (tTest (tOp rEq (tCB (rSum T.K) (tCons (tVar 3) tNil)) (tC (.int 0)))) (tAsg (tC (.int 1)) (gSub (tVar 3) (tCall (spOf T (wl (c_Ldraw T))) [] E0 (tCons (tVar 0) (tCons (tVar 1) tNil))) rSetL)) tNext)
          (tRet (tLc (iList T.K (tVar 3)) (gName 6) tYes (tCall (spOf T (pu (c_Llow T))) [] E0 (tCons (tVar 6) (tCons (tCB (rSum T.K) (tCons (tVar 3) tNil)) tNil))) [6]))) (fun cls dd _ H => E cls dd H) ⟨[some (.ptr a), some (.int n), some (.int way), some (.ptr p'), none, none, none, none], μ⟩ (fnK P XP) := by
      intro p' μ b' ws hpa hw hl len hs hbb
      have fin : ∀ (μ : Mu) (b' : Nat) (ws : List Nat), μ a = some (.well b') → μ p' = some (.lst (natL ws)) → ws.length = n → 0 < ws.sum → ws.sum ≤ 200 → b ≤ b' + 40 →
          SV T (tRet (tLc (iList T.K (tVar 3)) (gName 6) tYes (tCall (spOf T (pu (c_Llow T))) [] E0 (tCons (tVar 6) (tCons (tCB (rSum T.K) (tCons (tVar 3) tNil)) tNil))) [6])) (fun cls dd _ H => E cls dd H) ⟨[some (.ptr a), some (.int n), some (.int way), some (.ptr p'), none, none, none, none], μ⟩ (fnK P XP) := by
        intro μ b' ws hw hl len h0 hs hbb
        refine sv_frz (i := 3) (a := p') rfl hl ?_
        have hwd : del μ p' a = some (.well b') := by
          unfold del
          rw [if_neg (fun e => hpa e.symm)]
          exact hw
        refine sv_ret (ev_wlo (a := a) ?_)
        refine ev_lcF ?_
        walk_at "vks"
        refine ⟨_, fun d => match d with
          | .int i => prD (Rat.divInt i (ws.sum : Int))
          | d => d, .inl rfl, by rw [List.length_map]; omega, fun e he => ?_, b', hwd, ?_⟩
        · obtain ⟨w, hw', rfl⟩ := List.mem_map.1 he
          walk_at "vks"
          refine cv_sum (ns := ws.map fun (w : Nat) => (w : Int)) (.inl (by rw [← natL_int])) ?_
          rw [sum_cast]
          walk_at "vks"
          exact low_i (by omega) (bt4 (by omega)) ⟨rfl, rfl⟩
        · rw [List.map_map]
          have e : ws.map ((fun d => match d with
              | .int i => prD (Rat.divInt i (ws.sum : Int))
              | d => d) ∘ fun (w : Nat) => D.int (w : Int)) = (ws.map fun (w : Nat) => Rat.divInt (w : Int) (ws.sum : Int)).map prD := by
            rw [List.map_map]
            exact List.map_congr_left fun w _ => rfl
          rw [e]
          exact hP _ _ (k ws b' len h0 hs (by omega))
      walk_at "vks"
      refine cv_sumM (ns := ws.map fun (w : Nat) => (w : Int)) (by rw [← natL_int]; exact hl) ?_
      rw [sum_cast]
      walk_at "vks"
      refine ⟨fun h0 => ?_, fun h0 => ?_⟩
      · walk_at "vks"
        refine sv_setL ?_
        walk_at "vks"
        refine ⟨a, b', _, _, rfl, (put_get hw).symm, draw_i (by omega) (by omega) (bt4 (by omega)) fun x x0 x1 => ?_⟩
        obtain ⟨j, rfl⟩ := natI x0
        have hj : j < ws.length := by omega
        refine ⟨p', _, _, j, rfl, by rw [put_ne hpa]; exact hl, rfl, ixn (by rw [List.length_map]; exact hj), ?_⟩
        have hz : ws.sum = 0 := by
          have := of_decide_eq_true h0
          omega
        have hset := sum_set (v := 1) hj
        refine seqK_nx (fin _ (b' - 1) (ws.set j 1) ?_ ?_ (by simp [len]) ?_ (by omega) (by omega))
        · rw [put_ne (fun e => hpa e.symm), put_same]
        · rw [put_same, ← set_natL]; rfl
        · have : ws[j] ≤ ws.sum := le_sum _ _ (List.getElem_mem hj)
          omega
      · have hz : ws.sum ≠ 0 := by
          intro e
          rw [e] at h0
          cases h0
        exact sv_next (seqK_nx (fin μ b' ws hw hl len (by omega) (by omega) (by omega)))
    walk_at "vks"
    refine ⟨fun h3 => ?_, fun h3 => ?_⟩
    · walk_at "vks"
      refine ev_lcM (is := [7]) (fun _ h => h) (iv_rng1 ?_)
      walk_at "vks"
      refine ⟨by omega, by omega, by omega, fun i acc μ => ∃ (b2 : Nat) (ws : List Nat), acc = natL ws ∧ ws.length = i ∧ ws.sum ≤ 12 * i ∧ μ a = some (.well b2) ∧ b' ≤ b2 + i, ⟨b', [], rfl, rfl, by simp, hw, by omega⟩, ?_, ?_⟩
      · rintro i acc μ hi _ ⟨b2, ws, rfl, len2, hs2, hw2, hb2⟩
        refine gv_name ?_
        walk_at "vks"
        refine ⟨a, b2, _, _, rfl, (put_get hw2).symm, draw_i (by omega) (by decide) (bt4 (by decide)) fun x x0 x1 => ?_⟩
        obtain ⟨j, rfl⟩ := natI x0
        refine ⟨b2 - 1, ws ++ [j], by simp, by simp [len2], by rw [List.sum_append]; simp; omega, put_same, by omega⟩
      · rintro acc μ p2 ⟨b2, ws, rfl, len2, hs2, hw2, hb2⟩ _ hp2
        have hpa2 : p2 ≠ a := fun e => by rw [e, hw2] at hp2; cases hp2
        refine seqK_nx (rest p2 _ b2 ws hpa2 ?_ put_same (by omega) (by omega) (by omega))
        rw [put_ne (fun e => hpa2 e.symm)]; exact hw2
    · exact sv_next (seqK_nx (rest p m' b' ws hpa hw hl len (by omega) (by omega)))
theorem rows_of {n : Nat} {R : Rat → Prop} {acc : List D} (h : ∀ (k : Nat) (x : D), acc[k]? = some x → ∃ q, x = prD q ∧ R q) : ∃ qs : List Rat, acc = qs.map prD ∧ ∀ q ∈ qs, R q := by
  induction acc with
  | nil => exact ⟨[], rfl, by simp⟩
  | cons x xs ih =>
    obtain ⟨q, e, hq⟩ := h 0 x rfl
    obtain ⟨qs, e2, h4⟩ := ih fun k y hy => h (k + 1) y hy
    refine ⟨q :: qs, by rw [e, e2]; rfl, fun p hp => ?_⟩
    rcases List.mem_cons.1 hp with rfl | hp
    · exact hq
    · exact h4 p hp
theorem rows2_of {R : List Rat → Prop} {acc : List D} (h : ∀ (k : Nat) (x : D), acc[k]? = some x → ∃ r : List Rat, x = .lst (r.map prD) ∧ R r) : ∃ rs : List (List Rat), acc = (rs.map fun r => D.lst (r.map prD)) ∧ ∀ r ∈ rs, R r := by
  induction acc with
  | nil => exact ⟨[], rfl, by simp⟩
  | cons x xs ih =>
    obtain ⟨q, e, hq⟩ := h 0 x rfl
    obtain ⟨qs, e2, h4⟩ := ih fun k y hy => h (k + 1) y hy
    refine ⟨q :: qs, by rw [e, e2]; rfl, fun p hp => ?_⟩
    rcases List.mem_cons.1 hp with rfl | hp
    · exact hq
    · exact h4 p hp
theorem pure_Lcosts {T : Cfg} (hT : ShOk T) : ∀ E ds μ P XP, wl (c_Lcosts T) ds μ P XP → SV T (t_Lcosts T E) (fun cls dd _ H => E cls dd H) ⟨slots 7 ds, μ⟩ (fnK P XP) := by
  rintro E ds μ P XP ⟨a, b, rest, rfl, rfl, Pf, ⟨n, m, rfl, n12, m12, hb, k⟩, hP⟩
  unfold t_Lcosts
  walk_at "vks"
  refine ⟨a, b, _, _, rfl, rfl, one_i (by omega) (by simp) (by simp) fun e he => ?_⟩
  have hm : ∃ t : Int, e = .int t ∧ 0 < t ∧ t ≤ 1000000000 := by
    simp only [List.mem_cons, List.not_mem_nil, or_false] at he
    rcases he with rfl | rfl | rfl | rfl <;> exact ⟨_, rfl, by decide, by decide⟩
  obtain ⟨t, rfl, t0, t1⟩ := hm
  walk_at "vks"
  refine ⟨a, _, _, _, rfl, rfl, one_i (by omega) (by simp) (by simp) fun e he => ?_⟩
  have hm : ∃ t : Int, e = .int t ∧ 0 < t ∧ t ≤ 12 := by
    simp only [List.mem_cons, List.not_mem_nil, or_false] at he
    rcases he with rfl | rfl | rfl <;> exact ⟨_, rfl, by decide, by decide⟩
  obtain ⟨u, rfl, u0, u1⟩ := hm
  walk_at "vks"
  refine ⟨a, _, _, _, rfl, rfl, draw_i (by omega) u0 (bt4 (by omega)) fun v v0 v1 => ?_⟩
  walk_at "vks"
  refine ev_lcW (iv_rng1 ?_)
  walk_at "vks"
  refine ⟨by omega, by omega, by omega, fun i μ => ∃ b', μ = put mu0 a (.well b') ∧ b ≤ b' + 3 + 12 * i, fun _ x => ∃ r : List Rat, x = .lst (r.map prD) ∧ r.length = m ∧ ∀ q ∈ r, Bq 32 q, ⟨_, rfl, by omega⟩, ?_, ?_⟩
  · rintro i μ hi ⟨b', rfl, hb'⟩
    have hi' : i < 12 := by omega
    refine ev_lcW (iv_rng1 ?_)
    walk_at "vks"
    refine ⟨by omega, by omega, by omega, fun j μ => ∃ b2, μ = put mu0 a (.well b2) ∧ b' ≤ b2 + j, fun _ x => ∃ q, x = prD q ∧ Bq 32 q, ⟨_, rfl, by omega⟩, ?_, ?_⟩
    · rintro j μ hj ⟨b2, rfl, hb2⟩
      have hj' : j < 12 := by omega
      walk_at "vks"
      refine ⟨a, _, _, _, rfl, rfl, draw_i (by omega) t0 (Bt.mono (n := 32) (show t.natAbs < 2 ^ 32 by omega) (by decide)) fun x x0 x1 => ?_⟩
      walk_at "vks"
      refine low_i (by omega) (bt4 (by omega)) ?_
      refine ⟨⟨_, rfl, FM.bq_divInt ?_ ?_ (by decide)⟩, _, rfl, by omega⟩
      · have : (2 : Nat) ^ 32 = 4294967296 := by decide
        rw [this]; omega
      · have : (2 : Nat) ^ 32 = 4294967296 := by decide
        rw [this]; omega
    · rintro acc μ hlen hR ⟨b2, rfl, hb2⟩
      obtain ⟨qs, rfl, hqs⟩ := rows_of (n := 0) hR
      refine ⟨⟨qs, rfl, by simpa using hlen, hqs⟩, b2, rfl, by omega⟩
  · rintro acc μ hlen hR ⟨b', rfl, hb'⟩
    obtain ⟨rs, rfl, hrs⟩ := rows2_of hR
    exact hP _ _ (k rs b' ⟨by simpa using hlen, hrs⟩ (by omega))
end Far

/-! ### steps of the pure walk -/
local macro_rules | `(tactic| walk_at "xw") => `(tactic| first
  | (with_reducible refine Pw.ev_op ?_)
  | ((with_reducible refine Pw.ev_var (d := ?d) ?h ?_); (case h => rfl))
  | (with_reducible refine Pw.ev_int ?_)
  | (with_reducible refine Pw.ev_bl ?_)
  | (with_reducible refine Pw.ev_str ?_)
  | (with_reducible refine Pw.ev_non ?_)
  | (with_reducible refine Pw.ev_ty ?_)
  | (with_reducible refine Pw.ev_ref ?_)
  | (with_reducible refine Pw.ev_cb ?_)
  | (with_reducible refine Pw.ev_un ?_)
  | (with_reducible refine Pw.ea_cons ?_)
  | (with_reducible refine Pw.ea_nil ?_)
  | (with_reducible refine Pw.ev_cal0 ?_)
  | (with_reducible refine Pw.ev_calN ?_)
  | (with_reducible refine Pw.ev_mak0 ?_)
  | (with_reducible refine Pw.ev_mak1 ?_)
  | (with_reducible refine Pw.ev_if ?_)
  | (with_reducible refine Pw.ev_and ?_)
  | (with_reducible refine Pw.ev_or ?_)
  | (with_reducible refine Pw.ev_not ?_)
  | (with_reducible refine Pw.tv_test ?_)
  | (with_reducible refine Pw.tv_B ?_)
  | (with_reducible refine Pw.tv_and ?_)
  | (with_reducible refine Pw.tv_or ?_)
  | (with_reducible refine Pw.tv_not ?_)
  | (with_reducible refine Pw.tv_yes ?_)
  | (with_reducible refine Pw.po_no ?_)
  | (with_reducible refine Pw.po_so ?_)
  | (with_reducible refine Pw.sv_seq ?_)
  | (with_reducible refine Pw.sv_asg ?_)
  | (with_reducible refine Pw.sv_ret ?_)
  | (with_reducible refine Pw.sv_if ?_)
  | (with_reducible refine Pw.sv_par ?_)
  | (with_reducible refine Pw.sv_next ?_)
  | (with_reducible refine Pw.sv_app ?_)
  | (with_reducible refine Pw.sv_drop ?_)
  | (with_reducible refine Pw.sv_fld ?_)
  | (with_reducible refine Pw.ov_add ?_)
  | (with_reducible refine Pw.ov_sub ?_)
  | (with_reducible refine Pw.ov_lt ?_)
  | (with_reducible refine Pw.ov_le ?_)
  | (with_reducible refine Pw.ov_gt ?_)
  | (with_reducible refine Pw.ov_ge ?_)
  | (with_reducible refine Pw.ov_eqI ?_)
  | (with_reducible refine Pw.ov_neI ?_)
  | (with_reducible refine Pw.ov_eqS ?_)
  | (with_reducible refine Pw.ov_neS ?_)
  | (with_reducible refine Pw.ov_eqB ?_)
  | (with_reducible refine Pw.ov_neB ?_)
  | (with_reducible refine Pw.cv_abs ?_)
  | ((with_reducible refine Pw.ov_ixT (e := ?e) ?h ?_); (case h => rfl))
  | ((with_reducible refine Pw.ov_ixM (ds := ?ds) (e := ?e) ?hm ?h ?_); (case hm => exact Pw.put_same); (case h => rfl))
  | ((with_reducible refine Pw.ov_pow ?h ?_); (case h => exact ⟨by decide, by decide, by decide⟩))
  | ((with_reducible refine Pw.ov_mod ?h ?_); (case h => decide))
  | (with_reducible refine Pw.ev_tup ?_)
  | ((with_reducible refine And.intro (show _ ≤ 100000 from ?hl) ?_); (case hl => (simp; done)))
  | (with_reducible refine Pw.cv_intB ?_)
  | (with_reducible refine Pw.uv_neg ?_)
  | (with_reducible refine Pw.seqK_nx ?_)
  | (with_reducible refine Pw.seqK_rt ?_)
  | (with_reducible refine Pw.seqK_xr ?_)
  | (with_reducible refine Pw.seqK_ct ?_)
  | (with_reducible refine Pw.seqK_bk ?_)
  | (with_reducible refine Pw.whK_rt ?_)
  | (with_reducible refine Pw.whK_xr ?_)
  | (with_reducible refine Pw.whK_bk ?_)
  | (with_reducible refine Pw.forK_nx ?_)
  | (with_reducible refine Pw.forK_ct ?_)
  | (with_reducible refine Pw.forK_rt ?_)
  | (with_reducible refine Pw.forK_xr ?_)
  | (with_reducible refine Pw.forK_bk ?_)
  | (with_reducible refine Pw.fnK_rt ?_)
  | (with_reducible refine Pw.fnK_nx ?_)
  | (with_reducible refine Pw.fnK_xr ?_))
local macro_rules | `(tactic| walk_at "xl") => `(tactic| first
  | walk_at "xw"
  | (with_reducible refine Pw.ev_lst ?_))
local macro_rules | `(tactic| walk_at "xls") => `(tactic| repeat (walk_at "xl"))
local macro_rules | `(tactic| walk_at "xws") => `(tactic| repeat (walk_at "xw"))
local macro_rules | `(tactic| walk_at "xk") => `(tactic| first
  | ((with_reducible refine Far.ev_mkS0 ?hT ?_); (case hT => assumption))
  | ((with_reducible refine Far.ev_mkS1 ?hT ?_); (case hT => assumption))
  | walk_at "xl"
  | (with_reducible refine Pw.ex_bl ?_)
  | (with_reducible refine Pw.b_tt ?_)
  | (with_reducible refine Pw.b_ff ?_)
  | (with_reducible refine Pw.b_tt' ?_)
  | (with_reducible refine Pw.b_ff' ?_)
  | (with_reducible refine Pw.b_nt ?_)
  | (with_reducible refine Pw.b_nf ?_)
  | (with_reducible refine Pw.b_nt' ?_)
  | (with_reducible refine Pw.b_nf' ?_)
  | (with_reducible refine Pw.b_d ?_)
  | (with_reducible refine Pw.b_d' ?_)
  | (with_reducible refine Pw.b_dn ?_)
  | (with_reducible refine Pw.b_dn' ?_)
  | (with_reducible refine Pw.ex_2 ?_)
  | ((with_reducible refine Far.ev_top ?hT ?_); (case hT => assumption))
  | ((with_reducible refine Far.ev_bot ?hT ?_); (case hT => assumption))
  | (with_reducible refine Far.ex_sh ?_)
  | ((with_reducible refine Far.isi_sh ?hT ?_); (case hT => assumption))
  | (with_reducible refine Far.isi_ib ?_)
  | (with_reducible refine Far.isi_ii ?_)
  | (with_reducible refine Pw.ov_eq2 ?_)
  | (with_reducible refine Pw.ov_ne2 ?_)
  | (with_reducible refine Far.ov_eqP ?_)
  | (with_reducible refine Far.ov_neP ?_)
  | (with_reducible refine Far.ex_ii ?_)
  | (with_reducible refine Far.ex_i ?_)
  | (with_reducible refine Far.ev_wellN ?_)
  | ((with_reducible refine Far.ov_shEq ?hT ?_); (case hT => assumption))
  | ((with_reducible refine Far.ov_shNe ?hT ?_); (case hT => assumption))
  | (with_reducible refine Pw.sv_asg2 ?_)
  | (with_reducible refine Pw.sv_asg3 ?_)
  | (with_reducible refine Pw.tryK_nx ?_)
  | (with_reducible refine Pw.tryK_rt ?_)
  | (with_reducible refine Pw.unK_rt ?_)
  | (with_reducible refine Pw.unK_nx ?_)
  | (with_reducible refine Pw.ex_t2 ?_)
  | (with_reducible refine Pw.ex_t3 ?_))
local macro_rules | `(tactic| walk_at "xks") => `(tactic| repeat (walk_at "xk"))
local macro_rules | `(tactic| walk_at "le") => `(tactic| (repeat (first | exact trivial | refine And.intro rfl ?_)))
local macro_rules | `(tactic| walk_at "po") => `(tactic| first
  | walk_at "xk"
  | ((with_reducible refine Far.plus_s ?h ?_); (case h => decide))
  | ((with_reducible refine Far.minus_s ?h ?_); (case h => decide))
  | ((with_reducible refine Far.times_s ?h ?_); (case h => decide))
  | ((with_reducible refine Far.less_s ?h ?_); (case h => decide)))
local macro_rules | `(tactic| walk_at "pos") => `(tactic| repeat (walk_at "po"))
local macro_rules | `(tactic| walk_at "gn") => `(tactic| first
  | ((refine Far.bN' ?h ?_); (case h => grind))
  | ((refine Far.bN ?h ?_); (case h => grind)))
namespace Far
open PySem PySem.Spec PyProof.Rows L2 Pw
open FM (Bq)
/-! ### a plan, places filled in a drawn order -/
def frq (N h : Nat) : Rat := Rat.divInt (h : Int) (N : Int)
abbrev frL (N : Nat) (r : List Nat) : List D := (r.map (frq N)).map prD
theorem frq_lt {N a b : Nat} (hN : 0 < N) : frq N a < frq N b ↔ a < b := by
  unfold frq
  rw [Rat.divInt_eq_div, Rat.divInt_eq_div]
  have hp : (0 : Rat) < ((N : Int) : Rat) := by
    have : ((0 : Int) : Rat) < ((N : Int) : Rat) := Rat.intCast_lt_intCast.mpr (by omega)
    exact this
  rw [Rat.div_lt_iff hp]
  have e : ((b : Int) : Rat) / ((N : Int) : Rat) * ((N : Int) : Rat) = ((b : Int) : Rat) := by grind
  rw [e, Rat.intCast_lt_intCast]
  omega
theorem frq_sub {N a b : Nat} (hN : 0 < N) (h : b ≤ a) : frq N a - frq N b = frq N (a - b) := by
  unfold frq
  rw [Rat.divInt_eq_div, Rat.divInt_eq_div, Rat.divInt_eq_div]
  have e : (((a - b : Nat) : Int) : Rat) = ((a : Int) : Rat) - ((b : Int) : Rat) := by
    rw [← Rat.intCast_sub]
    congr 1
    omega
  rw [e]
  grind
theorem frq_bq {N a : Nat} (hN : N < 65536) (h : a ≤ N) : Bq 16 (frq N a) := FM.bq_divInt (by simp; omega) (by simp; omega) (by decide)
theorem frq_0 {N : Nat} : frq N 0 = 0 := by unfold frq; simp
structure FS where
  hr : List Nat
  wr : List Nat
  rows : List (List Nat)
  sp : List (Nat × Nat)
def FS.amt (s : FS) (x y : Nat) : Nat := min (s.hr.getD x 0) (s.wr.getD y 0)
def FS.step (s : FS) (k x y : Nat) : FS := ⟨s.hr.set x (s.hr.getD x 0 - s.amt x y), s.wr.set y (s.wr.getD y 0 - s.amt x y), s.rows.set x ((s.rows.getD x []).set y (s.amt x y)), s.sp.eraseIdx k⟩
inductive FS.To (s : FS) : FS → Prop
  | refl : FS.To s s
  | step {t : FS} {k x y : Nat} (h : FS.To s t) (hk : t.sp[k]? = some (x, y)) : FS.To s (t.step k x y)
def grid (n m : Nat) : List (Nat × Nat) := (List.range n).flatMap fun x => (List.range m).map fun y => (x, y)
def FS.start (hs ws : List Nat) : FS := ⟨hs, ws, List.replicate hs.length (List.replicate ws.length 0), grid hs.length ws.length⟩
structure FS.Wk (n m N : Nat) (s : FS) : Prop where
  lh : s.hr.length = n
  lw : s.wr.length = m
  bh : ∀ h ∈ s.hr, h ≤ N
  bw : ∀ h ∈ s.wr, h ≤ N
  lr : s.rows.length = n
  br : ∀ r ∈ s.rows, r.length = m ∧ ∀ h ∈ r, h ≤ N
  bs : ∀ z ∈ s.sp, z.1 < n ∧ z.2 < m
theorem mem_setD {α : Type} {l : List α} {i : Nat} {v x : α} (h : x ∈ l.set i v) : x = v ∨ x ∈ l := by
  rcases List.mem_or_eq_of_mem_set h with h | h
  · exact .inr h
  · exact .inl h
theorem getD_mem {l : List Nat} {i : Nat} (h : i < l.length) : l.getD i 0 ∈ l := by
  rw [List.getD_eq_getElem?_getD, List.getElem?_eq_getElem h]
  exact List.getElem_mem h
theorem FS.Wk.step {n m N : Nat} {s : FS} (h : s.Wk n m N) {k x y : Nat} (hk : s.sp[k]? = some (x, y)) : (s.step k x y).Wk n m N := by
  have hxy := h.bs _ (List.mem_of_getElem? hk)
  have hx : x < n := hxy.1
  have hy : y < m := hxy.2
  have h1 : s.hr.getD x 0 ≤ N := h.bh _ (getD_mem (by rw [h.lh]; exact hx))
  have h2 : s.wr.getD y 0 ≤ N := h.bw _ (getD_mem (by rw [h.lw]; exact hy))
  have ha : s.amt x y ≤ N := by unfold FS.amt; omega
  refine ⟨by simp [FS.step, h.lh], by simp [FS.step, h.lw], fun z hz => ?_, fun z hz => ?_, by simp [FS.step, h.lr], fun r hr => ?_, fun z hz => ?_⟩
  · rcases mem_setD hz with e | e
    · omega
    · exact h.bh z e
  · rcases mem_setD hz with e | e
    · omega
    · exact h.bw z e
  · rcases mem_setD hr with e | e
    · have hr0 : s.rows.getD x [] ∈ s.rows := by
        rw [List.getD_eq_getElem?_getD, List.getElem?_eq_getElem (by rw [h.lr]; exact hx)]
        exact List.getElem_mem _
      have := h.br _ hr0
      subst e
      refine ⟨by rw [List.length_set]; exact this.1, fun z hz => ?_⟩
      rcases mem_setD hz with e | e
      · omega
      · exact this.2 z e
    · exact h.br r e
  · exact h.bs z (List.mem_of_mem_eraseIdx hz)
theorem FS.To.wk {n m N : Nat} {s t : FS} (h : s.Wk n m N) (k : s.To t) : t.Wk n m N := by
  induction k with
  | refl => exact h
  | step _ hk ih => exact ih.step hk
theorem FS.To.len {s t : FS} (k : s.To t) : t.sp.length ≤ s.sp.length := by
  induction k with
  | refl => exact Nat.le_refl _
  | @step t k x y _ hk ih =>
    have : (t.sp.eraseIdx k).length ≤ t.sp.length := List.length_eraseIdx_le _ _
    exact Nat.le_trans this ih
theorem grid_mem {n m : Nat} {z : Nat × Nat} (h : z ∈ grid n m) : z.1 < n ∧ z.2 < m := by
  unfold grid at h
  rw [List.mem_flatMap] at h
  obtain ⟨x, hx, h⟩ := h
  rw [List.mem_map] at h
  obtain ⟨y, hy, rfl⟩ := h
  exact ⟨List.mem_range.mp hx, List.mem_range.mp hy⟩
theorem grid_succ (n m : Nat) : grid (n + 1) m = grid n m ++ (List.range m).map fun y => (n, y) := by
  unfold grid
  rw [List.range_succ, List.flatMap_append]
  simp
theorem grid_len (n m : Nat) : (grid n m).length = n * m := by
  induction n with
  | zero => simp [grid]
  | succ n ih => rw [grid_succ, List.length_append, ih, List.length_map, List.length_range, Nat.succ_mul]
theorem start_wk {hs ws : List Nat} {N : Nat} (h1 : ∀ h ∈ hs, h ≤ N) (h2 : ∀ h ∈ ws, h ≤ N) : (FS.start hs ws).Wk hs.length ws.length N :=
  ⟨rfl, rfl, h1, h2, by simp [FS.start], fun r hr => by
    have := List.eq_of_mem_replicate hr
    subst this
    refine ⟨by simp, fun h hh => ?_⟩
    have := List.eq_of_mem_replicate hh
    omega, fun z hz => grid_mem hz⟩
def c_Lfilled (T : Cfg) : Nat → List D → (D → Nat → Prop) → Prop := fun b rest P => ∃ (N : Nat) (hs ws : List Nat), rest = [.lst (frL N hs), .lst (frL N ws)] ∧ 0 < N ∧ N < 65536 ∧ (∀ h ∈ hs, h ≤ N) ∧ (∀ h ∈ ws, h ≤ N) ∧ hs.length ≤ 12 ∧ ws.length ≤ 12 ∧ 200 ≤ b ∧
  ∀ (t : FS) (b' : Nat), (FS.start hs ws).To t → t.sp = [] → b ≤ b' + 200 → P (prR (t.rows.map fun r => r.map (frq N))) b'
theorem len_Lfilled {T : Cfg} : ∀ ds μ P XP, wl (c_Lfilled T) ds μ P XP → ds.length = 3 := by
  rintro ds μ P XP ⟨a, b, rest, rfl, rfl, Pf, ⟨n, h, w, rfl, _⟩, _⟩; rfl
def t_Lfilled (T : Cfg) (E : XK) : TS := (tSeq (tPar 6 7 (tCons (tCB (rListOf T.K) (tCons (tVar 1) tNil)) (tCons (tCB (rListOf T.K) (tCons (tVar 2) tNil)) tNil)))
    (tSeq (tAsg (tLc (iList T.K (tVar 1)) (gName 9) tYes (tOp rRep (tLst (tCons (tTup (tCons (tC (.int 0)) (tCons (tC (.int 1)) tNil))) tNil)) (tCB (Pw.rLen T.K) (tCons (tVar 2) tNil))) [9]) (gName 3))
    (tSeq (tAsg (tLst tNil) (gName 4))
    (tSeq (tFor (iRng1 (tCons (tCB (Pw.rLen T.K) (tCons (tVar 1) tNil)) tNil)) (gName 5) (tDrop (tBM T.K "list" rExtend (tVar 4) (tCons (tLc (iRng1 (tCons (tCB (Pw.rLen T.K) (tCons (tVar 2) tNil)) tNil)) (gName 10) tYes (tTup (tCons (tVar 5) (tCons (tVar 10) tNil))) [10]) tNil))))
    (tSeq (tWhile (tTest (tOp (rNeD T.K) (tVar 4) (tLst tNil))) (tSeq (tAsg (tBM T.K "list" rPopAt (tVar 4) (tCons (tCall (spOf T (wl (c_Ldraw T))) [] E0 (tCons (tVar 0) (tCons (tCB (Pw.rLen T.K) (tCons (tVar 4) tNil)) tNil))) tNil)) (gTup T.K 2 (gCons (gName 5) (gCons (gName 10) gNil))))
    (tSeq (tAsg (tIf (tB (tCall (spOf T (pu (c_Lbelow T))) [] E0 (tCons (tOp (rIxL T.K) (tVar 7) (tVar 10)) (tCons (tOp (rIxL T.K) (tVar 6) (tVar 5)) tNil)))) (tOp (rIxL T.K) (tVar 7) (tVar 10)) (tOp (rIxL T.K) (tVar 6) (tVar 5))) (gName 8))
    (tSeq (tAsg (tVar 8) (gSub (tOp (rIxL T.K) (tVar 3) (tVar 5)) (tVar 10) rSetL))
    (tSeq (tAsg (tCall (spOf T (pu (c_Ladded T))) [] E0 (tCons (tOp (rIxL T.K) (tVar 6) (tVar 5)) (tCons (tTup (tCons (tOp (rI0 fun i j => .int (i - j)) (tC (.int 0)) (tOp (rIxT T.K) (tVar 8) (tC (.int 0)))) (tCons (tOp (rIxT T.K) (tVar 8) (tC (.int 1))) tNil))) tNil))) (gSub (tVar 6) (tVar 5) rSetL))
    (tAsg (tCall (spOf T (pu (c_Ladded T))) [] E0 (tCons (tOp (rIxL T.K) (tVar 7) (tVar 10)) (tCons (tTup (tCons (tOp (rI0 fun i j => .int (i - j)) (tC (.int 0)) (tOp (rIxT T.K) (tVar 8) (tC (.int 0)))) (tCons (tOp (rIxT T.K) (tVar 8) (tC (.int 1))) tNil))) tNil))) (gSub (tVar 7) (tVar 10) rSetL)))))))
    (tRet (tVar 3)))))))
def spD (z : Nat × Nat) : D := .tup [.int (z.1 : Nat), .int (z.2 : Nat)]
theorem map_erase {α β : Type} (f : α → β) : ∀ (l : List α) (k : Nat), (l.map f).eraseIdx k = (l.eraseIdx k).map f
  | [], k => by simp
  | a :: l, 0 => by simp
  | a :: l, k + 1 => by simp [map_erase f l k]
theorem acc_map {acc : List D} {m : Nat} {g : Nat → D} (hl : acc.length = m) (h : ∀ (k : Nat) (x : D), acc[k]? = some x → x = g k) : acc = (List.range m).map g := by
  refine List.ext_getElem? fun i => ?_
  rw [List.getElem?_map]
  by_cases hi : i < m
  · rw [List.getElem?_range hi, List.getElem?_eq_getElem (by omega)]
    exact congrArg some (h i _ (List.getElem?_eq_getElem (by omega)))
  · rw [List.getElem?_eq_none (by omega), List.getElem?_eq_none (by simp; omega)]
    rfl
theorem fr_get {N : Nat} {r : List Nat} {j : Nat} (h : j < r.length) : (frL N r)[j]? = some (prD (frq N (r.getD j 0))) := by
  rw [List.getElem?_map, List.getElem?_map, List.getD_eq_getElem?_getD, List.getElem?_eq_getElem h]
  rfl
theorem fr_set {N : Nat} {r : List Nat} {j v : Nat} : (frL N r).set j (prD (frq N v)) = frL N (r.set j v) := by
  show ((r.map (frq N)).map prD).set j (prD (frq N v)) = ((r.set j v).map (frq N)).map prD
  rw [List.map_set, List.map_set]
section
variable {T : Cfg} {μ : Mu} {P : D → Mu → Prop}
theorem ov_ixP0 {q : Rat} (p : P (.int q.num) μ) : OV T (rIxT T.K) (prD q) (.int 0) μ P := ov_ixT (ds := [.int q.num, .int (q.den : Int)]) rfl p
theorem ov_ixP1 {q : Rat} (p : P (.int (q.den : Int)) μ) : OV T (rIxT T.K) (prD q) (.int 1) μ P := ov_ixT (ds := [.int q.num, .int (q.den : Int)]) rfl p
end
theorem pure_Lfilled {T : Cfg} (hT : ShOk T) : ∀ E ds μ P XP, wl (c_Lfilled T) ds μ P XP → SV T (t_Lfilled T E) (fun cls dd _ H => E cls dd H) ⟨slots 11 ds, μ⟩ (fnK P XP) := by
  rintro E ds μ P XP ⟨a, b, rest, rfl, rfl, Pf, ⟨N, hs, ws, rfl, N0, N1, bh, bw, lh, lw, hb, k⟩, hP⟩
  have wk0 := start_wk bh bw
  unfold t_Lfilled
  walk_at "xks"
  refine cv_lstC (.inl (.inl rfl)) fun hA hhA => ?_
  have nha : hA ≠ a := fun e => by rw [e, put_same] at hhA; cases hhA
  walk_at "xks"
  refine cv_lstC (.inl (.inl rfl)) fun wA hwA => ?_
  have nwh : wA ≠ hA := fun e => by rw [e, put_same] at hwA; cases hwA
  have nwa : wA ≠ a := fun e => by rw [e, put_ne (fun z => nha z.symm), put_same] at hwA; cases hwA
  walk_at "xks"
  refine ev_lc (is := [9]) (fun _ h => h) (iv_list ?_)
  walk_at "xks"
  let K0 : Mu → Prop := fun μ => μ a = some (.well b) ∧ μ hA = some (.lst (frL N hs)) ∧ μ wA = some (.lst (frL N ws))
  let D0 : Addr → Prop := fun p => p ≠ a ∧ p ≠ hA ∧ p ≠ wA
  refine ⟨_, .inl rfl, by rw [List.length_map, List.length_map]; omega, fun i acc μ => ∃ pp : List Addr, acc = pp.map D.ptr ∧ pp.length = i ∧ pp.Nodup ∧ K0 μ ∧ (∀ p ∈ pp, D0 p) ∧ ∀ p ∈ pp, μ p = some (.lst (frL N (List.replicate ws.length 0))), ⟨[], rfl, rfl, List.nodup_nil, ⟨?_, ?_, put_same⟩, by simp, by simp⟩, ?_, ?_⟩
  · rw [put_ne (fun z => nwa z.symm), put_ne (fun z => nha z.symm), put_same]
  · rw [put_ne (fun z => nwh z.symm), put_same]
  · rintro i acc μ hi _ ⟨pp, rfl, hl, nd, ⟨k1, k2, k3⟩, hd, hp⟩
    refine gv_name ?_
    walk_at "xks"
    refine cv_len (.inl rfl) ?_
    rw [List.length_map, List.length_map]
    refine ov_repM1 (by omega) fun p hpn => ?_
    have e1 : p ≠ a := fun e => by rw [e, k1] at hpn; cases hpn
    have e2 : p ≠ hA := fun e => by rw [e, k2] at hpn; cases hpn
    have e3 : p ≠ wA := fun e => by rw [e, k3] at hpn; cases hpn
    have e4 : ∀ q ∈ pp, q ≠ p := fun q hq e => by
      have := hp q hq
      rw [e, hpn] at this; cases this
    refine ⟨pp ++ [p], by simp, by simp [hl], ?_, ⟨?_, ?_, ?_⟩, fun q hq => ?_, fun q hq => ?_⟩
    · rw [List.nodup_append]
      exact ⟨nd, by simp, fun x hx y hy => by
        have hy' : y = p := by simpa using hy
        rw [hy']; exact e4 x hx⟩
    · rw [put_ne (fun z => e1 z.symm)]; exact k1
    · rw [put_ne (fun z => e2 z.symm)]; exact k2
    · rw [put_ne (fun z => e3 z.symm)]; exact k3
    · rcases List.mem_append.1 hq with h | h
      · exact hd q h
      · have : q = p := by simpa using h
        rw [this]; exact ⟨e1, e2, e3⟩
    · rcases List.mem_append.1 hq with h | h
      · rw [put_ne (e4 q h)]; exact hp q h
      · have : q = p := by simpa using h
        rw [this, put_same]
        congr 2
        show _ = ((List.replicate ws.length 0).map (frq N)).map prD
        rw [List.map_replicate, List.map_replicate, frq_0]
        rfl
  rintro acc μ ⟨pp, rfl, hl, nd, ⟨k1, k2, k3⟩, hd, hp⟩
  have hl : pp.length = hs.length := by simpa using hl
  walk_at "xws"
  refine ev_lstM ?_
  walk_at "xws"
  refine fun sA hsA => ?_
  have es1 : sA ≠ a := fun e => by rw [e, k1] at hsA; cases hsA
  have es2 : sA ≠ hA := fun e => by rw [e, k2] at hsA; cases hsA
  have es3 : sA ≠ wA := fun e => by rw [e, k3] at hsA; cases hsA
  have es4 : ∀ q ∈ pp, q ≠ sA := fun q hq e => by
    have := hp q hq
    rw [e, hsA] at this; cases this
  walk_at "xws"
  refine sv_forRg ?_
  walk_at "xks"
  refine cv_len (.inl rfl) ?_
  rw [List.length_map, List.length_map]
  walk_at "xks"
  let ρ0 : List (Option D) := [some (.ptr a), some (.lst (frL N hs)), some (.lst (frL N ws)), some (.lst (pp.map D.ptr)), some (.ptr sA), none, some (.ptr hA), some (.ptr wA), none, none, none]
  refine ⟨_, fun _ => ρ0, fun i μ' => (∀ q, q ≠ sA → μ' q = μ q) ∧ μ' sA = some (.lst ((grid i ws.length).map spD)), rfl, by omega, by omega, ⟨rfl, rfl, rfl, rfl, rfl, rfl, rfl, trivial⟩, ⟨fun q hq => put_ne hq, put_same⟩, ?_, ?_⟩
  · rintro i μ' hi ⟨hk, hsp⟩
    have hi' : i < hs.length := by omega
    refine sv_ext ?_
    walk_at "xks"
    refine ⟨sA, _, rfl, hsp, ?_⟩
    refine ev_lcW (iv_rng1 ?_)
    walk_at "xks"
    refine cv_len (.inl rfl) ?_
    rw [List.length_map, List.length_map]
    walk_at "xks"
    refine ⟨by omega, by omega, by omega, fun _ μ2 => μ2 = μ', fun k x => x = spD (i, k), rfl, ?_, ?_⟩
    · rintro k μ2 hk2 rfl
      walk_at "xks"
      refine ⟨?_, rfl⟩
      show D.tup [.int (i : Int), .int (0 + (k : Nat))] = _
      rw [Int.zero_add]
      rfl
    · rintro acc μ2 hlen hR rfl
      have hlen : acc.length = ws.length := by simpa using hlen
      have e := acc_map (g := fun k => spD (i, k)) hlen hR
      have hg := grid_len i ws.length
      have hg2 : i * ws.length ≤ 12 * 12 := Nat.mul_le_mul (by omega) lw
      refine ⟨_, acc, rfl, hsp, by rw [List.length_map]; omega, ?_⟩
      walk_at "xks"
      refine ⟨⟨rfl, rfl, rfl, rfl, rfl, rfl, rfl, trivial⟩, fun q hq => by show put μ2 sA _ q = _; rw [put_ne hq]; exact hk q hq, ?_⟩
      show put μ2 sA _ sA = _
      rw [put_same, e, grid_succ, List.map_append, List.map_map]
      rfl
  rintro s' hs' ⟨hk, hsp⟩
  refine seqK_wk hs' ?_
  obtain ⟨r', m'⟩ := s'
  dsimp only at hk hsp ⊢
  rw [Int.toNat_natCast] at hsp
  refine sv_seq (sv_while (fun n s => leR ρ0 s.r ∧ ∃ (t : FS) (b' : Nat), (FS.start hs ws).To t ∧ n = t.sp.length ∧ s.m a = some (.well b') ∧ s.m hA = some (.lst (frL N t.hr)) ∧ s.m wA = some (.lst (frL N t.wr)) ∧ s.m sA = some (.lst (t.sp.map spD)) ∧
    (∀ (i : Nat) (p : Addr), pp[i]? = some p → s.m p = some (.lst (frL N (t.rows.getD i [])))) ∧ b + t.sp.length ≤ b' + 144) (grid hs.length ws.length).length ⟨leR.refl, FS.start hs ws, b, .refl, rfl, ?_, ?_, ?_, hsp, fun i p hip => ?_, ?_⟩ ?_)
  · show m' a = _
    rw [hk a (fun z => es1 z.symm)]; exact k1
  · show m' hA = _
    rw [hk hA (fun z => es2 z.symm)]; exact k2
  · show m' wA = _
    rw [hk wA (fun z => es3 z.symm)]; exact k3
  · have hm := List.mem_of_getElem? hip
    have hi : i < pp.length := (List.getElem?_eq_some_iff.mp hip).1
    show m' p = _
    rw [hk p (es4 p hm), hp p hm]
    congr 3
    show _ = (List.replicate hs.length (List.replicate ws.length 0)).getD i []
    rw [List.getD_eq_getElem?_getD, List.getElem?_replicate, if_pos (by omega)]
    rfl
  · show b + (grid hs.length ws.length).length ≤ b + 144
    rw [grid_len]
    have := Nat.mul_le_mul lh lw
    omega
  rintro n s ⟨hr, t, b', ht, rfl, kw, kh, kW, ks, kp, kb⟩
  have wk := ht.wk wk0
  refine tv_wkR hr ?_
  obtain ⟨sr, sm⟩ := s
  dsimp only at hr kw kh kW ks kp ⊢
  walk_at "xks"
  refine ov_neNilM ks (fun d hd => ?_) ?_
  · obtain ⟨z, _, rfl⟩ := List.mem_map.1 hd
    exact ⟨_, pln_2 _ _⟩
  rw [List.length_map]
  walk_at "xks"
  refine ⟨fun h0 => ?_, fun h0 => ?_⟩
  · have hne : t.sp.length ≠ 0 := by
      intro e
      rw [e] at h0
      cases h0
    have hle : t.sp.length ≤ 144 := by
      have h1 := ht.len
      have h2 : (FS.start hs ws).sp.length = hs.length * ws.length := grid_len _ _
      have := Nat.mul_le_mul lh lw
      omega
    refine sv_wkR (s := ⟨sr, sm⟩) hr ?_
    dsimp only
    walk_at "xws"
    refine sv_asg2 (ev_popAt ?_)
    walk_at "xks"
    refine ⟨sA, _, rfl, ks, ?_⟩
    walk_at "xks"
    refine cv_lenM ks ?_
    rw [List.length_map]
    walk_at "xks"
    refine ⟨a, b', _, _, rfl, (put_get kw).symm, draw_i (by omega) (by omega) (bt4 (by omega)) fun x x0 x1 => ?_⟩
    obtain ⟨kk, rfl⟩ := natI x0
    have hkk : kk < t.sp.length := by omega
    obtain ⟨⟨zx, zy⟩, hz⟩ : ∃ z, t.sp[kk] = z := ⟨_, rfl⟩
    have hsk : t.sp[kk]? = some (zx, zy) := by rw [List.getElem?_eq_getElem hkk, hz]
    have hxy := wk.bs _ (List.mem_of_getElem? hsk)
    have hx : zx < hs.length := hxy.1
    have hy : zy < ws.length := hxy.2
    refine ⟨kk, _, spD (zx, zy), rfl, by rw [put_ne es1]; exact ks, by rw [List.length_map]; omega, by rw [List.getElem?_map, hsk]; rfl, ?_⟩
    refine ⟨_, _, rfl, ?_⟩
    generalize hm1 : put (put sm a (.well (b' - 1))) sA (.lst ((t.sp.map spD).eraseIdx kk)) = m1
    have a1 : m1 a = some (.well (b' - 1)) := by rw [← hm1, put_ne (fun z => es1 z.symm), put_same]
    have a2 : m1 hA = some (.lst (frL N t.hr)) := by rw [← hm1, put_ne (fun z => es2 z.symm), put_ne nha]; exact kh
    have a3 : m1 wA = some (.lst (frL N t.wr)) := by rw [← hm1, put_ne (fun z => es3 z.symm), put_ne nwa]; exact kW
    have a4 : m1 sA = some (.lst ((t.sp.eraseIdx kk).map spD)) := by rw [← hm1, put_same, map_erase]
    have a5 : ∀ (i : Nat) (p : Addr), pp[i]? = some p → m1 p = some (.lst (frL N (t.rows.getD i []))) := fun i p hip => by
      have hm := List.mem_of_getElem? hip
      rw [← hm1, put_ne (es4 p hm), put_ne (hd p hm).1]
      exact kp i p hip
    clear hm1
    have gh : (frL N t.hr)[zx]? = some (prD (frq N (t.hr.getD zx 0))) := fr_get (by rw [wk.lh]; exact hx)
    have gw : (frL N t.wr)[zy]? = some (prD (frq N (t.wr.getD zy 0))) := fr_get (by rw [wk.lw]; exact hy)
    have hh1 : t.hr.getD zx 0 ≤ N := wk.bh _ (getD_mem (by rw [wk.lh]; exact hx))
    have hw1 : t.wr.getD zy 0 ≤ N := wk.bw _ (getD_mem (by rw [wk.lw]; exact hy))
    generalize hhx : t.hr.getD zx 0 = H at *
    generalize hwy : t.wr.getD zy 0 = Wn at *
    walk_at "xw"
    refine sv_seq (sv_asg (ev_ifR (μ' := m1) (R := fun d => d = prD (frq N (min H Wn))) ?_ fun d hd => ?_))
    · walk_at "xks"
      refine ov_ixM a3 (at_nat gw) ?_
      walk_at "xks"
      refine ov_ixM a2 (at_nat gh) ?_
      walk_at "xks"
      refine below_i (frq_bq N1 hw1) (frq_bq N1 hh1) (by decide) ?_
      refine ⟨_, rfl, rfl, fun hlt => ?_, fun hlt => ?_⟩
      · have hlt := (frq_lt N0).mp (of_decide_eq_true hlt)
        walk_at "xks"
        refine ov_ixM a3 (at_nat gw) ⟨rfl, ?_⟩
        rw [Nat.min_eq_right (by omega)]
      · have hlt : ¬ Wn < H := fun z => by
          rw [decide_eq_true ((frq_lt N0).mpr z)] at hlt
          cases hlt
        walk_at "xks"
        refine ov_ixM a2 (at_nat gh) ⟨rfl, ?_⟩
        rw [Nat.min_eq_left (by omega)]
    subst hd
    have hA1 : min H Wn ≤ H := Nat.min_le_left _ _
    have hA2 : min H Wn ≤ Wn := Nat.min_le_right _ _
    have hamt : t.amt zx zy = min H Wn := by unfold FS.amt; rw [hhx, hwy]
    have bqa : Bq 16 (frq N (min H Wn)) := frq_bq N1 (by omega)
    generalize hg : min H Wn = A at *
    -- plan[x][y] = amount
    have hpx : zx < pp.length := by omega
    have hrow : pp[zx]? = some pp[zx] := List.getElem?_eq_getElem hpx
    generalize pp[zx] = px at hrow
    have hpm := List.mem_of_getElem? hrow
    have hrl : zy < (t.rows.getD zx []).length := by
      have : t.rows.getD zx [] ∈ t.rows := by
        rw [List.getD_eq_getElem?_getD, List.getElem?_eq_getElem (by rw [wk.lr]; exact hx)]
        exact List.getElem_mem _
      rw [(wk.br _ this).1]
      exact hy
    walk_at "xw"
    walk_at "xw"
    refine sv_setL ?_
    walk_at "xks"
    refine ov_ixL (.inl rfl) (at_nat (by rw [List.getElem?_map, hrow]; rfl)) ?_
    walk_at "xks"
    refine ⟨px, _, _, zy, rfl, a5 zx px hrow, rfl, ixn (by rw [List.length_map, List.length_map]; exact hrl), ?_⟩
    rw [fr_set]
    generalize hm2 : put m1 px (.lst (frL N ((t.rows.getD zx []).set zy A))) = m2
    have b1 : m2 a = some (.well (b' - 1)) := by rw [← hm2, put_ne (fun z => (hd px hpm).1 z.symm)]; exact a1
    have b2 : m2 hA = some (.lst (frL N t.hr)) := by rw [← hm2, put_ne (fun z => (hd px hpm).2.1 z.symm)]; exact a2
    have b3 : m2 wA = some (.lst (frL N t.wr)) := by rw [← hm2, put_ne (fun z => (hd px hpm).2.2 z.symm)]; exact a3
    have b4 : m2 sA = some (.lst ((t.sp.eraseIdx kk).map spD)) := by rw [← hm2, put_ne (fun z => es4 px hpm z.symm)]; exact a4
    have b5 : ∀ (i : Nat) (p : Addr), pp[i]? = some p → m2 p = some (.lst (frL N ((t.rows.set zx ((t.rows.getD zx []).set zy A)).getD i []))) := fun i p hip => by
      have hm := List.mem_of_getElem? hip
      by_cases hi : i = zx
      · subst hi
        rw [hrow] at hip; cases hip
        rw [← hm2, put_same, List.getD_eq_getElem?_getD (l := t.rows.set i _), List.getElem?_set_self (by rw [wk.lr]; exact hx)]
        rfl
      · have hne : p ≠ px := fun e => hi (by
          subst e
          exact (List.getElem?_inj (by exact (List.getElem?_eq_some_iff.mp hip).1) nd).mp (hip.trans hrow.symm))
        rw [← hm2, put_ne hne, List.getD_eq_getElem?_getD (l := t.rows.set zx _), List.getElem?_set_ne (fun z => hi z.symm), ← List.getD_eq_getElem?_getD]
        exact a5 i p hip
    clear hm2
    -- have[x]
    walk_at "xw"
    walk_at "xw"
    refine sv_setL ?_
    walk_at "xks"
    refine ov_ixM b2 (at_nat gh) ?_
    walk_at "xks"
    refine ov_ixP0 ?_
    walk_at "xks"
    refine ov_ixP1 ?_
    walk_at "xks"
    rw [neg_pr]
    refine added_i (frq_bq N1 hh1) (bq_neg bqa) (by decide) ?_
    rw [← Rat.sub_eq_add_neg, frq_sub N0 hA1]
    walk_at "xks"
    refine ⟨hA, _, _, zx, rfl, b2, rfl, ixn (by rw [List.length_map, List.length_map, wk.lh]; exact hx), ?_⟩
    rw [fr_set]
    generalize hm3 : put m2 hA (.lst (frL N (t.hr.set zx (H - A)))) = m3
    have c1 : m3 a = some (.well (b' - 1)) := by rw [← hm3, put_ne (fun z => nha z.symm)]; exact b1
    have c2 : m3 hA = some (.lst (frL N (t.hr.set zx (H - A)))) := by rw [← hm3, put_same]
    have c3 : m3 wA = some (.lst (frL N t.wr)) := by rw [← hm3, put_ne nwh]; exact b3
    have c4 : m3 sA = some (.lst ((t.sp.eraseIdx kk).map spD)) := by rw [← hm3, put_ne es2]; exact b4
    have c5 : ∀ (i : Nat) (p : Addr), pp[i]? = some p → m3 p = some (.lst (frL N ((t.rows.set zx ((t.rows.getD zx []).set zy A)).getD i []))) := fun i p hip => by
      rw [← hm3, put_ne (hd p (List.mem_of_getElem? hip)).2.1]
      exact b5 i p hip
    clear hm3
    -- want[y]
    walk_at "xw"
    refine sv_setL ?_
    walk_at "xks"
    refine ov_ixM c3 (at_nat gw) ?_
    walk_at "xks"
    refine ov_ixP0 ?_
    walk_at "xks"
    refine ov_ixP1 ?_
    walk_at "xks"
    rw [neg_pr]
    refine added_i (frq_bq N1 hw1) (bq_neg bqa) (by decide) ?_
    rw [← Rat.sub_eq_add_neg, frq_sub N0 hA2]
    walk_at "xks"
    refine ⟨wA, _, _, zy, rfl, c3, rfl, ixn (by rw [List.length_map, List.length_map, wk.lw]; exact hy), ?_⟩
    rw [fr_set]
    have hlen : (t.sp.eraseIdx kk).length = t.sp.length - 1 := by rw [List.length_eraseIdx, if_pos hkk]
    have est : t.step kk zx zy = ⟨t.hr.set zx (H - A), t.wr.set zy (Wn - A), t.rows.set zx ((t.rows.getD zx []).set zy A), t.sp.eraseIdx kk⟩ := by
      unfold FS.step
      rw [hamt, hhx, hwy]
    refine ⟨(t.step kk zx zy).sp.length, by rw [est]; show (t.sp.eraseIdx kk).length < _; omega, ⟨rfl, rfl, rfl, rfl, rfl, rfl, rfl, trivial⟩, t.step kk zx zy, b' - 1, ht.step hsk, rfl, ?_⟩
    rw [est]
    refine ⟨?_, ?_, ?_, ?_, fun i p hip => ?_, ?_⟩
    · show put m3 wA _ a = _
      rw [put_ne (fun z => nwa z.symm)]; exact c1
    · show put m3 wA _ hA = _
      rw [put_ne (fun z => nwh z.symm)]; exact c2
    · exact put_same
    · show put m3 wA _ sA = _
      rw [put_ne es3]; exact c4
    · show put m3 wA _ p = _
      rw [put_ne (hd p (List.mem_of_getElem? hip)).2.2]; exact c5 i p hip
    · show b + (t.sp.eraseIdx kk).length ≤ _
      omega
  · have hz : t.sp = [] := by
      have : decide (t.sp.length = 0) = true := by simpa using h0
      exact List.eq_nil_of_length_eq_zero (of_decide_eq_true this)
    refine seqK_wk (s' := ⟨sr, sm⟩) hr ?_
    dsimp only
    refine sv_ret (ev_stl (a := a) ?_)
    walk_at "xks"
    refine ⟨prR (t.rows.map fun r => r.map (frq N)), b', .lst ?_ fun i x y hx hy => ?_, kw, hP _ _ (k t b' ht hz ?_)⟩
    · rw [List.length_map, List.length_map, List.length_map, hl, wk.lr]
    · rw [List.getElem?_map, Option.map_eq_some_iff] at hx
      obtain ⟨p, hip, rfl⟩ := hx
      have hx := kp i p hip
      rw [List.map_map, List.getElem?_map, Option.map_eq_some_iff] at hy
      obtain ⟨r, hir, rfl⟩ := hy
      rw [List.getD_eq_getElem?_getD, hir] at hx
      exact .own hx
    · omega
end Far

namespace Far
open PySem PySem.Spec PyProof.Rows L2 Pw
/-! ### what was filled comes to both heaps -/
theorem getD_set {l : List Nat} {i j v : Nat} (h : i < l.length) : (l.set i v).getD j 0 = if j = i then v else l.getD j 0 := by
  rw [List.getD_eq_getElem?_getD, List.getElem?_set]
  by_cases e : i = j
  · subst e
    simp [h]
  · rw [if_neg e, if_neg (fun z => e z.symm), ← List.getD_eq_getElem?_getD]
theorem getD_setR {l : List (List Nat)} {i j : Nat} {v : List Nat} (h : i < l.length) : (l.set i v).getD j [] = if j = i then v else l.getD j [] := by
  rw [List.getD_eq_getElem?_getD, List.getElem?_set]
  by_cases e : i = j
  · subst e
    simp [h]
  · rw [if_neg e, if_neg (fun z => e z.symm), ← List.getD_eq_getElem?_getD]
theorem sum_setD {l : List Nat} {i v : Nat} (h : i < l.length) : (l.set i v).sum + l.getD i 0 = l.sum + v := by
  have := sum_set (v := v) h
  rw [List.getD_eq_getElem?_getD, List.getElem?_eq_getElem h]
  exact this
def colN (rows : List (List Nat)) (j : Nat) : Nat := (rows.map fun r => r.getD j 0).sum
theorem col_set {rows : List (List Nat)} {i j : Nat} {v : List Nat} (h : i < rows.length) : colN (rows.set i v) j + (rows.getD i []).getD j 0 = colN rows j + v.getD j 0 := by
  unfold colN
  rw [List.map_set]
  have := sum_setD (l := rows.map fun r => r.getD j 0) (v := v.getD j 0) (by rw [List.length_map]; exact h)
  have e : (rows.map fun r => r.getD j 0).getD i 0 = (rows.getD i []).getD j 0 := by
    rw [List.getD_eq_getElem?_getD (l := rows.map _), List.getElem?_map, List.getD_eq_getElem?_getD (l := rows), List.getElem?_eq_getElem h]
    rfl
  rw [e] at this
  exact this
structure FS.Iv (hs ws : List Nat) (s : FS) : Prop where
  nd : s.sp.Nodup
  ri : ∀ i, i < hs.length → (s.rows.getD i []).sum + s.hr.getD i 0 = hs.getD i 0
  ci : ∀ j, j < ws.length → colN s.rows j + s.wr.getD j 0 = ws.getD j 0
  ze : ∀ x y, (x, y) ∈ s.sp → (s.rows.getD x []).getD y 0 = 0
  vi : ∀ x y, x < hs.length → y < ws.length → (x, y) ∉ s.sp → s.hr.getD x 0 = 0 ∨ s.wr.getD y 0 = 0
  eq : s.hr.sum = s.wr.sum
theorem FS.Iv.step {hs ws : List Nat} {N : Nat} {s : FS} (h : s.Iv hs ws) (wk : s.Wk hs.length ws.length N) {k x y : Nat} (hk : s.sp[k]? = some (x, y)) : (s.step k x y).Iv hs ws := by
  have hxy := wk.bs _ (List.mem_of_getElem? hk)
  have hx : x < hs.length := hxy.1
  have hy : y < ws.length := hxy.2
  have lx : x < s.hr.length := by rw [wk.lh]; exact hx
  have ly : y < s.wr.length := by rw [wk.lw]; exact hy
  have lr : x < s.rows.length := by rw [wk.lr]; exact hx
  have lry : y < (s.rows.getD x []).length := by
    have : s.rows.getD x [] ∈ s.rows := by
      rw [List.getD_eq_getElem?_getD, List.getElem?_eq_getElem lr]
      exact List.getElem_mem _
    rw [(wk.br _ this).1]
    exact hy
  have hz := h.ze x y (List.mem_of_getElem? hk)
  have a1 : s.amt x y ≤ s.hr.getD x 0 := Nat.min_le_left _ _
  have a2 : s.amt x y ≤ s.wr.getD y 0 := Nat.min_le_right _ _
  have a3 : s.amt x y = s.hr.getD x 0 ∨ s.amt x y = s.wr.getD y 0 := by unfold FS.amt; omega
  have mem : ∀ z, z ∈ s.sp.eraseIdx k → z ∈ s.sp ∧ z ≠ (x, y) := fun z hz => by
    rw [List.mem_eraseIdx_iff_getElem?] at hz
    obtain ⟨i, hi, e⟩ := hz
    refine ⟨List.mem_of_getElem? e, fun ez => hi ?_⟩
    subst ez
    exact (List.getElem?_inj (List.getElem?_eq_some_iff.mp e).1 h.nd).mp (e.trans hk.symm)
  have nmem : ∀ z, z ∉ s.sp.eraseIdx k → z ≠ (x, y) → z ∉ s.sp := fun z hz hne hm => by
    obtain ⟨i, hi⟩ := List.getElem?_of_mem hm
    refine hz (List.mem_eraseIdx_iff_getElem?.mpr ⟨i, fun e => ?_, hi⟩)
    subst e
    rw [hk] at hi
    exact hne (Option.some.inj hi).symm
  refine ⟨h.nd.sublist (List.eraseIdx_sublist _ _), fun i hi => ?_, fun j hj => ?_, fun x' y' hm => ?_, fun x' y' hx' hy' hm => ?_, ?_⟩
  · show ((s.rows.set x _).getD i []).sum + (s.hr.set x _).getD i 0 = _
    rw [getD_setR lr, getD_set lx]
    have := h.ri i hi
    by_cases e : i = x
    · subst e
      rw [if_pos rfl, if_pos rfl]
      have hs' := sum_setD (v := s.amt i y) lry
      omega
    · rw [if_neg e, if_neg e]
      exact this
  · show colN (s.rows.set x _) j + (s.wr.set y _).getD j 0 = _
    have := h.ci j hj
    have hc := col_set (j := j) (v := (s.rows.getD x []).set y (s.amt x y)) lr
    rw [getD_set lry] at hc
    rw [getD_set ly]
    by_cases e : j = y
    · subst e
      rw [if_pos rfl] at hc ⊢
      omega
    · rw [if_neg e] at hc ⊢
      omega
  · obtain ⟨hm', hne⟩ := mem _ hm
    show ((s.rows.set x _).getD x' []).getD y' 0 = 0
    rw [getD_setR lr]
    by_cases e : x' = x
    · subst e
      rw [if_pos rfl, getD_set lry, if_neg (fun z => hne (by rw [z]))]
      exact h.ze x' y' hm'
    · rw [if_neg e]
      exact h.ze x' y' hm'
  · show (s.hr.set x _).getD x' 0 = 0 ∨ (s.wr.set y _).getD y' 0 = 0
    rw [getD_set lx, getD_set ly]
    by_cases e : (x', y') = (x, y)
    · cases e
      rw [if_pos rfl, if_pos rfl]
      omega
    · have := h.vi x' y' hx' hy' (nmem _ hm e)
      rcases this with q | q
      · left
        split
        · rename_i e; subst e; omega
        · exact q
      · right
        split
        · rename_i e; subst e; omega
        · exact q
  · show (s.hr.set x _).sum = (s.wr.set y _).sum
    have e1 := sum_setD (v := s.hr.getD x 0 - s.amt x y) lx
    have e2 := sum_setD (v := s.wr.getD y 0 - s.amt x y) ly
    have := h.eq
    omega
theorem grid_nodup (n m : Nat) : (grid n m).Nodup := by
  induction n with
  | zero => simp [grid]
  | succ n ih =>
    rw [grid_succ, List.nodup_append]
    refine ⟨ih, ?_, fun a ha b hb => ?_⟩
    · rw [List.Nodup, List.pairwise_map]
      exact List.Pairwise.imp (fun h e => h (by injection e)) List.nodup_range
    · obtain ⟨y, _, rfl⟩ := List.mem_map.1 hb
      have := (grid_mem ha).1
      intro e
      rw [e] at this
      simp at this
theorem col_rep (n m j : Nat) : colN (List.replicate n (List.replicate m 0)) j = 0 := by
  unfold colN
  rw [List.map_replicate]
  have : (List.replicate m 0).getD j 0 = 0 := by
    rw [List.getD_eq_getElem?_getD, List.getElem?_replicate]
    split <;> rfl
  rw [this]
  exact sum_rep0 n
theorem grid_has {n m x y : Nat} (hx : x < n) (hy : y < m) : (x, y) ∈ grid n m := by
  unfold grid
  rw [List.mem_flatMap]
  exact ⟨x, List.mem_range.mpr hx, List.mem_map.mpr ⟨y, List.mem_range.mpr hy, rfl⟩⟩
theorem start_iv {hs ws : List Nat} (he : hs.sum = ws.sum) : (FS.start hs ws).Iv hs ws := by
  refine ⟨grid_nodup _ _, fun i hi => ?_, fun j hj => ?_, fun x y hm => ?_, fun x y hx hy hm => absurd (grid_has hx hy) hm, he⟩
  · show ((List.replicate hs.length (List.replicate ws.length 0)).getD i []).sum + hs.getD i 0 = _
    rw [List.getD_eq_getElem?_getD, List.getElem?_replicate, if_pos hi]
    show (List.replicate ws.length 0).sum + _ = _
    rw [sum_rep0]
    omega
  · show colN (List.replicate _ _) j + ws.getD j 0 = _
    rw [col_rep]
    omega
  · show ((List.replicate hs.length (List.replicate ws.length 0)).getD x []).getD y 0 = 0
    rw [List.getD_eq_getElem?_getD (l := List.replicate hs.length _), List.getElem?_replicate]
    split
    · show (List.replicate ws.length 0).getD y 0 = 0
      rw [List.getD_eq_getElem?_getD, List.getElem?_replicate]
      split <;> rfl
    · rfl
theorem FS.To.iv {hs ws : List Nat} {N : Nat} {t : FS} (w0 : (FS.start hs ws).Wk hs.length ws.length N) (he : hs.sum = ws.sum) (k : (FS.start hs ws).To t) : t.Iv hs ws := by
  induction k with
  | refl => exact start_iv he
  | step h hk ih => exact ih.step (h.wk w0) hk
theorem sum_zero : ∀ (l : List Nat), (∀ i, i < l.length → l.getD i 0 = 0) → l.sum = 0
  | [], _ => rfl
  | a :: l, h => by
    have h0 : a = 0 := h 0 (by simp)
    have := sum_zero l fun i hi => h (i + 1) (by simpa using hi)
    rw [List.sum_cons, this, h0]
theorem getD_le_sum (l : List Nat) (i : Nat) : l.getD i 0 ≤ l.sum := by
  by_cases h : i < l.length
  · exact le_sum _ _ (getD_mem h)
  · rw [List.getD_eq_getElem?_getD, List.getElem?_eq_none (by omega)]
    exact Nat.zero_le _
/-- all is carried -/
theorem fill_ok {hs ws : List Nat} {N : Nat} {t : FS} (w0 : (FS.start hs ws).Wk hs.length ws.length N) (he : hs.sum = ws.sum) (k : (FS.start hs ws).To t) (hz : t.sp = []) :
    (∀ i, i < hs.length → (t.rows.getD i []).sum = hs.getD i 0) ∧ ∀ j, j < ws.length → colN t.rows j = ws.getD j 0 := by
  have iv := k.iv w0 he
  have wk := k.wk w0
  have vi : ∀ x y, x < hs.length → y < ws.length → t.hr.getD x 0 = 0 ∨ t.wr.getD y 0 = 0 := fun x y hx hy => iv.vi x y hx hy (by rw [hz]; simp)
  have z1 : ∀ x, t.hr.getD x 0 = 0 := fun x => by
    by_cases h0 : t.hr.getD x 0 = 0
    · exact h0
    · exfalso
      have hx : x < hs.length := by
        rcases Nat.lt_or_ge x hs.length with h | h
        · exact h
        · rw [List.getD_eq_getElem?_getD, List.getElem?_eq_none (by rw [wk.lh]; exact h)] at h0
          exact absurd rfl h0
      have : t.wr.sum = 0 := sum_zero _ fun y hy => (vi x y hx (by rw [← wk.lw]; exact hy)).resolve_left h0
      have h1 := getD_le_sum t.hr x
      have h2 := iv.eq
      omega
  have s1 : t.hr.sum = 0 := sum_zero _ fun x _ => z1 x
  have z2 : ∀ y, t.wr.getD y 0 = 0 := fun y => by
    have h1 := getD_le_sum t.wr y
    have h2 := iv.eq
    omega
  refine ⟨fun i hi => ?_, fun j hj => ?_⟩
  · have := iv.ri i hi
    rw [z1] at this
    exact this
  · have := iv.ci j hj
    rw [z2] at this
    exact this
end Far

/-! ### steps of the pure walk -/
local macro_rules | `(tactic| walk_at "zw") => `(tactic| first
  | (with_reducible refine Pw.ev_op ?_)
  | ((with_reducible refine Pw.ev_var (d := ?d) ?h ?_); (case h => rfl))
  | (with_reducible refine Pw.ev_int ?_)
  | (with_reducible refine Pw.ev_bl ?_)
  | (with_reducible refine Pw.ev_str ?_)
  | (with_reducible refine Pw.ev_non ?_)
  | (with_reducible refine Pw.ev_ty ?_)
  | (with_reducible refine Pw.ev_ref ?_)
  | (with_reducible refine Pw.ev_cb ?_)
  | (with_reducible refine Pw.ev_un ?_)
  | (with_reducible refine Pw.ea_cons ?_)
  | (with_reducible refine Pw.ea_nil ?_)
  | (with_reducible refine Pw.ev_cal0 ?_)
  | (with_reducible refine Pw.ev_calN ?_)
  | (with_reducible refine Pw.ev_mak0 ?_)
  | (with_reducible refine Pw.ev_mak1 ?_)
  | (with_reducible refine Pw.ev_if ?_)
  | (with_reducible refine Pw.ev_and ?_)
  | (with_reducible refine Pw.ev_or ?_)
  | (with_reducible refine Pw.ev_not ?_)
  | (with_reducible refine Pw.tv_test ?_)
  | (with_reducible refine Pw.tv_B ?_)
  | (with_reducible refine Pw.tv_and ?_)
  | (with_reducible refine Pw.tv_or ?_)
  | (with_reducible refine Pw.tv_not ?_)
  | (with_reducible refine Pw.tv_yes ?_)
  | (with_reducible refine Pw.po_no ?_)
  | (with_reducible refine Pw.po_so ?_)
  | (with_reducible refine Pw.sv_seq ?_)
  | (with_reducible refine Pw.sv_asg ?_)
  | (with_reducible refine Pw.sv_ret ?_)
  | (with_reducible refine Pw.sv_if ?_)
  | (with_reducible refine Pw.sv_par ?_)
  | (with_reducible refine Pw.sv_next ?_)
  | (with_reducible refine Pw.sv_app ?_)
  | (with_reducible refine Pw.sv_drop ?_)
  | (with_reducible refine Pw.sv_fld ?_)
  | (with_reducible refine Pw.ov_add ?_)
  | (with_reducible refine Pw.ov_sub ?_)
  | (with_reducible refine Pw.ov_lt ?_)
  | (with_reducible refine Pw.ov_le ?_)
  | (with_reducible refine Pw.ov_gt ?_)
  | (with_reducible refine Pw.ov_ge ?_)
  | (with_reducible refine Pw.ov_eqI ?_)
  | (with_reducible refine Pw.ov_neI ?_)
  | (with_reducible refine Pw.ov_eqS ?_)
  | (with_reducible refine Pw.ov_neS ?_)
  | (with_reducible refine Pw.ov_eqB ?_)
  | (with_reducible refine Pw.ov_neB ?_)
  | (with_reducible refine Pw.cv_abs ?_)
  | ((with_reducible refine Pw.ov_ixT (e := ?e) ?h ?_); (case h => rfl))
  | ((with_reducible refine Pw.ov_ixM (ds := ?ds) (e := ?e) ?hm ?h ?_); (case hm => exact Pw.put_same); (case h => rfl))
  | ((with_reducible refine Pw.ov_pow ?h ?_); (case h => exact ⟨by decide, by decide, by decide⟩))
  | ((with_reducible refine Pw.ov_mod ?h ?_); (case h => decide))
  | (with_reducible refine Pw.ev_tup ?_)
  | ((with_reducible refine And.intro (show _ ≤ 100000 from ?hl) ?_); (case hl => (simp; done)))
  | (with_reducible refine Pw.cv_intB ?_)
  | (with_reducible refine Pw.uv_neg ?_)
  | (with_reducible refine Pw.seqK_nx ?_)
  | (with_reducible refine Pw.seqK_rt ?_)
  | (with_reducible refine Pw.seqK_xr ?_)
  | (with_reducible refine Pw.seqK_ct ?_)
  | (with_reducible refine Pw.seqK_bk ?_)
  | (with_reducible refine Pw.whK_rt ?_)
  | (with_reducible refine Pw.whK_xr ?_)
  | (with_reducible refine Pw.whK_bk ?_)
  | (with_reducible refine Pw.forK_nx ?_)
  | (with_reducible refine Pw.forK_ct ?_)
  | (with_reducible refine Pw.forK_rt ?_)
  | (with_reducible refine Pw.forK_xr ?_)
  | (with_reducible refine Pw.forK_bk ?_)
  | (with_reducible refine Pw.fnK_rt ?_)
  | (with_reducible refine Pw.fnK_nx ?_)
  | (with_reducible refine Pw.fnK_xr ?_))
local macro_rules | `(tactic| walk_at "zl") => `(tactic| first
  | walk_at "zw"
  | (with_reducible refine Pw.ev_lst ?_))
local macro_rules | `(tactic| walk_at "zls") => `(tactic| repeat (walk_at "zl"))
local macro_rules | `(tactic| walk_at "zws") => `(tactic| repeat (walk_at "zw"))
local macro_rules | `(tactic| walk_at "zk") => `(tactic| first
  | ((with_reducible refine Far.ev_mkS0 ?hT ?_); (case hT => assumption))
  | ((with_reducible refine Far.ev_mkS1 ?hT ?_); (case hT => assumption))
  | walk_at "zl"
  | (with_reducible refine Pw.ex_bl ?_)
  | (with_reducible refine Pw.b_tt ?_)
  | (with_reducible refine Pw.b_ff ?_)
  | (with_reducible refine Pw.b_tt' ?_)
  | (with_reducible refine Pw.b_ff' ?_)
  | (with_reducible refine Pw.b_nt ?_)
  | (with_reducible refine Pw.b_nf ?_)
  | (with_reducible refine Pw.b_nt' ?_)
  | (with_reducible refine Pw.b_nf' ?_)
  | (with_reducible refine Pw.b_d ?_)
  | (with_reducible refine Pw.b_d' ?_)
  | (with_reducible refine Pw.b_dn ?_)
  | (with_reducible refine Pw.b_dn' ?_)
  | (with_reducible refine Pw.ex_2 ?_)
  | ((with_reducible refine Far.ev_top ?hT ?_); (case hT => assumption))
  | ((with_reducible refine Far.ev_bot ?hT ?_); (case hT => assumption))
  | (with_reducible refine Far.ex_sh ?_)
  | ((with_reducible refine Far.isi_sh ?hT ?_); (case hT => assumption))
  | (with_reducible refine Far.isi_ib ?_)
  | (with_reducible refine Far.isi_ii ?_)
  | (with_reducible refine Pw.ov_eq2 ?_)
  | (with_reducible refine Pw.ov_ne2 ?_)
  | (with_reducible refine Far.ov_eqP ?_)
  | (with_reducible refine Far.ov_neP ?_)
  | (with_reducible refine Far.ex_ii ?_)
  | (with_reducible refine Far.ex_i ?_)
  | (with_reducible refine Far.ev_wellN ?_)
  | ((with_reducible refine Far.ov_shEq ?hT ?_); (case hT => assumption))
  | ((with_reducible refine Far.ov_shNe ?hT ?_); (case hT => assumption))
  | (with_reducible refine Pw.sv_asg2 ?_)
  | (with_reducible refine Pw.sv_asg3 ?_)
  | (with_reducible refine Pw.tryK_nx ?_)
  | (with_reducible refine Pw.tryK_rt ?_)
  | (with_reducible refine Pw.unK_rt ?_)
  | (with_reducible refine Pw.unK_nx ?_)
  | (with_reducible refine Pw.ex_t2 ?_)
  | (with_reducible refine Pw.ex_t3 ?_))
local macro_rules | `(tactic| walk_at "zks") => `(tactic| repeat (walk_at "zk"))
local macro_rules | `(tactic| walk_at "le") => `(tactic| (repeat (first | exact trivial | refine And.intro rfl ?_)))
local macro_rules | `(tactic| walk_at "po") => `(tactic| first
  | walk_at "zk"
  | ((with_reducible refine Far.plus_s ?h ?_); (case h => decide))
  | ((with_reducible refine Far.minus_s ?h ?_); (case h => decide))
  | ((with_reducible refine Far.times_s ?h ?_); (case h => decide))
  | ((with_reducible refine Far.less_s ?h ?_); (case h => decide)))
local macro_rules | `(tactic| walk_at "pos") => `(tactic| repeat (walk_at "po"))
local macro_rules | `(tactic| walk_at "gn") => `(tactic| first
  | ((refine Far.bN' ?h ?_); (case h => grind))
  | ((refine Far.bN ?h ?_); (case h => grind)))
namespace Far
open PySem PySem.Spec PyProof.Rows L2 Pw
open FM (Bq)
/-! ### plans judged -/
def Od.val : Od → Rat
  | .pr q => q
  | _ => 0
abbrev plD (rows : List (List Od)) : D := .lst (rows.map fun r => .lst (r.map odD))
abbrev plS (rows : List (List Od)) : D := .lst (rows.map fun r => .lst (r.map odS))
def OkP (rows : List (List Od)) (fs ss : List Rat) : Prop := rows.length = fs.length ∧ (∀ r ∈ rows, r.length = ss.length ∧ ∀ o ∈ r, o.isP = true ∧ 0 ≤ o.val) ∧
  (∀ (k : Nat) (r : List Od) (f : Rat), rows[k]? = some r → fs[k]? = some f → (r.map Od.val).sum = f) ∧ ∀ (j : Nat) (s : Rat), ss[j]? = some s → (rows.map fun r => (r.getD j .zero).val).sum = s
def PlOk (n l : Nat) (rows : List (List Od)) : Prop := rows.length ≤ l ∧ ∀ r ∈ rows, r.length ≤ l ∧ ∀ o ∈ r, o.bq n
def rowB (long : Nat) : D → Bool
  | .lst es => es.all isSh && (decide ((es.length : Int) = (long : Int)) && (es.map unSh).all fun q => decide (0 ≤ q))
  | _ => false
inductive RowT (T : Cfg) : D → Prop
  | od (os : List Od) (h : os.length ≤ 100) : RowT T (.lst (os.map odS))
  | no {d : D} {t : Value} (h : Thing T d t) (k : kindOf d "list" = false) : RowT T d
def c_none_below (T : Cfg) : PC := fun ds P _ => ∃ qs : List Rat, ds = [shL qs] ∧ qs.length ≤ 1000 ∧ P (.bl (qs.all fun q => decide (0 ≤ q)))
def c_are_rows (T : Cfg) : PC := fun ds P _ => ∃ (d : D) (many long : Nat), ds = [d, .int many, .int long] ∧ ((∃ t, Thing T d t ∧ kindOf d "list" = false ∧ P (.bl false)) ∨ ∃ es : List D, d = .lst es ∧ es.length ≤ 1000 ∧ (∀ e ∈ es, RowT T e) ∧ P (.bl (decide ((es.length : Int) = (many : Int)) && es.all (rowB long))))
inductive PlT (T : Cfg) (fs ss : List Rat) : D → Prop → Prop
  | od (rows : List (List Od)) (h : PlOk 60 16 rows) : PlT T fs ss (plS rows) (OkP rows fs ss)
  | no1 {d : D} {t : Value} (h : Thing T d t) (k : kindOf d "list" = false) : PlT T fs ss d False
  | no2 {es : List D} (h : es ≠ []) (hl : es.length ≤ 100) (k : ∀ e ∈ es, ∃ t, Thing T e t ∧ kindOf e "list" = false) : PlT T fs ss (.lst es) False
def c_is_plan (T : Cfg) : PC := fun ds P _ => ∃ (d : D) (fs ss : List Rat) (pp : Prop), ds = [d, shL fs, shL ss] ∧ fs.length ≤ 12 ∧ ss.length ≤ 12 ∧ PlT T fs ss d pp ∧ ∀ b : Bool, (b = true ↔ pp) → P (.bl b)
theorem len_none_below {T : Cfg} : ∀ ds μ P XP, pu (c_none_below T) ds μ P XP → ds.length = 1 := by
  rintro ds μ P XP ⟨rfl, Pf, Xf, ⟨d, rfl, _⟩, _⟩; rfl
theorem len_are_rows {T : Cfg} : ∀ ds μ P XP, pu (c_are_rows T) ds μ P XP → ds.length = 3 := by
  rintro ds μ P XP ⟨rfl, Pf, Xf, ⟨d, m, l, rfl, _⟩, _⟩; rfl
theorem len_is_plan {T : Cfg} : ∀ ds μ P XP, pu (c_is_plan T) ds μ P XP → ds.length = 3 := by
  rintro ds μ P XP ⟨rfl, Pf, Xf, ⟨d, f, s, p, rfl, _⟩, _⟩; rfl
def t_none_below (T : Cfg) (E : XK) : TS := (tRet (tCB (rAll T.K) (tCons (tLc (iList T.K (tVar 0)) (gName 1) tYes (tOp (rI0 fun i j => .bl (decide (j ≤ i))) (tFld T.K (tVar 1) "top") (tC (.int 0))) [1]) tNil)))
def t_are_rows (T : Cfg) (E : XK) : TS := (tSeq (tIfS (tOr (tNot (tB (tCB (rIsi T.K) (tCons (tVar 0) (tCons (tC (.ty "list")) tNil))))) (tTest (tOp rNe (tCB (Pw.rLen T.K) (tCons (tVar 0) tNil)) (tVar 1)))) (tRet (tC (.bl false))) tNext)
    (tRet (tCB (rAll T.K) (tCons (tLc (iList T.K (tVar 0)) (gName 3) tYes (tAndV (tCall (spOf T (pu (c_are_shares T))) [] E0 (tCons (tVar 3) tNil)) (tAndV (tOp rEq (tCB (Pw.rLen T.K) (tCons (tVar 3) tNil)) (tVar 2)) (tCall (spOf T (pu (c_none_below T))) [] E0 (tCons (tVar 3) tNil)))) [3]) tNil))))
def t_is_plan (T : Cfg) (E : XK) : TS := (tSeq (tIfS (tNot (tB (tCall (spOf T (pu (c_are_rows T))) [] E0 (tCons (tVar 0) (tCons (tCB (Pw.rLen T.K) (tCons (tVar 1) tNil)) (tCons (tCB (Pw.rLen T.K) (tCons (tVar 2) tNil)) tNil)))))) (tRet (tC (.bl false))) tNext)
    (tSeq (tIfS (tNot (tB (tCB (rAll T.K) (tCons (tLc (iZip T.K (tCons (tVar 0) (tCons (tVar 1) tNil))) (gTup T.K 2 (gCons (gName 5) (gCons (gName 4) gNil))) tYes (tOp (rOwnEq T.K (T.cls 0) (spOf T (pu (c_Share___eq__ T))) E0) (tCall (spOf T (pu (c_sum_of T))) [] E0 (tCons (tVar 5) tNil)) (tVar 4)) [5, 4]) tNil)))) (tRet (tC (.bl false))) tNext)
    (tRet (tCB (rAll T.K) (tCons (tLc (iEnum T.K (tCons (tVar 2) tNil)) (gTup T.K 2 (gCons (gName 3) (gCons (gName 4) gNil))) tYes (tOp (rOwnEq T.K (T.cls 0) (spOf T (pu (c_Share___eq__ T))) E0) (tCall (spOf T (pu (c_sum_of T))) [] E0 (tCons (tLc (iList T.K (tVar 0)) (gName 5) tYes (tOp (rIxL T.K) (tVar 5) (tVar 3)) [5]) tNil)) (tVar 4)) [3, 4]) tNil)))))
theorem num_ge (q : Rat) : decide (0 ≤ q.num) = decide (0 ≤ q) := decide_eq_decide.mpr Rat.num_nonneg
theorem pure_none_below {T : Cfg} (hT : ShOk T) : ∀ E ds μ P XP, pu (c_none_below T) ds μ P XP → SV T (t_none_below T E) (fun cls dd _ H => E cls dd H) ⟨slots 2 ds, μ⟩ (fnK P XP) := by
  rintro E ds μ P XP ⟨rfl, Pf, Xf, ⟨qs, rfl, hl, p⟩, hP, hX⟩
  unfold t_none_below
  walk_at "zks"
  refine ev_lcF ?_
  walk_at "zks"
  refine ⟨_, fun d => .bl (decide (0 ≤ unSh d)), .inl rfl, by rw [List.length_map]; omega, fun e he => ?_, ?_⟩
  · obtain ⟨q, hq, rfl⟩ := List.mem_map.1 he
    walk_at "zks"
    refine ⟨?_, rfl⟩
    show D.bl (decide (0 ≤ q.num)) = D.bl (decide (0 ≤ unSh (shD q)))
    rw [unSh_sh, num_ge]
  walk_at "zks"
  refine cv_all (bs := qs.map fun q => decide (0 ≤ q)) (.inl ?_) ?_
  · rw [List.map_map, List.map_map]
    exact congrArg D.lst (List.map_congr_left fun q _ => by show D.bl (decide (0 ≤ unSh (shD q))) = _; rw [unSh_sh]; rfl)
  rw [List.all_map]
  exact hP _ p
theorem rowB_no {long : Nat} {d : D} (k : kindOf d "list" = false) : rowB long d = false := by
  cases d <;> first | rfl | (simp [kindOf, kk, tagOf] at k)
theorem val_sh (qs : List Rat) : (qs.map shD).map unSh = qs := by
  rw [List.map_map]
  exact (List.map_congr_left fun q _ => unSh_sh q).trans (List.map_id _)
theorem pure_are_rows {T : Cfg} (hT : ShOk T) : ∀ E ds μ P XP, pu (c_are_rows T) ds μ P XP → SV T (t_are_rows T E) (fun cls dd _ H => E cls dd H) ⟨slots 4 ds, μ⟩ (fnK P XP) := by
  rintro E ds μ P XP ⟨rfl, Pf, Xf, ⟨d, many, long, rfl, h⟩, hP, hX⟩
  unfold t_are_rows
  rcases h with ⟨t, ht, hk, p⟩ | ⟨es, rfl, hl, hr, p⟩
  · walk_at "zks"
    refine isi_t ht (by simp [tys]) ?_
    rw [hk]
    walk_at "zks"
    exact hP _ p
  · walk_at "zks"
    refine isi_t (th_lst hT _) (by simp [tys]) ?_
    refine ex_bl (bF' (by rfl) ?_)
    walk_at "zks"
    refine cv_len (.inl rfl) ?_
    walk_at "zks"
    refine ⟨fun hA => ?_, fun hA => ?_⟩
    · walk_at "zks"
      have : decide ((es.length : Int) = (many : Int)) = false := by simpa using hA
      rw [this] at p
      exact hP _ p
    have hA : decide ((es.length : Int) = (many : Int)) = true := by simpa using hA
    rw [hA, Bool.true_and] at p
    walk_at "zks"
    refine ev_lcF ?_
    walk_at "zks"
    refine ⟨es, fun e => .bl (rowB long e), .inl rfl, by omega, fun e he => ?_, ?_⟩
    · cases hr e he with
      | od os ho =>
        walk_at "zks"
        refine shs_i hT ho ?_
        refine ⟨_, rfl, fun hB => ?_, fun hB => ?_⟩
        · obtain ⟨qs, rfl⟩ := allPr (List.all_eq_true.mp hB)
          have e1 : (qs.map Od.pr).map odS = qs.map shD := by rw [List.map_map]; rfl
          rw [e1]
          rw [List.length_map] at ho
          have e2 : (qs.map shD).all isSh = true := by
            rw [List.all_map, List.all_eq_true]; intro q _; rfl
          walk_at "zks"
          refine cv_len (.inl rfl) ?_
          walk_at "zks"
          refine ⟨fun hC => ?_, fun hC => ?_⟩
          · walk_at "zks"
            refine ⟨qs, rfl, by omega, ?_, rfl⟩
            show _ = D.bl ((qs.map shD).all isSh && (decide (((qs.map shD).length : Int) = (long : Int)) && ((qs.map shD).map unSh).all fun q => decide (0 ≤ q)))
            rw [e2, hC, val_sh]
            rfl
          · refine ⟨?_, rfl⟩
            show _ = D.bl ((qs.map shD).all isSh && (decide (((qs.map shD).length : Int) = (long : Int)) && ((qs.map shD).map unSh).all fun q => decide (0 ≤ q)))
            rw [e2, hC]
            rfl
        · refine ⟨?_, rfl⟩
          show _ = D.bl ((os.map odS).all isSh && _)
          rw [allS, hB]
          rfl
      | no h k =>
        walk_at "zks"
        refine shs_n h k ?_
        walk_at "zks"
        refine ⟨?_, rfl⟩
        show D.bl false = D.bl (rowB long _)
        rw [rowB_no k]
    walk_at "zks"
    refine cv_all (bs := es.map (rowB long)) (.inl ?_) ?_
    · rw [List.map_map]; rfl
    rw [List.all_map]
    exact hP _ p
theorem rowB_od {long : Nat} {os : List Od} : rowB long (.lst (os.map odS)) = true ↔ os.length = long ∧ ∀ o ∈ os, o.isP = true ∧ 0 ≤ o.val := by
  show ((os.map odS).all isSh && (decide (((os.map odS).length : Int) = (long : Int)) && ((os.map odS).map unSh).all fun q => decide (0 ≤ q))) = true ↔ _
  rw [allS, Bool.and_eq_true, Bool.and_eq_true, List.length_map, decide_eq_true_iff, List.all_eq_true]
  constructor
  · rintro ⟨h1, h2, h3⟩
    obtain ⟨qs, rfl⟩ := allPr h1
    refine ⟨by omega, fun o ho => ⟨h1 o ho, ?_⟩⟩
    have e1 : (qs.map Od.pr).map odS = qs.map shD := by rw [List.map_map]; rfl
    rw [e1, val_sh, List.all_eq_true] at h3
    obtain ⟨q, hq, rfl⟩ := List.mem_map.1 ho
    exact of_decide_eq_true (h3 q hq)
  · rintro ⟨h1, h2⟩
    have hp : ∀ o ∈ os, o.isP = true := fun o ho => (h2 o ho).1
    refine ⟨hp, by omega, ?_⟩
    obtain ⟨qs, rfl⟩ := allPr hp
    have e1 : (qs.map Od.pr).map odS = qs.map shD := by rw [List.map_map]; rfl
    rw [e1, val_sh, List.all_eq_true]
    intro q hq
    exact decide_eq_true (h2 (.pr q) (List.mem_map.2 ⟨q, hq, rfl⟩)).2
theorem allRows : ∀ {rows : List (List Od)}, (∀ r ∈ rows, ∀ o ∈ r, o.isP = true) → ∃ qrs : List (List Rat), rows = qrs.map fun r => r.map Od.pr
  | [], _ => ⟨[], rfl⟩
  | r :: rows, h => by
    obtain ⟨qs, e⟩ := allPr (h r (by simp))
    obtain ⟨qrs, e2⟩ := allRows (rows := rows) fun r hr => h r (List.mem_cons_of_mem _ hr)
    exact ⟨qs :: qrs, by rw [e, e2]; rfl⟩
theorem pl_sh (qrs : List (List Rat)) : plS (qrs.map fun r => r.map Od.pr) = shR qrs := by
  show D.lst _ = D.lst _
  rw [List.map_map]
  exact congrArg D.lst (List.map_congr_left fun r _ => by
    show D.lst ((r.map Od.pr).map odS) = _
    rw [List.map_map]; rfl)
def unL : D → List Rat
  | .lst es => es.map unSh
  | _ => []
theorem unL_sh (qs : List Rat) : unL (.lst (qs.map shD)) = qs := val_sh qs
theorem val_pr (qs : List Rat) : (qs.map Od.pr).map Od.val = qs := by
  rw [List.map_map]
  exact (List.map_congr_left fun q _ => rfl).trans (List.map_id _)
def colQ (qrs : List (List Rat)) (j : Nat) : Rat := (qrs.map fun r => r.getD j 0).sum
theorem col_od (qrs : List (List Rat)) (j : Nat) : ((qrs.map fun r => r.map Od.pr).map fun r => (r.getD j .zero).val).sum = colQ qrs j := by
  unfold colQ
  rw [List.map_map]
  congr 1
  refine List.map_congr_left fun r _ => ?_
  show ((r.map Od.pr).getD j .zero).val = _
  rw [List.getD_eq_getElem?_getD, List.getElem?_map, List.getD_eq_getElem?_getD]
  cases r[j]? <;> rfl
theorem pure_is_plan {T : Cfg} (hT : ShOk T) : ∀ E ds μ P XP, pu (c_is_plan T) ds μ P XP → SV T (t_is_plan T E) (fun cls dd _ H => E cls dd H) ⟨slots 6 ds, μ⟩ (fnK P XP) := by
  rintro E ds μ P XP ⟨rfl, Pf, Xf, ⟨d, fs, ss, pp, rfl, lf, ls, hp, p⟩, hP, hX⟩
  unfold t_is_plan
  walk_at "zks"
  refine cv_len (.inl rfl) ?_
  walk_at "zks"
  refine cv_len (.inl rfl) ?_
  rw [List.length_map, List.length_map]
  walk_at "zks"
  cases hp with
  | no1 h k =>
    refine ⟨_, _, _, rfl, .inl ⟨_, h, k, ?_⟩⟩
    walk_at "zks"
    exact hP _ (p false (by simp))
  | @no2 es hne hl k =>
    refine ⟨_, _, _, rfl, .inr ⟨es, rfl, by omega, fun e he => by obtain ⟨t, h1, h2⟩ := k e he; exact .no h1 h2, ?_⟩⟩
    refine ex_bl (bT ?_ ?_)
    · cases es with
      | nil => exact absurd rfl hne
      | cons e es =>
        obtain ⟨t, h1, h2⟩ := k e (by simp)
        rw [List.all_cons, rowB_no h2]
        simp
    walk_at "zks"
    exact hP _ (p false (by simp))
  | od rows ho =>
    have hR : ∀ e ∈ rows.map (fun r => D.lst (r.map odS)), RowT T e := fun e he => by
      obtain ⟨r, hr, rfl⟩ := List.mem_map.1 he
      exact .od r (Nat.le_trans (ho.2 r hr).1 (by decide))
    have hl16 := ho.1
    refine ⟨_, _, _, rfl, .inr ⟨_, rfl, by rw [List.length_map]; omega, hR, ?_⟩⟩
    have key : (decide (((rows.map fun r => D.lst (r.map odS)).length : Int) = (fs.length : Int)) && (rows.map fun r => D.lst (r.map odS)).all (rowB ss.length)) = true ↔ rows.length = fs.length ∧ ∀ r ∈ rows, r.length = ss.length ∧ ∀ o ∈ r, o.isP = true ∧ 0 ≤ o.val := by
      rw [Bool.and_eq_true, decide_eq_true_iff, List.length_map, List.all_map, List.all_eq_true]
      constructor
      · rintro ⟨h1, h2⟩
        exact ⟨by omega, fun r hr => rowB_od.mp (h2 r hr)⟩
      · rintro ⟨h1, h2⟩
        exact ⟨by omega, fun r hr => rowB_od.mpr (h2 r hr)⟩
    refine ⟨_, rfl, fun hA => ?_, fun hA => ?_⟩
    · walk_at "zks"
      refine hP _ (p false ⟨fun z => (nomatch z), fun z => ?_⟩)
      rw [key.mpr ⟨z.1, z.2.1⟩] at hA
      cases hA
    have hA' := key.mp (by simpa using hA)
    obtain ⟨hlen, hrows⟩ := hA'
    clear hA key hR
    obtain ⟨qrs, rfl⟩ := allRows fun r hr o hor => ((hrows r hr).2 o hor).1
    rw [pl_sh]
    rw [List.length_map] at hlen hl16
    have bq : ∀ r ∈ qrs, r.length = ss.length ∧ ∀ q ∈ r, Bq 60 q := fun r hr => by
      have h1 := hrows _ (List.mem_map.2 ⟨r, hr, rfl⟩)
      have h2 := ho.2 _ (List.mem_map.2 ⟨r, hr, rfl⟩)
      exact ⟨by simpa using h1.1, fun q hq => h2.2 (.pr q) (List.mem_map.2 ⟨q, hq, rfl⟩)⟩
    walk_at "zks"
    refine ev_lcZ ?_
    walk_at "zks"
    refine ⟨_, _, _, _, rfl, .inl rfl, .inl rfl, by rw [List.length_map]; omega, fun r f => some (.bl (decide ((unL r).sum = unSh f))), fun x y hx hy => ?_, ?_⟩
    · obtain ⟨r, hr, rfl⟩ := List.mem_map.1 hx
      obtain ⟨f, hf, rfl⟩ := List.mem_map.1 hy
      refine tv_yes ⟨rfl, fun _ => ?_, fun e => (nomatch e)⟩
      walk_at "zks"
      refine sum_i (bq r hr).2 ?_ ?_
      · have := (bq r hr).1
        have : (r.length + 1) * (60 + 2) ≤ 13 * 62 := Nat.mul_le_mul_right _ (by omega)
        omega
      walk_at "zks"
      refine ⟨?_, rfl⟩
      show some (D.bl (decide ((unL (.lst (r.map shD))).sum = unSh (shD f)))) = _
      rw [unL_sh, unSh_sh]
    have ez : ((qrs.map fun r => D.lst (r.map shD)).zip (fs.map shD)).filterMap (fun p => some (D.bl (decide ((unL p.1).sum = unSh p.2)))) = ((qrs.zip fs).map fun z => decide (z.1.sum = z.2)).map D.bl := by
      rw [fm_map, List.zip_map, List.map_map, List.map_map]
      refine List.map_congr_left fun z _ => ?_
      show D.bl (decide ((unL (.lst (z.1.map shD))).sum = unSh (shD z.2))) = _
      rw [unL_sh, unSh_sh]
      rfl
    rw [ez]
    walk_at "zks"
    refine cv_all (.inl rfl) ?_
    have keyR : ((qrs.zip fs).map fun z => decide (z.1.sum = z.2)).all id = true ↔ ∀ (k : Nat) (r : List Od) (f : Rat), (qrs.map fun r => r.map Od.pr)[k]? = some r → fs[k]? = some f → (r.map Od.val).sum = f := by
      rw [List.all_map, List.all_eq_true]
      constructor
      · intro h k r f hr hf
        rw [List.getElem?_map, Option.map_eq_some_iff] at hr
        obtain ⟨q, hq, rfl⟩ := hr
        rw [val_pr]
        have := h (q, f) (List.mem_of_getElem? (i := k) (by rw [List.getElem?_zip_eq_some]; exact ⟨hq, hf⟩))
        simpa using this
      · intro h z hz
        obtain ⟨k, hk⟩ := List.getElem?_of_mem hz
        rw [List.getElem?_zip_eq_some] at hk
        have := h k (z.1.map Od.pr) z.2 (by rw [List.getElem?_map, hk.1]; rfl) hk.2
        rw [val_pr] at this
        simpa using this
    refine ⟨_, rfl, fun hB => ?_, fun hB => ?_⟩
    · walk_at "zks"
      refine hP _ (p false ⟨fun z => (nomatch z), fun z => ?_⟩)
      rw [keyR.mpr z.2.2.1] at hB
      cases hB
    have hB' := keyR.mp (by simpa using hB)
    clear hB keyR
    walk_at "zks"
    refine ev_lcE ?_
    walk_at "zks"
    refine ⟨_, _, fun n => .bl (decide (colQ qrs n = ss.getD n 0)), rfl, .inl rfl, by rw [List.length_map]; omega, fun n x hx => ?_, ?_⟩
    · rw [List.getElem?_map, Option.map_eq_some_iff] at hx
      obtain ⟨s, hs, rfl⟩ := hx
      have hn : n < ss.length := (List.getElem?_eq_some_iff.mp hs).1
      walk_at "zks"
      refine ev_lcF ?_
      walk_at "zks"
      refine ⟨_, fun r => shD ((unL r).getD n 0), .inl rfl, by rw [List.length_map]; omega, fun e he => ?_, ?_⟩
      · obtain ⟨r, hr, rfl⟩ := List.mem_map.1 he
        have hnr : n < r.length := by rw [(bq r hr).1]; exact hn
        walk_at "zks"
        refine ov_ixL (.inl rfl) (at_nat (d := shD (r.getD n 0)) ?_) ⟨?_, rfl⟩
        · rw [List.getElem?_map, List.getD_eq_getElem?_getD, List.getElem?_eq_getElem hnr]; rfl
        · show _ = shD ((unL (.lst (r.map shD))).getD n 0)
          rw [unL_sh]
      have ec : (qrs.map fun r => D.lst (r.map shD)).map (fun r => shD ((unL r).getD n 0)) = (qrs.map fun r => r.getD n 0).map shD := by
        rw [List.map_map, List.map_map]
        refine List.map_congr_left fun r _ => ?_
        show shD ((unL (.lst (r.map shD))).getD n 0) = _
        rw [unL_sh]
        rfl
      rw [ec]
      walk_at "zks"
      refine sum_i (n := 60) (fun q hq => ?_) ?_ ?_
      · obtain ⟨r, hr, rfl⟩ := List.mem_map.1 hq
        have hnr : n < r.length := by rw [(bq r hr).1]; exact hn
        refine (bq r hr).2 _ ?_
        rw [List.getD_eq_getElem?_getD, List.getElem?_eq_getElem hnr]
        exact List.getElem_mem hnr
      · rw [List.length_map]
        have : (qrs.length + 1) * (60 + 2) ≤ 17 * 62 := Nat.mul_le_mul_right _ (by omega)
        omega
      walk_at "zks"
      refine ⟨?_, rfl⟩
      have es : ss.getD n 0 = s := by
        rw [List.getD_eq_getElem?_getD, hs]
        rfl
      show _ = D.bl (decide (colQ qrs n = ss.getD n 0))
      rw [es]
      rfl
    walk_at "zks"
    rw [List.length_map]
    refine cv_all (bs := (List.range ss.length).map fun n => decide (colQ qrs n = ss.getD n 0)) (.inl (by rw [List.map_map]; rfl)) ?_
    refine hP _ (p _ ?_)
    rw [List.all_map, List.all_eq_true]
    constructor
    · intro h
      refine ⟨by rw [List.length_map]; exact hlen, hrows, hB', fun j s hs => ?_⟩
      rw [col_od]
      have hj : j < ss.length := (List.getElem?_eq_some_iff.mp hs).1
      have := h j (List.mem_range.mpr hj)
      have this : colQ qrs j = ss.getD j 0 := by simpa using this
      rw [this, List.getD_eq_getElem?_getD, hs]
      rfl
    · intro z j hj
      have hj := List.mem_range.mp hj
      have := z.2.2.2 j ss[j] (List.getElem?_eq_getElem hj)
      rw [col_od] at this
      show decide (colQ qrs j = ss.getD j 0) = true
      rw [this, List.getD_eq_getElem?_getD, List.getElem?_eq_getElem hj]
      simp
end Far

/-! ### steps of the pure walk -/
local macro_rules | `(tactic| walk_at "pw") => `(tactic| first
  | (with_reducible refine Pw.ev_op ?_)
  | ((with_reducible refine Pw.ev_var (d := ?d) ?h ?_); (case h => rfl))
  | (with_reducible refine Pw.ev_int ?_)
  | (with_reducible refine Pw.ev_bl ?_)
  | (with_reducible refine Pw.ev_str ?_)
  | (with_reducible refine Pw.ev_non ?_)
  | (with_reducible refine Pw.ev_ty ?_)
  | (with_reducible refine Pw.ev_ref ?_)
  | (with_reducible refine Pw.ev_cb ?_)
  | (with_reducible refine Pw.ev_un ?_)
  | (with_reducible refine Pw.ea_cons ?_)
  | (with_reducible refine Pw.ea_nil ?_)
  | (with_reducible refine Pw.ev_cal0 ?_)
  | (with_reducible refine Pw.ev_calN ?_)
  | (with_reducible refine Pw.ev_mak0 ?_)
  | (with_reducible refine Pw.ev_mak1 ?_)
  | (with_reducible refine Pw.ev_if ?_)
  | (with_reducible refine Pw.ev_and ?_)
  | (with_reducible refine Pw.ev_or ?_)
  | (with_reducible refine Pw.ev_not ?_)
  | (with_reducible refine Pw.tv_test ?_)
  | (with_reducible refine Pw.tv_B ?_)
  | (with_reducible refine Pw.tv_and ?_)
  | (with_reducible refine Pw.tv_or ?_)
  | (with_reducible refine Pw.tv_not ?_)
  | (with_reducible refine Pw.tv_yes ?_)
  | (with_reducible refine Pw.po_no ?_)
  | (with_reducible refine Pw.po_so ?_)
  | (with_reducible refine Pw.sv_seq ?_)
  | (with_reducible refine Pw.sv_asg ?_)
  | (with_reducible refine Pw.sv_ret ?_)
  | (with_reducible refine Pw.sv_if ?_)
  | (with_reducible refine Pw.sv_par ?_)
  | (with_reducible refine Pw.sv_next ?_)
  | (with_reducible refine Pw.sv_app ?_)
  | (with_reducible refine Pw.sv_drop ?_)
  | (with_reducible refine Pw.sv_fld ?_)
  | (with_reducible refine Pw.ov_add ?_)
  | (with_reducible refine Pw.ov_sub ?_)
  | (with_reducible refine Pw.ov_lt ?_)
  | (with_reducible refine Pw.ov_le ?_)
  | (with_reducible refine Pw.ov_gt ?_)
  | (with_reducible refine Pw.ov_ge ?_)
  | (with_reducible refine Pw.ov_eqI ?_)
  | (with_reducible refine Pw.ov_neI ?_)
  | (with_reducible refine Pw.ov_eqS ?_)
  | (with_reducible refine Pw.ov_neS ?_)
  | (with_reducible refine Pw.ov_eqB ?_)
  | (with_reducible refine Pw.ov_neB ?_)
  | (with_reducible refine Pw.cv_abs ?_)
  | ((with_reducible refine Pw.ov_ixT (e := ?e) ?h ?_); (case h => rfl))
  | ((with_reducible refine Pw.ov_ixM (ds := ?ds) (e := ?e) ?hm ?h ?_); (case hm => exact Pw.put_same); (case h => rfl))
  | ((with_reducible refine Pw.ov_pow ?h ?_); (case h => exact ⟨by decide, by decide, by decide⟩))
  | ((with_reducible refine Pw.ov_mod ?h ?_); (case h => decide))
  | (with_reducible refine Pw.ev_tup ?_)
  | ((with_reducible refine And.intro (show _ ≤ 100000 from ?hl) ?_); (case hl => (simp; done)))
  | (with_reducible refine Pw.cv_intB ?_)
  | (with_reducible refine Pw.uv_neg ?_)
  | (with_reducible refine Pw.seqK_nx ?_)
  | (with_reducible refine Pw.seqK_rt ?_)
  | (with_reducible refine Pw.seqK_xr ?_)
  | (with_reducible refine Pw.seqK_ct ?_)
  | (with_reducible refine Pw.seqK_bk ?_)
  | (with_reducible refine Pw.whK_rt ?_)
  | (with_reducible refine Pw.whK_xr ?_)
  | (with_reducible refine Pw.whK_bk ?_)
  | (with_reducible refine Pw.forK_nx ?_)
  | (with_reducible refine Pw.forK_ct ?_)
  | (with_reducible refine Pw.forK_rt ?_)
  | (with_reducible refine Pw.forK_xr ?_)
  | (with_reducible refine Pw.forK_bk ?_)
  | (with_reducible refine Pw.fnK_rt ?_)
  | (with_reducible refine Pw.fnK_nx ?_)
  | (with_reducible refine Pw.fnK_xr ?_))
local macro_rules | `(tactic| walk_at "pl") => `(tactic| first
  | walk_at "pw"
  | (with_reducible refine Pw.ev_lst ?_))
local macro_rules | `(tactic| walk_at "pls") => `(tactic| repeat (walk_at "pl"))
local macro_rules | `(tactic| walk_at "pws") => `(tactic| repeat (walk_at "pw"))
local macro_rules | `(tactic| walk_at "pk") => `(tactic| first
  | ((with_reducible refine Far.ev_mkS0 ?hT ?_); (case hT => assumption))
  | ((with_reducible refine Far.ev_mkS1 ?hT ?_); (case hT => assumption))
  | walk_at "pl"
  | (with_reducible refine Pw.ex_bl ?_)
  | (with_reducible refine Pw.b_tt ?_)
  | (with_reducible refine Pw.b_ff ?_)
  | (with_reducible refine Pw.b_tt' ?_)
  | (with_reducible refine Pw.b_ff' ?_)
  | (with_reducible refine Pw.b_nt ?_)
  | (with_reducible refine Pw.b_nf ?_)
  | (with_reducible refine Pw.b_nt' ?_)
  | (with_reducible refine Pw.b_nf' ?_)
  | (with_reducible refine Pw.b_d ?_)
  | (with_reducible refine Pw.b_d' ?_)
  | (with_reducible refine Pw.b_dn ?_)
  | (with_reducible refine Pw.b_dn' ?_)
  | (with_reducible refine Pw.ex_2 ?_)
  | ((with_reducible refine Far.ev_top ?hT ?_); (case hT => assumption))
  | ((with_reducible refine Far.ev_bot ?hT ?_); (case hT => assumption))
  | (with_reducible refine Far.ex_sh ?_)
  | ((with_reducible refine Far.isi_sh ?hT ?_); (case hT => assumption))
  | (with_reducible refine Far.isi_ib ?_)
  | (with_reducible refine Far.isi_ii ?_)
  | (with_reducible refine Pw.ov_eq2 ?_)
  | (with_reducible refine Pw.ov_ne2 ?_)
  | (with_reducible refine Far.ov_eqP ?_)
  | (with_reducible refine Far.ov_neP ?_)
  | (with_reducible refine Far.ex_ii ?_)
  | (with_reducible refine Far.ex_i ?_)
  | (with_reducible refine Far.ev_wellN ?_)
  | ((with_reducible refine Far.ov_shEq ?hT ?_); (case hT => assumption))
  | ((with_reducible refine Far.ov_shNe ?hT ?_); (case hT => assumption))
  | (with_reducible refine Pw.sv_asg2 ?_)
  | (with_reducible refine Pw.sv_asg3 ?_)
  | (with_reducible refine Pw.tryK_nx ?_)
  | (with_reducible refine Pw.tryK_rt ?_)
  | (with_reducible refine Pw.unK_rt ?_)
  | (with_reducible refine Pw.unK_nx ?_)
  | (with_reducible refine Pw.ex_t2 ?_)
  | (with_reducible refine Pw.ex_t3 ?_))
local macro_rules | `(tactic| walk_at "pks") => `(tactic| repeat (walk_at "pk"))
local macro_rules | `(tactic| walk_at "le") => `(tactic| (repeat (first | exact trivial | refine And.intro rfl ?_)))
local macro_rules | `(tactic| walk_at "po") => `(tactic| first
  | walk_at "pk"
  | ((with_reducible refine Far.plus_s ?h ?_); (case h => decide))
  | ((with_reducible refine Far.minus_s ?h ?_); (case h => decide))
  | ((with_reducible refine Far.times_s ?h ?_); (case h => decide))
  | ((with_reducible refine Far.less_s ?h ?_); (case h => decide)))
local macro_rules | `(tactic| walk_at "pos") => `(tactic| repeat (walk_at "po"))
local macro_rules | `(tactic| walk_at "gn") => `(tactic| first
  | ((refine Far.bN' ?h ?_); (case h => grind))
  | ((refine Far.bN ?h ?_); (case h => grind)))
namespace Far
open PySem PySem.Spec PyProof.Rows L2 Pw
open FM (Bq)
/-! ### the law on plans -/
def c_LmadeQ (T : Cfg) : PC := fun ds P _ => ∃ rows : List (List Od), ds = [plD rows] ∧ PlOk 60 16 rows ∧ P (plS rows)
def c_LdueQ (T : Cfg) : PC := fun ds P _ => ∃ (rows : List (List Od)) (fs ss : List Rat), ds = [plD rows, prL fs, prL ss] ∧ PlOk 60 16 rows ∧ fs.length ≤ 12 ∧ ss.length ≤ 12 ∧ ∀ b : Bool, (b = true ↔ OkP rows fs ss) → P (.bl b)
def c_LotherQ (T : Cfg) : Nat → List D → (D → Nat → Prop) → Prop := fun b rest P => ∃ (rows : List (List Od)) (n l : Nat), rest = [plD rows] ∧ PlOk n l rows ∧ rows ≠ [] ∧ (∀ r ∈ rows, r ≠ []) ∧ n ≤ 40 ∧ l ≤ 14 ∧ 8 ≤ b ∧ ∀ (rows' : List (List Od)) (b' : Nat), PlOk (n + 20) (l + 1) rows' → b ≤ b' + 8 → P (plD rows') b'
theorem len_LmadeQ {T : Cfg} : ∀ ds μ P XP, pu (c_LmadeQ T) ds μ P XP → ds.length = 1 := by
  rintro ds μ P XP ⟨rfl, Pf, Xf, ⟨r, rfl, _⟩, _⟩; rfl
theorem len_LdueQ {T : Cfg} : ∀ ds μ P XP, pu (c_LdueQ T) ds μ P XP → ds.length = 3 := by
  rintro ds μ P XP ⟨rfl, Pf, Xf, ⟨r, f, s, rfl, _⟩, _⟩; rfl
theorem len_LotherQ {T : Cfg} : ∀ ds μ P XP, wl (c_LotherQ T) ds μ P XP → ds.length = 2 := by
  rintro ds μ P XP ⟨a, b, rest, rfl, rfl, Pf, ⟨r, n, l, rfl, _⟩, _⟩; rfl
def t_LmadeQ (T : Cfg) (E : XK) : TS := (tRet (tLc (iList T.K (tVar 0)) (gName 1) tYes (tLc (iList T.K (tVar 1)) (gName 2) tYes (tIf (tB (tCB (rIsi T.K) (tCons (tVar 2) (tCons (tC (.ty "tuple")) tNil)))) (tMake (T.cls 0) (spOf T (ini 0 (c_Share___init__ T))) [] E0 (tCons (tOp (rIxT T.K) (tVar 2) (tC (.int 0))) (tCons (tOp (rIxT T.K) (tVar 2) (tC (.int 1))) tNil))) (tVar 2)) [2]) [1]))
def t_LdueQ (T : Cfg) (E : XK) : TS := (tSeq (tIfS (tOr (tTest (tOp rNe (tCB (Pw.rLen T.K) (tCons (tVar 0) tNil)) (tCB (Pw.rLen T.K) (tCons (tVar 1) tNil)))) (tTest (tOp (rNeD T.K) (tLc (iList T.K (tVar 0)) (gName 3) (tTest (tOp rNe (tCB (Pw.rLen T.K) (tCons (tVar 3) tNil)) (tCB (Pw.rLen T.K) (tCons (tVar 2) tNil)))) (tVar 3) [3]) (tLst tNil)))) (tRet (tC (.bl false))) tNext)
    (tSeq (tFor (iZip T.K (tCons (tVar 0) (tCons (tVar 1) tNil))) (gTup T.K 2 (gCons (gName 3) (gCons (gName 4) gNil))) (tSeq (tAsg (tLc (iList T.K (tVar 3)) (gName 6) (tOr (tNot (tB (tCB (rIsi T.K) (tCons (tVar 6) (tCons (tC (.ty "tuple")) tNil))))) (tTest (tOp (rI0 fun i j => .bl (decide (i < j))) (tOp (rIxT T.K) (tVar 6) (tC (.int 0))) (tC (.int 0))))) (tVar 6) [6]) (gName 5))
    (tIfS (tOr (tTest (tOp (rNeD T.K) (tVar 5) (tLst tNil))) (tTest (tOp (rNeD T.K) (tCall (spOf T (pu (c_Ltotal T))) [] E0 (tCons (tVar 3) tNil)) (tVar 4)))) (tRet (tC (.bl false))) tNext)))
    (tRet (tOp (rEqD T.K) (tLc (iRng1 (tCons (tCB (Pw.rLen T.K) (tCons (tVar 2) tNil)) tNil)) (gName 7) tYes (tCall (spOf T (pu (c_Ltotal T))) [] E0 (tCons (tLc (iList T.K (tVar 0)) (gName 3) tYes (tOp (rIxL T.K) (tVar 3) (tVar 7)) [3]) tNil)) [7]) (tVar 2)))))
def t_LotherQ (T : Cfg) (E : XK) : TS := (tSeq (tAsg (tCall (spOf T (wl (c_Ldraw T))) [] E0 (tCons (tVar 0) (tCons (tCB (Pw.rLen T.K) (tCons (tVar 1) tNil)) tNil))) (gName 2))
    (tSeq (tAsg (tCB (rListOf T.K) (tCons (tOp (rIxL T.K) (tVar 1) (tVar 2)) tNil)) (gName 3))
    (tSeq (tAsg (tCall (spOf T (wl (c_Ldraw T))) [] E0 (tCons (tVar 0) (tCons (tCB (Pw.rLen T.K) (tCons (tVar 3) tNil)) tNil))) (gName 4))
    (tSeq (tAsg (tCall (spOf T (wl (c_Ldraw T))) [] E0 (tCons (tVar 0) (tCons (tC (.int 7)) tNil))) (gName 5))
    (tSeq (tIfS (tAnd (tTest (tOp (rIn T.K false) (tVar 5) (tTup (tCons (tC (.int 0)) (tCons (tC (.int 2)) tNil))))) (tTest (tOp (rNeD T.K) (tLc (iList T.K (tVar 3)) (gName 7) (tNot (tB (tCB (rIsi T.K) (tCons (tVar 7) (tCons (tC (.ty "tuple")) tNil))))) (tVar 7) [7]) (tLst tNil)))) (tRet (tRevL T.K (tVar 1))) tNext)
    (tSeq (tIfS (tTest (tOp rEq (tVar 5) (tC (.int 0)))) (tAsg (tCall (spOf T (pu (c_Ladded T))) [] E0 (tCons (tOp (rIxL T.K) (tVar 3) (tVar 4)) (tCons (tCall (spOf T (wl (c_Lone T))) [] E0 (tCons (tVar 0) (tCons (tLst (tCons (tTup (tCons (tC (.int 1)) (tCons (tC (.int 100)) tNil))) (tCons (tTup (tCons (tUn (rU fun i => .int (-i)) (tC (.int 1))) (tCons (tC (.int 100)) tNil))) (tCons (tTup (tCons (tUn (rU fun i => .int (-i)) (tC (.int 2))) (tCons (tC (.int 1)) tNil))) (tCons (tTup (tCons (tC (.int 1)) (tCons (tC (.int 1)) tNil))) tNil))))) tNil))) tNil))) (gSub (tVar 3) (tVar 4) rSetL)) (tIfS (tTest (tOp rEq (tVar 5) (tC (.int 1)))) (tSeq (tAsg (tCall (spOf T (wl (c_Ldraw T))) [] E0 (tCons (tVar 0) (tCons (tCB (Pw.rLen T.K) (tCons (tVar 3) tNil)) tNil))) (gName 6))
    (tAsg (tTup (tCons (tOp (rIxL T.K) (tVar 3) (tVar 6)) (tCons (tOp (rIxL T.K) (tVar 3) (tVar 4)) tNil))) (gTup T.K 2 (gCons (gSub (tVar 3) (tVar 4) rSetL) (gCons (gSub (tVar 3) (tVar 6) rSetL) gNil))))) (tIfS (tTest (tOp rEq (tVar 5) (tC (.int 2)))) (tSeq (tAsg (tCall (spOf T (wl (c_Ldraw T))) [] E0 (tCons (tVar 0) (tCons (tCB (Pw.rLen T.K) (tCons (tVar 3) tNil)) tNil))) (gName 6))
    (tSeq (tAsg (tCall (spOf T (pu (c_Ladded T))) [] E0 (tCons (tOp (rIxL T.K) (tVar 3) (tVar 4)) (tCons (tTup (tCons (tUn (rU fun i => .int (-i)) (tC (.int 1))) (tCons (tC (.int 7)) tNil))) tNil))) (gSub (tVar 3) (tVar 4) rSetL))
    (tAsg (tCall (spOf T (pu (c_Ladded T))) [] E0 (tCons (tOp (rIxL T.K) (tVar 3) (tVar 6)) (tCons (tTup (tCons (tC (.int 1)) (tCons (tC (.int 7)) tNil))) tNil))) (gSub (tVar 3) (tVar 6) rSetL)))) (tIfS (tTest (tOp rEq (tVar 5) (tC (.int 3)))) (tAsg (tCall (spOf T (wl (c_Lone T))) [] E0 (tCons (tVar 0) (tCons (tLst (tCons (tC (.int 0)) (tCons (tC .non) (tCons (tC (.str "0")) (tCons (tC (.bl true)) tNil))))) tNil))) (gSub (tVar 3) (tVar 4) rSetL)) (tIfS (tTest (tOp rEq (tVar 5) (tC (.int 4)))) (tAsg (tCall (spOf T (wl (c_Lone T))) [] E0 (tCons (tVar 0) (tCons (tLst (tCons (tSl (rSlL T.K) (tVar 3) (tPart (tC (.int 1))) tNoPart) (tCons (tOp rCat (tVar 3) (tLst (tCons (tTup (tCons (tC (.int 0)) (tCons (tC (.int 1)) tNil))) tNil))) tNil))) tNil))) (gName 3)) (tIfS (tTest (tOp rEq (tVar 5) (tC (.int 5)))) (tRet (tCall (spOf T (wl (c_Lone T))) [] E0 (tCons (tVar 0) (tCons (tLst (tCons (tSl (rSlL T.K) (tVar 1) (tPart (tC (.int 1))) tNoPart) (tCons (tOp rCat (tVar 1) (tLst (tCons (tVar 3) tNil))) (tCons (tRevL T.K (tVar 1)) tNil)))) tNil)))) tNext))))))
    (tRet (tOp rCat (tOp rCat (tSl (rSlL T.K) (tVar 1) tNoPart (tPart (tVar 2))) (tLst (tCons (tVar 3) tNil))) (tSl (rSlL T.K) (tVar 1) (tPart (tOp (rI0 fun i j => .int (i + j)) (tVar 2) (tC (.int 1)))) tNoPart)))))))))
def t_law (T : Cfg) (E : XK) : TS := (tSeq (tFor (iList T.K (tOp rCat (tSl (rSlL T.K) (tVar 0) tNoPart (tPart (tC (.int 6)))) (tLst (tCons (tC (.int 0)) (tCons (tC (.int 1)) tNil))))) (gName 1) (tSeq (tAsg (tCall (spOf T (c_Lwell T)) [] E0 (tCons (tVar 1) tNil)) (gName 2))
    (tSeq (tAsg (tCall (spOf T (wl (c_Lone T))) [] E0 (tCons (tVar 2) (tCons (tLst (tCons (tC (.int 4)) (tCons (tC (.int 4)) (tCons (tC (.int 4)) (tCons (tC (.int 12)) tNil))))) tNil))) (gName 3))
    (tSeq (tAsg (tCall (spOf T (wl (c_Lheap T))) [] E0 (tCons (tVar 2) (tCons (tOp (rI0 fun i j => .int (i + j)) (tC (.int 1)) (tCall (spOf T (wl (c_Ldraw T))) [] E0 (tCons (tVar 2) (tCons (tVar 3) tNil)))) tNil))) (gName 4))
    (tSeq (tAsg (tCall (spOf T (wl (c_Lheap T))) [] E0 (tCons (tVar 2) (tCons (tOp (rI0 fun i j => .int (i + j)) (tC (.int 1)) (tCall (spOf T (wl (c_Ldraw T))) [] E0 (tCons (tVar 2) (tCons (tVar 3) tNil)))) tNil))) (gName 5))
    (tSeq (tAsg (tCall (spOf T (wl (c_Lfilled T))) [] E0 (tCons (tVar 2) (tCons (tVar 4) (tCons (tVar 5) tNil)))) (gName 6))
    (tSeq (tAsg (tTup (tCons (tCall (spOf T (pu (c_Lshares T))) [] E0 (tCons (tVar 4) tNil)) (tCons (tCall (spOf T (pu (c_Lshares T))) [] E0 (tCons (tVar 5) tNil)) tNil))) (gName 7))
    (tSeq (tIfS (tTest (tOp Pw.rNotB (tCall (spOf T (pu (c_is_plan T))) [] E0 (tCons (tCall (spOf T (pu (c_LmadeQ T))) [] E0 (tCons (tVar 6) tNil)) (tCons (tOp (rIxT T.K) (tVar 7) (tC (.int 0))) (tCons (tOp (rIxT T.K) (tVar 7) (tC (.int 1))) tNil)))) (tC (.bl true)))) (tRet (tC (.bl false))) tNext)
    (tSeq (tFor (iRng1 (tCons (tC (.int 3)) tNil)) (gName 8) (tSeq (tAsg (tVar 6) (gName 10))
    (tSeq (tFor (iRng1 (tCons (tOp (rI0 fun i j => .int (i + j)) (tC (.int 1)) (tCall (spOf T (wl (c_Ldraw T))) [] E0 (tCons (tVar 2) (tCons (tC (.int 2)) tNil)))) tNil)) (gName 11) (tIfS (tAnd (tTest (tOp (rNeD T.K) (tVar 10) (tLst tNil))) (tTest (tOp (rEqD T.K) (tLc (iList T.K (tVar 10)) (gName 13) (tTest (tOp (rEqD T.K) (tVar 13) (tLst tNil))) (tVar 13) [13]) (tLst tNil)))) (tAsg (tCall (spOf T (wl (c_LotherQ T))) [] E0 (tCons (tVar 2) (tCons (tVar 10) tNil))) (gName 10)) tNext))
    (tSeq (tAsg (tCall (spOf T (pu (c_is_plan T))) [] E0 (tCons (tCall (spOf T (pu (c_LmadeQ T))) [] E0 (tCons (tVar 10) tNil)) (tCons (tOp (rIxT T.K) (tVar 7) (tC (.int 0))) (tCons (tOp (rIxT T.K) (tVar 7) (tC (.int 1))) tNil)))) (gName 12))
    (tIfS (tOr (tNot (tB (tCB (rIsi T.K) (tCons (tVar 12) (tCons (tC (.ty "bool")) tNil))))) (tTest (tOp rNe (tVar 12) (tCall (spOf T (pu (c_LdueQ T))) [] E0 (tCons (tVar 10) (tCons (tVar 4) (tCons (tVar 5) tNil))))))) (tRet (tC (.bl false))) tNext)))))
    (tSeq (tAsg (tLst (tCons (tC .non) (tCons (tC (.int 7)) (tCons (tC (.str "plan")) (tCons tDNewK (tCons (tTup tNil) (tCons (tLst (tCons (tC .non) tNil)) (tCons (tLst (tCons (tLst (tCons (tC .non) tNil)) tNil)) (tCons (tCB (rTupOf T.K) (tCons (tCall (spOf T (pu (c_LmadeQ T))) [] E0 (tCons (tVar 6) tNil)) tNil)) (tCons (tMake (T.cls 0) (spOf T (ini 0 (c_Share___init__ T))) [.int 1] E0 (tCons (tC (.int 1)) tNil)) tNil)))))))))) (gName 9))
    (tSeq (tDrop (tBM T.K "list" rAppend (tVar 9) (tCons (tLc (iList T.K (tCall (spOf T (pu (c_LmadeQ T))) [] E0 (tCons (tVar 6) tNil))) (gName 13) tYes (tCB (rTupOf T.K) (tCons (tVar 13) tNil)) [13]) tNil)))
    (tSeq (tIfS (tTest (tOp Pw.rNotB (tCall (spOf T (pu (c_is_plan T))) [] E0 (tCons (tCall (spOf T (wl (c_Lone T))) [] E0 (tCons (tVar 2) (tCons (tVar 9) tNil))) (tCons (tOp (rIxT T.K) (tVar 7) (tC (.int 0))) (tCons (tOp (rIxT T.K) (tVar 7) (tC (.int 1))) tNil)))) (tC (.bl false)))) (tRet (tC (.bl false))) tNext)
    (tIfS (tTest (tOp (rNeG (DTup T.K (DList (DSh T)))) (tVar 7) (tTup (tCons (tCall (spOf T (pu (c_Lshares T))) [] E0 (tCons (tVar 4) tNil)) (tCons (tCall (spOf T (pu (c_Lshares T))) [] E0 (tCons (tVar 5) tNil)) tNil))))) (tRet (tC (.bl false))) tNext)))))))))))))
    (tRet (tC (.bl true))))
theorem shOf_od (o : Od) : shOf (odD o) = odS o := by
  cases o with
  | pr q => exact shOf_pr q
  | _ => rfl
theorem od_pln1 (o : Od) : ∃ p, Pln (odD o) p ∧ p.depth ≤ 1 := by
  cases o with
  | pr q => exact ⟨_, pln_2 _ _, by simp [PyData.depth, PyData.depthAll]⟩
  | zero => exact ⟨_, pln_int 0, by simp [PyData.depth]⟩
  | none => exact ⟨_, pln_non, by simp [PyData.depth]⟩
  | txt => exact ⟨_, ⟨.str _, by decide +kernel, by simp [PyData.depth]⟩, by simp [PyData.depth]⟩
  | tru => exact ⟨_, pln_bl true, by simp [PyData.depth]⟩
theorem od_pln (o : Od) : ∃ p, Pln (odD o) p := by
  obtain ⟨p, h, _⟩ := od_pln1 o
  exact ⟨p, h⟩
theorem row_pln (os : List Od) : ∃ p, Pln (.lst (os.map odD)) p := pln_row fun d hd => by
  obtain ⟨o, _, rfl⟩ := List.mem_map.1 hd
  exact od_pln1 o
theorem pure_LmadeQ {T : Cfg} (hT : ShOk T) : ∀ E ds μ P XP, pu (c_LmadeQ T) ds μ P XP → SV T (t_LmadeQ T E) (fun cls dd _ H => E cls dd H) ⟨slots 3 ds, μ⟩ (fnK P XP) := by
  rintro E ds μ P XP ⟨rfl, Pf, Xf, ⟨rows, rfl, h1, p⟩, hP, hX⟩
  have hl := h1.1
  unfold t_LmadeQ
  walk_at "pks"
  refine ev_lcF ?_
  walk_at "pks"
  refine ⟨_, rowSh, .inl rfl, by rw [List.length_map]; omega, fun e he => ?_, ?_⟩
  · obtain ⟨os, hos, rfl⟩ := List.mem_map.1 he
    have ho := h1.2 os hos
    refine ev_lcF ?_
    walk_at "pks"
    refine ⟨_, shOf, .inl rfl, by rw [List.length_map]; exact Nat.le_trans ho.1 (by decide), fun e he => ?_, rfl, rfl⟩
    obtain ⟨o, hm, rfl⟩ := List.mem_map.1 he
    have hb := ho.2 o hm
    rw [shOf_od]
    cases o with
    | pr q =>
      walk_at "pks"
      refine isi_tp ?_
      walk_at "pks"
      refine ov_ixP0 ?_
      walk_at "pks"
      refine ov_ixP1 ?_
      walk_at "pks"
      have hb' : Bq 9000 q := Bq.mono (n := 60) hb (by decide)
      refine ⟨den_ne q, hb'.bd, ?_, rfl⟩
      rw [Rat.num_divInt_den]
      rfl
    | zero =>
      walk_at "pks"
      refine isi_t (th_int hT 0) (by simp [tys]) ?_
      refine ex_bl (bF (by decide) ?_)
      walk_at "pks"
      exact ⟨rfl, rfl⟩
    | none =>
      walk_at "pks"
      refine isi_t (th_non hT) (by simp [tys]) ?_
      refine ex_bl (bF (by decide) ?_)
      walk_at "pks"
      exact ⟨rfl, rfl⟩
    | txt =>
      walk_at "pks"
      refine isi_t (th_str hT _) (by simp [tys]) ?_
      refine ex_bl (bF (by decide) ?_)
      walk_at "pks"
      exact ⟨rfl, rfl⟩
    | tru =>
      walk_at "pks"
      refine isi_t (th_bl hT true) (by simp [tys]) ?_
      refine ex_bl (bF (by decide) ?_)
      walk_at "pks"
      exact ⟨rfl, rfl⟩
  have er : (rows.map fun r => D.lst (r.map odD)).map rowSh = rows.map fun r => D.lst (r.map odS) := by
    rw [List.map_map]
    refine List.map_congr_left fun os _ => ?_
    show D.lst ((os.map odD).map shOf) = _
    rw [List.map_map]
    exact congrArg D.lst (List.map_congr_left fun o _ => shOf_od o)
  rw [er]
  exact hP _ p
def gBad : D → Option D
  | .tup [.int a, b] => if a < 0 then some (.tup [.int a, b]) else none
  | d => some d
theorem gBad_od {o : Od} : gBad (odD o) = none ↔ o.isP = true ∧ 0 ≤ o.val := by
  cases o with
  | pr q =>
    show (if q.num < 0 then some _ else none) = none ↔ _
    constructor
    · intro h
      refine ⟨rfl, ?_⟩
      split at h
      · cases h
      · rename_i hn
        show (0 : Rat) ≤ q
        exact Rat.num_nonneg.mp (by omega)
    · rintro ⟨_, h⟩
      have : 0 ≤ q.num := Rat.num_nonneg.mpr h
      rw [if_neg (by omega)]
  | _ => exact ⟨fun h => (nomatch h), fun h => (nomatch h.1)⟩
theorem gBad_nil {os : List Od} : (os.map odD).filterMap gBad = [] ↔ ∀ o ∈ os, o.isP = true ∧ 0 ≤ o.val := by
  rw [List.filterMap_eq_nil_iff]
  constructor
  · intro h o ho
    exact gBad_od.mp (h _ (List.mem_map.2 ⟨o, ho, rfl⟩))
  · intro h d hd
    obtain ⟨o, ho, rfl⟩ := List.mem_map.1 hd
    exact gBad_od.mpr (h o ho)
theorem gBad_sub {o : Od} {d : D} (h : gBad (odD o) = some d) : d = odD o := by
  cases o with
  | pr q =>
    have h : (if q.num < 0 then some (odD (.pr q)) else none) = some d := h
    split at h
    · exact (Option.some.inj h).symm
    · cases h
  | _ => exact (Option.some.inj h).symm
def gLen (m : Nat) : D → Option D
  | .lst es => if (es.length : Int) = (m : Int) then none else some (.lst es)
  | d => some d
theorem pl_pr (qrs : List (List Rat)) : plD (qrs.map fun r => r.map Od.pr) = prR qrs := by
  show D.lst _ = D.lst _
  rw [List.map_map]
  exact congrArg D.lst (List.map_congr_left fun r _ => by
    show D.lst ((r.map Od.pr).map odD) = _
    rw [List.map_map]; rfl)
def unLp : D → List Rat
  | .lst es => es.map unPr
  | _ => []
theorem unLp_pr (qs : List Rat) : unLp (.lst (qs.map prD)) = qs := by
  show (qs.map prD).map unPr = qs
  rw [List.map_map]
  exact (List.map_congr_left fun q _ => unPr_pr q).trans (List.map_id _)
theorem pure_LdueQ {T : Cfg} (hT : ShOk T) : ∀ E ds μ P XP, pu (c_LdueQ T) ds μ P XP → SV T (t_LdueQ T E) (fun cls dd _ H => E cls dd H) ⟨slots 8 ds, μ⟩ (fnK P XP) := by
  rintro E ds μ P XP ⟨rfl, Pf, Xf, ⟨rows, fs, ss, rfl, ho, lf, ls, p⟩, hP, hX⟩
  have hl16 := ho.1
  unfold t_LdueQ
  walk_at "pks"
  refine cv_len (.inl rfl) ?_
  walk_at "pks"
  refine cv_len (.inl rfl) ?_
  rw [List.length_map, List.length_map]
  walk_at "pks"
  refine ⟨fun hA => ?_, fun hA => ?_⟩
  rotate_left
  · walk_at "pks"
    refine hP _ (p _ ⟨fun z => (nomatch z), fun z => ?_⟩)
    rw [decide_eq_true (by rw [z.1])] at hA
    cases hA
  have hlen : rows.length = fs.length := by
    have : decide ((rows.length : Int) = (fs.length : Int)) = true := by simpa using hA
    have := of_decide_eq_true this
    omega
  clear hA
  walk_at "pks"
  refine ev_lcT ?_
  walk_at "pks"
  refine ⟨_, .inl rfl, by rw [List.length_map]; omega, gLen ss.length, fun x hx => ?_, ?_⟩
  · obtain ⟨r, hr, rfl⟩ := List.mem_map.1 hx
    walk_at "pks"
    refine cv_len (.inl rfl) ?_
    walk_at "pks"
    refine cv_len (.inl rfl) ?_
    walk_at "pks"
    refine ⟨rfl, fun hb => ?_, fun hb => ?_⟩
    · walk_at "pks"
      refine ⟨?_, rfl⟩
      show (if ((r.map odD).length : Int) = (ss.length : Int) then none else some _) = _
      rw [if_neg]
      intro z
      rw [List.length_map (f := prD), decide_eq_true z] at hb
      cases hb
    · show (if ((r.map odD).length : Int) = (ss.length : Int) then none else some _) = _
      rw [if_pos]
      have hb : decide (((r.map odD).length : Int) = ((ss.map prD).length : Int)) = true := by simpa using hb
      have := of_decide_eq_true hb
      rw [List.length_map (f := prD)] at this
      exact this
  have keyL : ((rows.map fun r => D.lst (r.map odD)).filterMap (gLen ss.length)) = [] ↔ ∀ r ∈ rows, r.length = ss.length := by
    rw [List.filterMap_eq_nil_iff]
    constructor
    · intro h r hr
      have := h _ (List.mem_map.2 ⟨r, hr, rfl⟩)
      have this : (if ((r.map odD).length : Int) = (ss.length : Int) then none else some (D.lst (r.map odD))) = none := this
      split at this
      · rename_i e
        rw [List.length_map] at e
        omega
      · cases this
    · intro h d hd
      obtain ⟨r, hr, rfl⟩ := List.mem_map.1 hd
      show (if ((r.map odD).length : Int) = (ss.length : Int) then none else some (D.lst (r.map odD))) = none
      rw [if_pos]
      rw [List.length_map, h r hr]
  walk_at "pks"
  refine ov_neNil rfl (fun d hd => ?_) ?_
  · rw [List.mem_filterMap] at hd
    obtain ⟨x, hx, hd⟩ := hd
    obtain ⟨r, hr, rfl⟩ := List.mem_map.1 hx
    have hd : (if ((r.map odD).length : Int) = (ss.length : Int) then none else some (D.lst (r.map odD))) = some d := hd
    split at hd
    · cases hd
    · cases hd
      exact row_pln r
  walk_at "pks"
  refine ⟨fun hC => ?_, fun hC => ?_⟩
  · walk_at "pks"
    refine hP _ (p _ ⟨fun z => (nomatch z), fun z => ?_⟩)
    rw [keyL.mpr fun r hr => (z.2.1 r hr).1] at hC
    cases hC
  have hrl : ∀ r ∈ rows, r.length = ss.length := keyL.mp (List.eq_nil_of_length_eq_zero (of_decide_eq_true (p := ((rows.map fun r => D.lst (r.map odD)).filterMap (gLen ss.length)).length = 0) (by simpa using hC)))
  clear hC keyL
  refine sv_next (seqK_nx ?_)
  refine sv_seq (sv_forZ ?_)
  walk_at "pks"
  refine ⟨_, _, _, _, fun _ => [some (plD rows), some (prL fs), some (prL ss), none, none, none, none, none], fun k μ => μ = mu0 ∧ ∀ (i : Nat) (r : List Od) (f : Rat), i < k → rows[i]? = some r → fs[i]? = some f → (∀ o ∈ r, o.isP = true ∧ 0 ≤ o.val) ∧ (r.map Od.val).sum = f, rfl, .inl rfl, .inl rfl, ⟨rfl, rfl, rfl, trivial⟩, ⟨rfl, fun i r f hi => by omega⟩, fun k x y μ' hx hy em => ?_, fun s' hs em => ?_⟩
  · obtain ⟨rfl, hk⟩ := em
    rw [List.getElem?_map, Option.map_eq_some_iff] at hx hy
    obtain ⟨r, hr, rfl⟩ := hx
    obtain ⟨f, hf, rfl⟩ := hy
    have hro := ho.2 r (List.mem_of_getElem? hr)
    have hrl' := hro.1
    walk_at "pks"
    refine ev_lcT ?_
    walk_at "pks"
    refine ⟨_, .inl rfl, by rw [List.length_map]; omega, gBad, fun x hx => ?_, ?_⟩
    · obtain ⟨o, hom, rfl⟩ := List.mem_map.1 hx
      cases o with
      | pr q =>
        walk_at "pks"
        refine isi_tp ?_
        walk_at "pks"
        refine ov_ixP0 ?_
        walk_at "pks"
        refine ⟨rfl, fun hb => ?_, fun hb => ?_⟩
        · walk_at "pks"
          refine ⟨?_, rfl⟩
          show (if q.num < 0 then some _ else none) = _
          rw [if_pos (of_decide_eq_true hb)]
          rfl
        · show (if q.num < 0 then some _ else none) = _
          rw [if_neg (of_decide_eq_false hb)]
      | zero =>
        walk_at "pks"
        refine isi_t (th_int hT 0) (by simp [tys]) ?_
        refine ex_bl (bT' (by decide) ?_)
        refine ⟨rfl, fun _ => ?_, fun e => (nomatch e)⟩
        walk_at "pks"
        exact ⟨rfl, rfl⟩
      | none =>
        walk_at "pks"
        refine isi_t (th_non hT) (by simp [tys]) ?_
        refine ex_bl (bT' (by decide) ?_)
        refine ⟨rfl, fun _ => ?_, fun e => (nomatch e)⟩
        walk_at "pks"
        exact ⟨rfl, rfl⟩
      | txt =>
        walk_at "pks"
        refine isi_t (th_str hT _) (by simp [tys]) ?_
        refine ex_bl (bT' (by decide) ?_)
        refine ⟨rfl, fun _ => ?_, fun e => (nomatch e)⟩
        walk_at "pks"
        exact ⟨rfl, rfl⟩
      | tru =>
        walk_at "pks"
        refine isi_t (th_bl hT true) (by simp [tys]) ?_
        refine ex_bl (bT' (by decide) ?_)
        refine ⟨rfl, fun _ => ?_, fun e => (nomatch e)⟩
        walk_at "pks"
        exact ⟨rfl, rfl⟩
    walk_at "pks"
    refine ov_neNil rfl (fun d hd => ?_) ?_
    · rw [List.mem_filterMap] at hd
      obtain ⟨x, hx, hd⟩ := hd
      obtain ⟨o, _, rfl⟩ := List.mem_map.1 hx
      rw [gBad_sub hd]
      exact od_pln o
    walk_at "pks"
    refine ⟨fun hB => ?_, fun hB => ?_⟩
    rotate_left
    · walk_at "pks"
      refine hP _ (p _ ⟨fun z => (nomatch z), fun z => ?_⟩)
      rw [gBad_nil.mpr (z.2.1 r (List.mem_of_getElem? hr)).2] at hB
      cases hB
    have hgood : ∀ o ∈ r, o.isP = true ∧ 0 ≤ o.val := gBad_nil.mp (List.eq_nil_of_length_eq_zero (of_decide_eq_true (p := ((r.map odD).filterMap gBad).length = 0) (by simpa using hB)))
    clear hB
    obtain ⟨qs, rfl⟩ := allPr fun o h => (hgood o h).1
    have eq1 : (qs.map Od.pr).map odD = qs.map prD := by rw [List.map_map]; rfl
    rw [eq1]
    rw [List.length_map] at hrl'
    have bq : ∀ q ∈ qs, Bq 60 q := fun q hq => hro.2 (.pr q) (List.mem_map.2 ⟨q, hq, rfl⟩)
    walk_at "pks"
    refine total_i bq ?_ ?_
    · have : (qs.length + 1) * (60 + 2) ≤ 17 * 62 := Nat.mul_le_mul_right _ (by omega)
      omega
    walk_at "pks"
    refine ⟨fun hC => ?_, fun hC => ?_⟩
    · walk_at "pks"
      refine hP _ (p _ ⟨fun z => (nomatch z), fun z => ?_⟩)
      have := z.2.2.1 k _ f hr hf
      rw [val_pr] at this
      rw [decide_eq_true this] at hC
      cases hC
    · have hs : qs.sum = f := of_decide_eq_true (by simpa using hC)
      walk_at "pks"
      refine ⟨⟨rfl, rfl, rfl, trivial⟩, rfl, fun i r' f' hi hr' hf' => ?_⟩
      by_cases e : i = k
      · subst e
        rw [hr] at hr'; cases hr'
        rw [hf] at hf'; cases hf'
        exact ⟨hgood, by rw [val_pr]; exact hs⟩
      · exact hk i r' f' (by omega) hr' hf'
  · obtain ⟨em, hk⟩ := em
    refine seqK_res hs ?_
    rw [List.length_map, List.length_map, hlen, Nat.min_self] at hk
    have hgood : ∀ (i : Nat) (r : List Od), rows[i]? = some r → (∀ o ∈ r, o.isP = true ∧ 0 ≤ o.val) ∧ ∀ f, fs[i]? = some f → (r.map Od.val).sum = f := fun i r hr => by
      have hi : i < fs.length := by rw [← hlen]; exact (List.getElem?_eq_some_iff.mp hr).1
      have := hk i r fs[i] hi hr (List.getElem?_eq_getElem hi)
      refine ⟨this.1, fun f hf => ?_⟩
      rw [List.getElem?_eq_getElem hi] at hf
      cases hf
      exact this.2
    have hall : ∀ r ∈ rows, ∀ o ∈ r, o.isP = true ∧ 0 ≤ o.val := fun r hr => by
      obtain ⟨i, hi⟩ := List.getElem?_of_mem hr
      exact (hgood i r hi).1
    obtain ⟨qrs, rfl⟩ := allRows fun r hr o hor => (hall r hr o hor).1
    rw [pl_pr]
    rw [List.length_map] at hl16 hlen
    have bq : ∀ r ∈ qrs, r.length = ss.length ∧ ∀ q ∈ r, Bq 60 q := fun r hr => by
      have h1 := hrl _ (List.mem_map.2 ⟨r, hr, rfl⟩)
      have h2 := ho.2 _ (List.mem_map.2 ⟨r, hr, rfl⟩)
      exact ⟨by simpa using h1, fun q hq => h2.2 (.pr q) (List.mem_map.2 ⟨q, hq, rfl⟩)⟩
    walk_at "pks"
    refine ev_lcW (iv_rng1 ?_)
    walk_at "pks"
    refine cv_len (.inl rfl) ?_
    have hss : (ss.map prD).length = ss.length := List.length_map ..
    walk_at "pks"
    refine ⟨by omega, by omega, by omega, fun _ μ => μ = mu0, fun n x => x = prD (colQ qrs n), rfl, ?_, ?_⟩
    · rintro n μ hn rfl
      have hn : n < ss.length := by omega
      have e0 : (fun i : Nat => D.int (0 + (i : Nat))) n = D.int (n : Int) := by
        show D.int (0 + (n : Int)) = _
        rw [Int.zero_add]
      rw [e0]
      walk_at "pks"
      refine ev_lcF ?_
      walk_at "pks"
      refine ⟨_, fun r => prD ((unLp r).getD n 0), .inl rfl, by rw [List.length_map]; omega, fun e he => ?_, ?_⟩
      · obtain ⟨r, hr, rfl⟩ := List.mem_map.1 he
        have hnr : n < r.length := by rw [(bq r hr).1]; exact hn
        walk_at "pks"
        refine ov_ixL (.inl rfl) (at_nat (d := prD (r.getD n 0)) ?_) ⟨?_, rfl⟩
        · rw [List.getElem?_map, List.getD_eq_getElem?_getD, List.getElem?_eq_getElem hnr]; rfl
        · show _ = prD ((unLp (.lst (r.map prD))).getD n 0)
          rw [unLp_pr]
      have ec : (qrs.map fun r => D.lst (r.map prD)).map (fun r => prD ((unLp r).getD n 0)) = (qrs.map fun r => r.getD n 0).map prD := by
        rw [List.map_map, List.map_map]
        refine List.map_congr_left fun r _ => ?_
        show prD ((unLp (.lst (r.map prD))).getD n 0) = _
        rw [unLp_pr]
        rfl
      rw [ec]
      walk_at "pks"
      refine total_i (n := 60) (fun q hq => ?_) ?_ ⟨rfl, rfl⟩
      · obtain ⟨r, hr, rfl⟩ := List.mem_map.1 hq
        have hnr : n < r.length := by rw [(bq r hr).1]; exact hn
        refine (bq r hr).2 _ ?_
        rw [List.getD_eq_getElem?_getD, List.getElem?_eq_getElem hnr]
        exact List.getElem_mem hnr
      · rw [List.length_map]
        have : (qrs.length + 1) * (60 + 2) ≤ 17 * 62 := Nat.mul_le_mul_right _ (by omega)
        omega
    · rintro acc μ hacc hR rfl
      have e := acc_map (g := fun k => prD (colQ qrs k)) (by simpa using hacc) hR
      have e2 : acc = ((List.range ss.length).map (colQ qrs)).map prD := by rw [e, List.map_map]; rfl
      rw [e2]
      walk_at "pks"
      refine ov_eqPrs ?_
      refine hP _ (p _ ?_)
      rw [decide_eq_true_iff]
      constructor
      · intro h
        refine ⟨by rw [List.length_map]; exact hlen, fun r hr => ⟨hrl r hr, hall r hr⟩, fun k r f hr hf => (hgood k r hr).2 f hf, fun j s hs => ?_⟩
        rw [col_od]
        have hj : j < ss.length := (List.getElem?_eq_some_iff.mp hs).1
        rw [← h, List.getElem?_map, List.getElem?_range (by simpa using hj)] at hs
        exact Option.some.inj hs
      · intro z
        refine List.ext_getElem? fun j => ?_
        rw [List.getElem?_map]
        by_cases hj : j < ss.length
        · rw [List.getElem?_range hj, List.getElem?_eq_getElem hj]
          have := z.2.2.2 j ss[j] (List.getElem?_eq_getElem hj)
          rw [col_od] at this
          show some (colQ qrs j) = _
          rw [this]
        · rw [List.getElem?_eq_none (by simpa using hj), List.getElem?_eq_none (by omega)]
          rfl
theorem cut_K {ds : List D} {k : Nat} : Pw.cutD ds (some (k : Int)) none = ds.drop k := by
  unfold Pw.cutD
  rw [HT.sIx_none, HT.sIx_nat]
  rcases Nat.le_total k ds.length with h | h
  · rw [Nat.min_eq_left h, ← List.length_drop, List.take_length]
  · rw [Nat.min_eq_right h, List.drop_length, List.drop_of_length_le h, List.take_nil]
theorem cut_1 {ds : List D} : Pw.cutD ds (some 1) none = ds.drop 1 := cut_K (k := 1)
theorem cut_T {ds : List D} {k : Nat} : Pw.cutD ds none (some (k : Int)) = ds.take k := by
  unfold Pw.cutD
  rw [HT.sIx_none, HT.sIx_nat, Nat.sub_zero, List.drop_zero]
  rcases Nat.le_total k ds.length with h | h
  · rw [Nat.min_eq_left h]
  · rw [Nat.min_eq_right h, List.take_length, List.take_of_length_le h]
theorem tv_imp {T : Cfg} {W : WX} {t : TT} {s : S} {P P' : Bool → Mu → Prop} {XP : XW} (h : TV T t W s P XP) (k : ∀ b μ, P b μ → P' b μ) : TV T t W s P' XP := fun σ Hb H Q S q x =>
  h σ Hb H Q S (fun b μ' Hb' H' g p => q b μ' Hb' H' g (k b μ' p)) x
theorem stl_mid {μ : Mu} {xs ys : List D} {e e' : D} (h : Stl μ e e') : Stl μ (.lst (xs ++ [e] ++ ys)) (.lst (xs ++ [e'] ++ ys)) := .lst (by simp) fun i x y hx hy => by
  rw [List.append_assoc] at hx hy
  by_cases hi : i < xs.length
  · rw [List.getElem?_append_left hi] at hx hy
    rw [hx] at hy; cases hy; exact .refl _
  · rw [List.getElem?_append_right (by omega)] at hx hy
    cases hk : i - xs.length with
    | zero =>
      rw [hk] at hx hy
      cases hx; cases hy
      exact h
    | succ k =>
      rw [hk] at hx hy
      have hx : ys[k]? = some x := by simpa using hx
      have hy : ys[k]? = some y := by simpa using hy
      rw [hx] at hy; cases hy; exact .refl _
def noT (d : D) : Option D := if kindOf d "tuple" = true then none else some d
theorem noT_od {o : Od} : noT (odD o) = if o.isP = true then none else some (odD o) := by
  cases o <;> rfl
theorem noT_nil {os : List Od} : (os.map odD).filterMap noT = [] ↔ ∀ o ∈ os, o.isP = true := by
  rw [List.filterMap_eq_nil_iff]
  constructor
  · intro h o ho
    have := h _ (List.mem_map.2 ⟨o, ho, rfl⟩)
    rw [noT_od] at this
    split at this
    · assumption
    · cases this
  · intro h d hd
    obtain ⟨o, ho, rfl⟩ := List.mem_map.1 hd
    rw [noT_od, if_pos (h o ho)]
/-- a row within the bounds -/
def RwOk (n l : Nat) (os : List Od) : Prop := os.length ≤ l ∧ ∀ o ∈ os, o.bq n
theorem bq_up {n m : Nat} {o : Od} (h : o.bq n) (k : n ≤ m) : o.bq m := by
  cases o with
  | pr q => exact Bq.mono h k
  | _ => trivial
theorem RwOk.mono {n m l k : Nat} {os : List Od} (h : RwOk n l os) (h1 : n ≤ m) (h2 : l ≤ k) : RwOk m k os := ⟨Nat.le_trans h.1 h2, fun o ho => bq_up (h.2 o ho) h1⟩
theorem RwOk.set {n l : Nat} {os : List Od} (h : RwOk n l os) {j : Nat} {o : Od} (ho : o.bq n) : RwOk n l (os.set j o) := ⟨by rw [List.length_set]; exact h.1, fun z hz => by
  rcases mem_setD hz with e | e
  · rw [e]; exact ho
  · exact h.2 z e⟩
theorem odS_set {os : List Od} {j : Nat} {o : Od} : (os.map odD).set j (odD o) = (os.set j o).map odD := by rw [List.map_set]
theorem pure_LotherQ {T : Cfg} (hT : ShOk T) : ∀ E ds μ P XP, wl (c_LotherQ T) ds μ P XP → SV T (t_LotherQ T E) (fun cls dd _ H => E cls dd H) ⟨slots 8 ds, μ⟩ (fnK P XP) := by
  rintro E ds μ P XP ⟨a, b, rest, rfl, rfl, Pf, ⟨rows, n, l, rfl, hp, hne, hne2, hn, hl, hb, k⟩, hP⟩
  have lr := hp.1
  have lr0 : 0 < rows.length := by
    cases rows with
    | nil => exact absurd rfl hne
    | cons _ _ => simp
  have hl16 : rows.length ≤ 14 := by omega
  have plUp : ∀ rows' : List (List Od), rows'.length ≤ l + 1 → (∀ r ∈ rows', RwOk (n + 20) (l + 1) r) → PlOk (n + 20) (l + 1) rows' := fun rows' h1 h2 => ⟨h1, fun r hr => h2 r hr⟩
  have oldR : ∀ r ∈ rows, RwOk (n + 20) (l + 1) r := fun r hr => RwOk.mono (hp.2 r hr) (by omega) (by omega)
  unfold t_LotherQ
  walk_at "pks"
  refine cv_len (.inl rfl) ?_
  rw [List.length_map]
  walk_at "pks"
  refine ⟨a, b, _, _, rfl, rfl, draw_i (by omega) (by omega) (bt4 (by omega)) fun x x0 x1 => ?_⟩
  obtain ⟨at_, rfl⟩ := natI x0
  have hat : at_ < rows.length := by omega
  have hrow : (rows.map fun r => D.lst (r.map odD))[at_]? = some (.lst (rows[at_].map odD)) := by rw [List.getElem?_map, List.getElem?_eq_getElem hat]; rfl
  have hosO : RwOk n l rows[at_] := hp.2 _ (List.getElem_mem hat)
  have hosN : rows[at_] ≠ [] := hne2 _ (List.getElem_mem hat)
  generalize rows[at_] = os at hrow hosO hosN
  have los := hosO.1
  have pos : 0 < os.length := by
    cases os with
    | nil => exact absurd rfl hosN
    | cons _ _ => simp
  walk_at "pks"
  refine ov_ixL (.inl rfl) (at_nat hrow) ?_
  walk_at "pks"
  refine cv_lstC (.inl (.inl rfl)) fun pR hpR => ?_
  have npa : pR ≠ a := fun e => by rw [e, put_same] at hpR; cases hpR
  generalize hm : put (put mu0 a (.well (b - 1))) pR (.lst (os.map odD)) = m1
  have a1 : m1 a = some (.well (b - 1)) := by rw [← hm, put_ne (fun z => npa z.symm), put_same]
  have q1 : m1 pR = some (.lst (os.map odD)) := by rw [← hm, put_same]
  clear hm hpR
  walk_at "pks"
  refine cv_lenM q1 ?_
  rw [List.length_map]
  walk_at "pks"
  refine ⟨a, _, _, _, rfl, (put_get a1).symm, draw_i (by omega) (by omega) (bt4 (by omega)) fun y y0 y1 => ?_⟩
  obtain ⟨to, rfl⟩ := natI y0
  have hto : to < os.length := by omega
  generalize hm : put m1 a (.well (b - 1 - 1)) = m2
  have a2 : m2 a = some (.well (b - 1 - 1)) := by rw [← hm, put_same]
  have q2 : m2 pR = some (.lst (os.map odD)) := by rw [← hm, put_ne npa]; exact q1
  clear hm
  walk_at "pks"
  refine ⟨a, _, _, _, rfl, (put_get a2).symm, draw_i (by omega) (by decide) (bt4 (by decide)) fun pick u0 u1 => ?_⟩
  generalize hm : put m2 a (.well (b - 1 - 1 - 1)) = m3
  have a3 : m3 a = some (.well (b - 1 - 1 - 1)) := by rw [← hm, put_same]
  have q3 : m3 pR = some (.lst (os.map odD)) := by rw [← hm, put_ne npa]; exact q2
  clear hm
  have hget : ∀ {j : Nat} (h : j < os.length), (os.map odD)[j]? = some (odD os[j]) := fun h => by rw [List.getElem?_map, List.getElem?_eq_getElem h]; rfl
  -- the end
  have back : ∀ (μ : Mu) (b' : Nat) (e : D) (os' : List Od) (z6 : Option D), μ a = some (.well b') → Stl μ e (.lst (os'.map odD)) → RwOk (n + 20) (l + 1) os' → b ≤ b' + 8 →
      SV T (tRet (tOp rCat (tOp rCat (tSl (rSlL T.K) (tVar 1) tNoPart (tPart (tVar 2))) (tLst (tCons (tVar 3) tNil))) (tSl (rSlL T.K) (tVar 1) (tPart (tOp (rI0 fun i j => .int (i + j)) (tVar 2) (tC (.int 1)))) tNoPart))) (fun cls dd _ H => E cls dd H) ⟨[some (.ptr a), some (plD rows), some (.int (at_ : Int)), some e, some (.int (to : Int)), some (.int pick), z6, none], μ⟩ (fnK P XP) := by
    intro μ b' e os' z6 hw he ho hbb
    refine sv_ret (ev_stl (a := a) ?_)
    walk_at "pks"
    refine ev_slL ?_
    walk_at "pks"
    refine ⟨_, rfl, _, .inl rfl, ?_⟩
    rw [cut_T]
    walk_at "pks"
    refine ov_cat (by rw [List.length_take, List.length_map]; simp; omega) ?_
    walk_at "pks"
    refine ev_slL ?_
    walk_at "pks"
    refine ⟨_, rfl, ?_⟩
    walk_at "pks"
    refine ⟨_, .inl rfl, ?_⟩
    have e1 : ((at_ : Int) + 1) = ((at_ + 1 : Nat) : Int) := by omega
    rw [e1, cut_K]
    refine ov_cat (by rw [List.length_append, List.length_take, List.length_drop, List.length_map]; simp; omega) ?_
    rw [← List.map_take, ← List.map_drop]
    have e2 : (rows.take at_ ++ [os'] ++ rows.drop (at_ + 1)).map (fun r => D.lst (r.map odD)) = (rows.take at_).map (fun r => D.lst (r.map odD)) ++ [.lst (os'.map odD)] ++ (rows.drop (at_ + 1)).map (fun r => D.lst (r.map odD)) := by
      rw [List.map_append, List.map_append]; rfl
    refine ⟨plD (rows.take at_ ++ [os'] ++ rows.drop (at_ + 1)), b', ?_, hw, hP _ _ (k _ b' (plUp _ ?_ fun r hr => ?_) hbb)⟩
    · show Stl μ _ (D.lst _)
      rw [e2]
      exact stl_mid he
    · rw [List.length_append, List.length_append, List.length_take, List.length_drop]
      simp
      omega
    · rcases List.mem_append.1 hr with h | h
      · rcases List.mem_append.1 h with h | h
        · exact oldR r (List.mem_of_mem_take h)
        · have : r = os' := by simpa using h
          rw [this]; exact ho
      · exact oldR r (List.mem_of_mem_drop h)
  have revOk : PlOk (n + 20) (l + 1) rows.reverse := plUp _ (by rw [List.length_reverse]; omega) fun r hr => oldR r (List.mem_reverse.mp hr)
  refine seqK_nx (sv_seq (sv_if (tv_imp (P := fun b μ => μ = m3 ∧ (b = false → pick = 0 ∨ pick = 2 → ∀ o ∈ os, o.isP = true)) ?_ ?_)))
  · walk_at "pks"
    refine ov_inI (is := [0, 2]) ?_
    refine ⟨_, rfl, fun hin => ?_, fun hin => ?_⟩
    · walk_at "pks"
      refine ev_lcOT (g := noT) rfl q3 (by rw [List.length_map]; omega) (fun x hx => ?_) ?_
      · obtain ⟨o, _, rfl⟩ := List.mem_map.1 hx
        obtain ⟨t, ht, hk⟩ := od_thD hT o
        walk_at "pks"
        refine isi_t ht (by simp [tys]) ?_
        refine ⟨_, rfl, rfl, fun hb => ?_, fun hb => ?_⟩
        · walk_at "pks"
          refine ⟨?_, rfl⟩
          unfold noT
          rw [if_neg]
          intro z
          rw [z] at hb
          cases hb
        · unfold noT
          rw [if_pos]
          simpa using hb
      walk_at "pks"
      refine ov_neNil rfl (fun d hd => ?_) ?_
      · rw [List.mem_filterMap] at hd
        obtain ⟨x, hx, hd⟩ := hd
        obtain ⟨o, _, rfl⟩ := List.mem_map.1 hx
        have : d = odD o := by
          unfold noT at hd
          split at hd
          · cases hd
          · exact (Option.some.inj hd).symm
        rw [this]
        exact od_pln o
      refine ⟨_, rfl, rfl, fun hf _ => noT_nil.mp (List.eq_nil_of_length_eq_zero (of_decide_eq_true (p := ((os.map odD).filterMap noT).length = 0) (by simpa using hf)))⟩
    · refine ⟨rfl, fun _ h02 => ?_⟩
      have : ¬ pick ∈ ([0, 2] : List Int) := of_decide_eq_false hin
      exact absurd (by rcases h02 with e | e <;> simp [e]) this
  rintro bb μ ⟨em, hpr⟩
  rw [em]
  refine ⟨fun hb => ?_, fun hb => ?_⟩
  · refine sv_ret (ev_stl (a := a) (ev_revL ?_))
    walk_at "pks"
    refine ⟨_, .inl rfl, plD rows.reverse, _, ?_, a3, hP _ _ (k _ _ revOk (by omega))⟩
    rw [← List.map_reverse]
    exact .refl _
  have hpr := hpr hb
  refine sv_next (seqK_nx ?_)
  walk_at "pks"
  refine ⟨fun h0 => ?_, fun h0 => ?_⟩
  · -- a share more or less
    have hall := hpr (.inl (of_decide_eq_true h0))
    obtain ⟨q, hq⟩ : ∃ q, os[to] = .pr q := by
      have := hall _ (List.getElem_mem hto)
      cases e : os[to] with
      | pr q => exact ⟨q, rfl⟩
      | _ => rw [e] at this; cases this
    have hbq : Bq n q := by
      have := hosO.2 _ (List.getElem_mem hto)
      rw [hq] at this
      exact this
    have hg := hget hto
    rw [hq] at hg
    refine sv_setL ?_
    walk_at "pks"
    refine ov_ixM q3 (at_nat hg) ?_
    walk_at "pks"
    refine ⟨a, _, _, _, rfl, (put_get a3).symm, one_i (by omega) (by simp) (by simp) fun e he => ?_⟩
    have he' : ∃ c d : Int, e = .tup [.int c, .int d] ∧ d ≠ 0 ∧ Bt 8 c ∧ Bt 8 d := by
      simp only [List.mem_cons, List.not_mem_nil, or_false] at he
      rcases he with rfl | rfl | rfl | rfl <;> exact ⟨_, _, rfl, by decide, by unfold Bt; decide, by unfold Bt; decide⟩
    obtain ⟨c, d, rfl, d0, bc, bd⟩ := he'
    have b2 : Bq 8 (Rat.divInt c d) := FM.bq_divInt bc bd (by decide)
    walk_at "pks"
    refine ⟨q.num, (q.den : Int), c, d, n, 8, rfl, den_ne q, d0, hbq.bn, hbq.bd, bc, bd, by omega, ?_⟩
    rw [Rat.num_divInt_den]
    walk_at "pks"
    refine ⟨pR, _, _, to, rfl, by rw [put_ne npa]; exact q3, rfl, ixn (by rw [List.length_map]; exact hto), ?_⟩
    have eset : (os.map odD).set to (prD (q + Rat.divInt c d)) = (os.set to (.pr (q + Rat.divInt c d))).map odD := odS_set (o := .pr _)
    rw [eset]
    refine seqK_nx (back _ (b - 1 - 1 - 1 - 1) (.ptr pR) (os.set to (.pr (q + Rat.divInt c d))) none ?_ (.own put_same) (RwOk.set (hosO.mono (by omega) (by omega)) ((hbq.add b2).mono (by omega))) (by omega))
    rw [put_ne (fun z => npa z.symm), put_same]
  walk_at "pks"
  refine ⟨fun h1 => ?_, fun h1 => ?_⟩
  · -- two exchanged
    walk_at "pks"
    refine cv_lenM q3 ?_
    rw [List.length_map]
    walk_at "pks"
    refine ⟨a, _, _, _, rfl, (put_get a3).symm, draw_i (by omega) (by omega) (bt4 (by omega)) fun z z0 z1 => ?_⟩
    obtain ⟨ot, rfl⟩ := natI z0
    have hot : ot < os.length := by omega
    generalize hm : put m3 a (.well (b - 1 - 1 - 1 - 1)) = m4
    have a4 : m4 a = some (.well (b - 1 - 1 - 1 - 1)) := by rw [← hm, put_same]
    have q4 : m4 pR = some (.lst (os.map odD)) := by rw [← hm, put_ne npa]; exact q3
    clear hm
    refine seqK_nx (sv_set2 ?_)
    walk_at "pks"
    refine ov_ixM q4 (at_nat (hget hot)) ?_
    walk_at "pks"
    refine ov_ixM q4 (at_nat (hget hto)) ?_
    walk_at "pks"
    refine ⟨pR, _, _, to, rfl, q4, rfl, ixn (by rw [List.length_map]; exact hto), ?_⟩
    rw [odS_set]
    walk_at "pks"
    refine ⟨pR, _, _, ot, rfl, put_same, rfl, ixn (by rw [List.length_map, List.length_set]; exact hot), ?_⟩
    rw [odS_set, put_put]
    refine seqK_nx (back _ (b - 1 - 1 - 1 - 1) (.ptr pR) ((os.set to os[ot]).set ot os[to]) _ ?_ (.own put_same) (RwOk.set (RwOk.set (hosO.mono (by omega) (by omega)) (bq_up (hosO.2 _ (List.getElem_mem hot)) (by omega))) (bq_up (hosO.2 _ (List.getElem_mem hto)) (by omega))) (by omega))
    rw [put_ne (fun z => npa z.symm)]
    exact a4
  walk_at "pks"
  refine ⟨fun h2 => ?_, fun h2 => ?_⟩
  · -- an amount moved
    have hall := hpr (.inr (of_decide_eq_true h2))
    have hv : ∀ {os' : List Od} {j : Nat} (h : j < os'.length), (∀ o ∈ os', o.isP = true) → ∃ q, os'[j] = .pr q := fun {os' j} h ha => by
      have := ha _ (List.getElem_mem h)
      cases e : os'[j] with
      | pr q => exact ⟨q, rfl⟩
      | _ => rw [e] at this; cases this
    walk_at "pks"
    refine cv_lenM q3 ?_
    rw [List.length_map]
    walk_at "pks"
    refine ⟨a, _, _, _, rfl, (put_get a3).symm, draw_i (by omega) (by omega) (bt4 (by omega)) fun z z0 z1 => ?_⟩
    obtain ⟨ot, rfl⟩ := natI z0
    have hot : ot < os.length := by omega
    generalize hm : put m3 a (.well (b - 1 - 1 - 1 - 1)) = m4
    have a4 : m4 a = some (.well (b - 1 - 1 - 1 - 1)) := by rw [← hm, put_same]
    have q4 : m4 pR = some (.lst (os.map odD)) := by rw [← hm, put_ne npa]; exact q3
    clear hm
    obtain ⟨q, hq⟩ := hv hto hall
    have hbq : Bq n q := by
      have := hosO.2 _ (List.getElem_mem hto)
      rw [hq] at this
      exact this
    have hg := hget hto
    rw [hq] at hg
    have b7 : ∀ c : Int, Bt 3 c → Bq 3 (Rat.divInt c 7) := fun c hc => FM.bq_divInt hc (by decide) (by decide)
    refine seqK_nx (sv_seq (sv_setL ?_))
    walk_at "pks"
    refine ov_ixM q4 (at_nat hg) ?_
    walk_at "pks"
    refine ⟨q.num, (q.den : Int), -1, 7, n, 3, rfl, den_ne q, by decide, hbq.bn, hbq.bd, by unfold Bt; decide, by unfold Bt; decide, by omega, ?_⟩
    rw [Rat.num_divInt_den]
    walk_at "pks"
    refine ⟨pR, _, _, to, rfl, q4, rfl, ixn (by rw [List.length_map]; exact hto), ?_⟩
    have eset : (os.map odD).set to (prD (q + Rat.divInt (-1) 7)) = (os.set to (.pr (q + Rat.divInt (-1) 7))).map odD := odS_set (o := .pr _)
    rw [eset]
    have ok2 : RwOk (n + 4) l (os.set to (.pr (q + Rat.divInt (-1) 7))) := RwOk.set (hosO.mono (by omega) (by omega)) (show Bq (n + 4) _ from (hbq.add (b7 (-1) (by unfold Bt; decide))).mono (by omega))
    have all2 : ∀ o ∈ os.set to (.pr (q + Rat.divInt (-1) 7)), o.isP = true := fun o ho => by
      rcases mem_setD ho with e | e
      · rw [e]; rfl
      · exact hall o e
    have hot2 : ot < (os.set to (.pr (q + Rat.divInt (-1) 7))).length := by rw [List.length_set]; exact hot
    generalize os.set to (.pr (q + Rat.divInt (-1) 7)) = os2 at ok2 all2 hot2
    obtain ⟨q', hq'⟩ := hv hot2 all2
    have hbq' : Bq (n + 4) q' := by
      have := ok2.2 _ (List.getElem_mem hot2)
      rw [hq'] at this
      exact this
    have hg2 : (os2.map odD)[ot]? = some (prD q') := by rw [List.getElem?_map, List.getElem?_eq_getElem hot2, hq']; rfl
    refine seqK_nx (sv_setL ?_)
    walk_at "pks"
    refine ov_ixM put_same (at_nat hg2) ?_
    walk_at "pks"
    refine ⟨q'.num, (q'.den : Int), 1, 7, n + 4, 3, rfl, den_ne q', by decide, hbq'.bn, hbq'.bd, by unfold Bt; decide, by unfold Bt; decide, by omega, ?_⟩
    rw [Rat.num_divInt_den]
    walk_at "pks"
    refine ⟨pR, _, _, ot, rfl, put_same, rfl, ixn (by rw [List.length_map]; exact hot2), ?_⟩
    have eset2 : (os2.map odD).set ot (prD (q' + Rat.divInt 1 7)) = (os2.set ot (.pr (q' + Rat.divInt 1 7))).map odD := odS_set (o := .pr _)
    rw [eset2, put_put]
    refine seqK_nx (back _ (b - 1 - 1 - 1 - 1) (.ptr pR) (os2.set ot (.pr (q' + Rat.divInt 1 7))) _ ?_ (.own put_same) (RwOk.set (ok2.mono (by omega) (by omega)) ((hbq'.add (b7 1 (by unfold Bt; decide))).mono (by omega))) (by omega))
    rw [put_ne (fun z => npa z.symm)]
    exact a4
  walk_at "pks"
  refine ⟨fun h3 => ?_, fun h3 => ?_⟩
  · -- what is no share
    refine sv_setL ?_
    walk_at "pks"
    refine ⟨a, _, _, _, rfl, (put_get a3).symm, one_i (by omega) (by simp) (by simp) fun e he => ?_⟩
    have he' : ∃ o : Od, e = odD o ∧ o.bq 0 := by
      simp only [List.mem_cons, List.not_mem_nil, or_false] at he
      rcases he with rfl | rfl | rfl | rfl
      · exact ⟨.zero, rfl, trivial⟩
      · exact ⟨.none, rfl, trivial⟩
      · exact ⟨.txt, rfl, trivial⟩
      · exact ⟨.tru, rfl, trivial⟩
    obtain ⟨o, rfl, ho⟩ := he'
    walk_at "pks"
    refine ⟨pR, _, _, to, rfl, by rw [put_ne npa]; exact q3, rfl, ixn (by rw [List.length_map]; exact hto), ?_⟩
    rw [odS_set]
    refine seqK_nx (back _ (b - 1 - 1 - 1 - 1) (.ptr pR) (os.set to o) none ?_ (.own put_same) (RwOk.set (hosO.mono (by omega) (by omega)) (bq_up ho (by omega))) (by omega))
    rw [put_ne (fun z => npa z.symm), put_same]
  walk_at "pks"
  refine ⟨fun h4 => ?_, fun h4 => ?_⟩
  · -- a share more or fewer
    walk_at "pks"
    refine ev_slM ?_
    walk_at "pks"
    refine ⟨_, rfl, ?_⟩
    walk_at "pks"
    refine ⟨pR, _, rfl, q3, ?_⟩
    rw [cut_1]
    walk_at "pks"
    refine ov_catPL q3 (by rw [List.length_map]; simp; omega) ?_
    walk_at "pks"
    refine ⟨a, _, _, _, rfl, (put_get a3).symm, one_i (by omega) (by simp) (by simp) fun e he => ?_⟩
    have he' : ∃ os' : List Od, e = .lst (os'.map odD) ∧ RwOk (n + 20) (l + 1) os' := by
      simp only [List.mem_cons, List.not_mem_nil, or_false] at he
      rcases he with rfl | rfl
      · refine ⟨os.drop 1, by rw [← List.map_drop], ?_⟩
        exact RwOk.mono (n := n) (l := l) ⟨by rw [List.length_drop]; omega, fun o ho => hosO.2 o (List.mem_of_mem_drop ho)⟩ (by omega) (by omega)
      · refine ⟨os ++ [.pr 0], by rw [List.map_append]; rfl, ?_⟩
        refine RwOk.mono (n := n + 1) (l := l + 1) ⟨by simp; omega, fun o ho => ?_⟩ (by omega) (by omega)
        rcases List.mem_append.1 ho with h | h
        · exact bq_up (hosO.2 o h) (by omega)
        · have : o = .pr 0 := by simpa using h
          subst this
          exact Bq.mono (n := 1) ⟨by decide, by decide⟩ (by omega)
    obtain ⟨os', rfl, ho'⟩ := he'
    refine seqK_nx (back _ (b - 1 - 1 - 1 - 1) _ os' none put_same (.refl _) ho' (by omega))
  walk_at "pks"
  refine ⟨fun h5 => ?_, fun h5 => ?_⟩
  · -- a row more or fewer
    refine sv_ret (ev_stl (a := a) ?_)
    walk_at "pks"
    refine ev_slL ?_
    walk_at "pks"
    refine ⟨_, rfl, ?_⟩
    walk_at "pks"
    refine ⟨_, .inl rfl, ?_⟩
    rw [cut_1]
    walk_at "pks"
    refine ov_cat (by rw [List.length_map]; simp; omega) ?_
    walk_at "pks"
    refine ev_revL ?_
    walk_at "pks"
    refine ⟨_, .inl rfl, ?_⟩
    walk_at "pks"
    refine ⟨a, _, _, _, rfl, (put_get a3).symm, one_i (by omega) (by simp) (by simp) fun e he => ?_⟩
    have he' : ∃ rows', Stl (put m3 a (.well (b - 1 - 1 - 1 - 1))) e (plD rows') ∧ PlOk (n + 20) (l + 1) rows' := by
      simp only [List.mem_cons, List.not_mem_nil, or_false] at he
      rcases he with rfl | rfl | rfl
      · refine ⟨rows.drop 1, ?_, plUp _ (by rw [List.length_drop]; omega) fun r hr => oldR r (List.mem_of_mem_drop hr)⟩
        rw [← List.map_drop]
        exact .refl _
      · refine ⟨rows ++ [os], ?_, plUp _ (by simp; omega) fun r hr => ?_⟩
        · have := stl_mid (xs := rows.map fun r => D.lst (r.map odD)) (ys := []) (Stl.own (μ := put m3 a (.well (b - 1 - 1 - 1 - 1))) (p := pR) (ds := os.map odD) (by rw [put_ne npa]; exact q3))
          rw [List.append_nil, List.append_nil] at this
          show Stl _ _ (D.lst ((rows ++ [os]).map fun r => D.lst (r.map odD)))
          rw [List.map_append]
          exact this
        · rcases List.mem_append.1 hr with h | h
          · exact oldR r h
          · have : r = os := by simpa using h
            rw [this]; exact hosO.mono (by omega) (by omega)
      · refine ⟨rows.reverse, ?_, revOk⟩
        rw [← List.map_reverse]
        exact .refl _
    obtain ⟨rows', st, ok'⟩ := he'
    exact ⟨_, _, st, put_same, hP _ _ (k rows' _ ok' (by omega))⟩
  · refine sv_next (seqK_nx ?_)
    exact back m3 _ (.ptr pR) os none a3 (.own q3) (hosO.mono (by omega) (by omega)) (by omega)
theorem heap_fr (vs : List Nat) (s1 s2 : Nat) (h2 : 0 < s2) : (vs.map fun (w : Nat) => Rat.divInt (w : Int) (s1 : Int)) = (vs.map (· * s2)).map (frq (s1 * s2)) := by
  rw [List.map_map]
  refine List.map_congr_left fun w _ => ?_
  show _ = Rat.divInt ((w * s2 : Nat) : Int) ((s1 * s2 : Nat) : Int)
  rw [Int.natCast_mul, Int.natCast_mul, Rat.divInt_mul_right (by omega)]
theorem heap_bq {vs : List Nat} (h : vs.sum ≤ 200) : ∀ q ∈ vs.map fun (w : Nat) => Rat.divInt (w : Int) (vs.sum : Int), Bq 16 q := fun q hq => by
  obtain ⟨w, hw, rfl⟩ := List.mem_map.1 hq
  have := le_sum _ _ hw
  exact FM.bq_divInt (by omega) (by omega) (by decide)
theorem frq_add {N a b : Nat} (hN : 0 < N) : frq N a + frq N b = frq N (a + b) := by
  have := frq_sub (a := a + b) (b := b) hN (by omega)
  rw [Nat.add_sub_cancel] at this
  rw [← this]
  grind
theorem frq_sum {N : Nat} (hN : 0 < N) : ∀ xs : List Nat, (xs.map (frq N)).sum = frq N xs.sum
  | [] => frq_0.symm
  | x :: xs => by rw [List.map_cons, List.sum_cons, List.sum_cons, frq_sum hN xs, frq_add hN]
theorem frq_nn {N a : Nat} (hN : 0 < N) : 0 ≤ frq N a := by
  have h : ¬ frq N a < frq N 0 := fun h => by
    have := (frq_lt hN).mp h
    omega
  rw [frq_0] at h
  grind
theorem sum_mul (vs : List Nat) (s : Nat) : (vs.map (· * s)).sum = vs.sum * s := by
  induction vs with
  | nil => simp
  | cons v vs ih => rw [List.map_cons, List.sum_cons, List.sum_cons, ih, Nat.add_mul]
/-- what was filled is a plan -/
theorem fill_plan {hs ws : List Nat} {N : Nat} {t : FS} (hN : 0 < N) (w0 : (FS.start hs ws).Wk hs.length ws.length N) (he : hs.sum = ws.sum) (k : (FS.start hs ws).To t) (hz : t.sp = []) :
    OkP ((t.rows.map fun r => r.map (frq N)).map fun r => r.map Od.pr) (hs.map (frq N)) (ws.map (frq N)) := by
  have wk := k.wk w0
  obtain ⟨f1, f2⟩ := fill_ok w0 he k hz
  refine ⟨by rw [List.length_map, List.length_map, List.length_map, wk.lr], fun r hr => ?_, fun i r f hr hf => ?_, fun j s hs' => ?_⟩
  · obtain ⟨r1, hr1, rfl⟩ := List.mem_map.1 hr
    obtain ⟨r2, hr2, rfl⟩ := List.mem_map.1 hr1
    refine ⟨by rw [List.length_map, List.length_map, List.length_map]; exact (wk.br _ hr2).1, fun o ho => ?_⟩
    obtain ⟨q, hq, rfl⟩ := List.mem_map.1 ho
    obtain ⟨x, hx, rfl⟩ := List.mem_map.1 hq
    exact ⟨rfl, frq_nn hN⟩
  · rw [List.getElem?_map, List.getElem?_map, Option.map_eq_some_iff] at hr
    obtain ⟨r1, hr1, rfl⟩ := hr
    rw [Option.map_eq_some_iff] at hr1
    obtain ⟨r2, hr2, rfl⟩ := hr1
    rw [List.getElem?_map, Option.map_eq_some_iff] at hf
    obtain ⟨h, hh, rfl⟩ := hf
    have hi : i < hs.length := (List.getElem?_eq_some_iff.mp hh).1
    have := f1 i hi
    rw [List.getD_eq_getElem?_getD, hr2, List.getD_eq_getElem?_getD, hh] at this
    have this : r2.sum = h := this
    rw [val_pr, frq_sum hN, this]
  · rw [col_od]
    rw [List.getElem?_map, Option.map_eq_some_iff] at hs'
    obtain ⟨w, hw, rfl⟩ := hs'
    have hj : j < ws.length := (List.getElem?_eq_some_iff.mp hw).1
    have := f2 j hj
    rw [List.getD_eq_getElem?_getD (l := ws), hw] at this
    have this : colN t.rows j = w := this
    have e : colQ (t.rows.map fun r => r.map (frq N)) j = frq N (colN t.rows j) := by
      unfold colQ colN
      rw [← frq_sum hN, List.map_map, List.map_map]
      congr 1
      refine List.map_congr_left fun r _ => ?_
      show (r.map (frq N)).getD j 0 = frq N (r.getD j 0)
      rw [List.getD_eq_getElem?_getD, List.getElem?_map, List.getD_eq_getElem?_getD]
      cases r[j]? with
      | none => exact frq_0.symm
      | some x => rfl
    rw [e, this]
theorem madeQ_i {T : Cfg} {rows : List (List Od)} {P : D → Prop} {X : XD → Prop} (h : PlOk 60 16 rows) (k : P (plS rows)) : c_LmadeQ T [plD rows] P X := ⟨rows, rfl, h, k⟩
theorem planQ_i {T : Cfg} {d : D} {fs ss : List Rat} {pp : Prop} {P : D → Prop} {X : XD → Prop} (l1 : fs.length ≤ 12) (l2 : ss.length ≤ 12) (h : PlT T fs ss d pp) (k : ∀ b : Bool, (b = true ↔ pp) → P (.bl b)) : c_is_plan T [d, shL fs, shL ss] P X := ⟨d, fs, ss, pp, rfl, l1, l2, h, k⟩
theorem shares_i {T : Cfg} {qs : List Rat} {P : D → Prop} {X : XD → Prop} (l : qs.length ≤ 12) (h : ∀ q ∈ qs, Bq 16 q) (k : P (shL qs)) : c_Lshares T [prL qs] P X := ⟨qs, rfl, by omega, fun q hq => (h q hq).mono (by decide), k⟩
theorem PlOk.mono {n m l k : Nat} {rows : List (List Od)} (h : PlOk n l rows) (h1 : n ≤ m) (h2 : l ≤ k) : PlOk m k rows := ⟨Nat.le_trans h.1 h2, fun r hr => RwOk.mono (h.2 r hr) h1 h2⟩
def gEmp : D → Option D
  | .lst [] => some (.lst [])
  | _ => none
def tupOf : D → D
  | .lst es => .tup es
  | d => d
theorem pure_law {T : Cfg} (hT : ShOk T) : ∀ E ds μ P XP, c_law T ds μ P XP → SV T (t_law T E) (fun cls dd _ H => E cls dd H) ⟨slots 14 ds, μ⟩ (fnK P XP) := by
  rintro E ds μ P XP ⟨ns, rfl, hl, rfl, hp⟩
  unfold t_law
  refine sv_seq (sv_forR (ev_cells rfl hl ?_))
  walk_at "pks"
  refine ⟨by simp, by simp, fun es _ he => ⟨es, slots 14 [.seq (ns.map D.int)], .inl rfl, leR.refl, fun e hm => ?_, fun s' hs => seqK_res hs ?_⟩⟩
  rotate_left
  · walk_at "pks"
    exact hp _
  obtain ⟨c, rfl⟩ := he e hm
  walk_at "pks"
  intro a
  walk_at "pks"
  refine ⟨a, _, _, _, rfl, rfl, one_i (by decide) (by simp) (by simp) fun e he => ?_⟩
  have hm : ∃ t : Int, e = .int t ∧ 0 < t ∧ t ≤ 12 := by
    simp only [List.mem_cons, List.not_mem_nil, or_false] at he
    rcases he with rfl | rfl | rfl | rfl <;> exact ⟨_, rfl, by decide, by decide⟩
  obtain ⟨mo, rfl, mo0, mo1⟩ := hm
  walk_at "pks"
  refine ⟨a, _, _, _, rfl, rfl, draw_i (by decide) mo0 (bt4 (by omega)) fun x x0 x1 => ?_⟩
  obtain ⟨n, hn⟩ := natI (show (0 : Int) ≤ 1 + x by omega)
  walk_at "pks"
  rw [hn]
  refine ⟨a, _, _, _, rfl, rfl, n, rfl, by omega, by omega, by decide, fun vs b1 lv v0 v1 hb1 => ?_⟩
  walk_at "pks"
  refine ⟨a, _, _, _, rfl, rfl, draw_i (by omega) mo0 (bt4 (by omega)) fun y y0 y1 => ?_⟩
  obtain ⟨m, hmm⟩ := natI (show (0 : Int) ≤ 1 + y by omega)
  walk_at "pks"
  rw [hmm]
  refine ⟨a, _, _, _, rfl, rfl, m, rfl, by omega, by omega, by omega, fun ws b2 lw w0 w1 hb2 => ?_⟩
  have n1 : 1 ≤ vs.length := by omega
  have m1 : 1 ≤ ws.length := by omega
  have n12 : vs.length ≤ 12 := by omega
  have m12 : ws.length ≤ 12 := by omega
  clear hn hmm x0 x1 y0 y1 lv lw
  have bf := heap_bq v1
  have bs := heap_bq w1
  have lf : (vs.map fun (w : Nat) => Rat.divInt (w : Int) (vs.sum : Int)).length = vs.length := List.length_map ..
  have ls : (ws.map fun (w : Nat) => Rat.divInt (w : Int) (ws.sum : Int)).length = ws.length := List.length_map ..
  have ef := heap_fr vs vs.sum ws.sum w0
  have es : (ws.map fun (w : Nat) => Rat.divInt (w : Int) (ws.sum : Int)) = (ws.map (· * vs.sum)).map (frq (vs.sum * ws.sum)) := by
    rw [heap_fr ws ws.sum vs.sum v0, Nat.mul_comm vs.sum ws.sum]
  have nb : vs.sum * ws.sum < 65536 := by
    have := Nat.mul_le_mul v1 w1
    omega
  have n0 : 0 < vs.sum * ws.sum := Nat.mul_pos v0 w0
  have c1 : ∀ h ∈ vs.map (· * ws.sum), h ≤ vs.sum * ws.sum := fun h hh => by
    obtain ⟨w, hw, rfl⟩ := List.mem_map.1 hh
    exact Nat.mul_le_mul_right _ (le_sum _ _ hw)
  have c2 : ∀ h ∈ ws.map (· * vs.sum), h ≤ vs.sum * ws.sum := fun h hh => by
    obtain ⟨w, hw, rfl⟩ := List.mem_map.1 hh
    rw [Nat.mul_comm vs.sum]
    exact Nat.mul_le_mul_right _ (le_sum _ _ hw)
  have esum : (vs.map (· * ws.sum)).sum = (ws.map (· * vs.sum)).sum := by rw [sum_mul, sum_mul, Nat.mul_comm]
  have lh2 : (vs.map (· * ws.sum)).length = vs.length := List.length_map ..
  have lw2 : (ws.map (· * vs.sum)).length = ws.length := List.length_map ..
  generalize hF : (vs.map fun (w : Nat) => Rat.divInt (w : Int) (vs.sum : Int)) = fs at *
  generalize hS : (ws.map fun (w : Nat) => Rat.divInt (w : Int) (ws.sum : Int)) = ss at *
  generalize vs.map (· * ws.sum) = hs at *
  generalize ws.map (· * vs.sum) = ws' at *
  generalize vs.sum * ws.sum = N at *
  walk_at "pks"
  refine ⟨a, _, _, _, rfl, rfl, N, hs, ws', by rw [ef, es], n0, nb, c1, c2, by omega, by omega, by omega, fun t b3 ht hz hb3 => ?_⟩
  have w00 := start_wk c1 c2
  have wk := ht.wk w00
  have okp := fill_plan n0 w00 esum ht hz
  rw [← ef, ← es] at okp
  have plk : PlOk 16 12 ((t.rows.map fun r => r.map (frq N)).map fun r => r.map Od.pr) := by
    refine ⟨by rw [List.length_map, List.length_map, wk.lr]; omega, fun r hr => ?_⟩
    obtain ⟨r1, hr1, rfl⟩ := List.mem_map.1 hr
    obtain ⟨r2, hr2, rfl⟩ := List.mem_map.1 hr1
    have := wk.br _ hr2
    refine ⟨by rw [List.length_map, List.length_map]; omega, fun o ho => ?_⟩
    obtain ⟨q, hq, rfl⟩ := List.mem_map.1 ho
    obtain ⟨x, hx, rfl⟩ := List.mem_map.1 hq
    exact frq_bq nb (this.2 x hx)
  have plne : ((t.rows.map fun r => r.map (frq N)).map fun r => r.map Od.pr) ≠ [] := fun e => by
    have := congrArg List.length e
    rw [List.length_map, List.length_map, wk.lr] at this
    have this : hs.length = 0 := this
    omega
  rw [← pl_pr]
  generalize ((t.rows.map fun r => r.map (frq N)).map fun r => r.map Od.pr) = rows at *
  have hb3' : 1000 ≤ b3 := by omega
  have lf12 : fs.length ≤ 12 := by omega
  have ls12 : ss.length ≤ 12 := by omega
  have plk' := plk.mono (m := 60) (k := 16) (by decide) (by decide)
  walk_at "pks"
  refine shares_i lf12 bf ?_
  walk_at "pks"
  refine shares_i ls12 bs ?_
  walk_at "pks"
  refine madeQ_i plk' ?_
  walk_at "pks"
  refine planQ_i lf12 ls12 (.od rows plk') fun b hb => ?_
  obtain rfl : b = true := hb.mpr okp
  walk_at "pks"
  refine ov_notB ?_
  walk_at "pks"
  let ρ0 : List (Option D) := [some (.seq (ns.map D.int)), none, some (.ptr a), none, some (prL fs), some (prL ss), some (plD rows), some (.tup [shL fs, shL ss]), none, none, none, none, none, none]
  refine sv_forRg ?_
  walk_at "pks"
  refine ⟨3, fun _ => ρ0, fun i μ => ∃ b', μ = put mu0 a (.well b') ∧ b3 ≤ b' + 30 * i, rfl, by decide, by decide, ?_, ⟨b3, rfl, by omega⟩, ?_, ?_⟩
  · walk_at "le"
  · rintro i μ hi ⟨b6, rfl, hb6⟩
    have hi' : i < 3 := by omega
    walk_at "pks"
    refine sv_forRgE (fun z : List (List Od) => ((ρ0.set 8 (some (.int i))).set 10 (some (plD z)))) (fun k z μ => PlOk (16 + 20 * k) (12 + k) z ∧ ∃ b', μ = put mu0 a (.well b') ∧ b6 ≤ b' + 1 + 8 * k) ?_
    walk_at "pks"
    refine ⟨a, _, _, _, rfl, rfl, draw_i (by omega) (by decide) (bt4 (by decide)) fun x x0 x1 => ?_⟩
    walk_at "pks"
    refine ⟨_, rows, rfl, by omega, by omega, leR.refl, ⟨plk, b6 - 1, rfl, by omega⟩, ?_, ?_⟩
    · rintro k z μ hk ⟨o1, b7, rfl, hb7⟩
      have hk' : k < 2 := by omega
      have lz := o1.1
      refine sv_if (tv_imp (P := fun b μ => μ = put mu0 a (.well b7) ∧ (b = true → z ≠ [] ∧ ∀ r ∈ z, r ≠ [])) ?_ ?_)
      · walk_at "pks"
        refine ov_neNil rfl (fun d hd => ?_) ?_
        · obtain ⟨r, _, rfl⟩ := List.mem_map.1 hd
          exact row_pln r
        rw [List.length_map]
        refine ⟨_, rfl, fun hA => ?_, fun hA => ⟨rfl, fun e => (nomatch e)⟩⟩
        have hz0 : z ≠ [] := fun e => by rw [e] at hA; cases hA
        walk_at "pks"
        refine ev_lcT ?_
        walk_at "pks"
        refine ⟨_, .inl rfl, by rw [List.length_map]; omega, gEmp, fun x hx => ?_, ?_⟩
        · obtain ⟨r, _, rfl⟩ := List.mem_map.1 hx
          walk_at "pks"
          refine ov_eqNilL rfl (fun d hd => ?_) ?_
          · obtain ⟨o, _, rfl⟩ := List.mem_map.1 hd
            exact od_pln o
          refine ⟨_, rfl, rfl, fun hb => ?_, fun hb => ?_⟩
          · walk_at "pks"
            have : r.map odD = [] := List.eq_nil_of_length_eq_zero (of_decide_eq_true hb)
            rw [this]
            exact ⟨rfl, rfl⟩
          · cases r with
            | nil => cases hb
            | cons o r => rfl
        walk_at "pks"
        refine ov_eqNilL rfl (fun d hd => ?_) ?_
        · rw [List.mem_filterMap] at hd
          obtain ⟨x, hx, hd⟩ := hd
          obtain ⟨r, _, rfl⟩ := List.mem_map.1 hx
          cases r with
          | nil => cases hd; exact row_pln []
          | cons o r => cases hd
        refine ⟨_, rfl, rfl, fun hB => ⟨hz0, fun r hr e => ?_⟩⟩
        have hnil := List.eq_nil_of_length_eq_zero (of_decide_eq_true hB)
        rw [List.filterMap_eq_nil_iff] at hnil
        have := hnil _ (List.mem_map.2 ⟨r, hr, rfl⟩)
        rw [e] at this
        cases this
      · rintro bb μ ⟨em, hz⟩
        rw [em]
        refine ⟨fun hb => ?_, fun hb => ?_⟩
        · obtain ⟨hz1, hz2⟩ := hz hb
          walk_at "pks"
          refine ⟨a, _, _, _, rfl, rfl, z, 16 + 20 * k, 12 + k, rfl, o1, hz1, hz2, by omega, by omega, by omega, fun z' b8 o1' hb8 => ?_⟩
          walk_at "pks"
          refine ⟨z', ?_, o1'.mono (by omega) (by omega), b8, rfl, by omega⟩
          walk_at "le"
        · walk_at "pks"
          refine ⟨z, ?_, o1.mono (by omega) (by omega), b7, rfl, by omega⟩
          walk_at "le"
    · rintro s' z hs' ⟨o1, b7, em, hb7⟩
      have hk2 : (1 + x).toNat ≤ 2 := by omega
      refine seqK_wk hs' ?_
      rw [em]
      have o1' := o1.mono (m := 60) (k := 16) (by omega) (by omega)
      walk_at "pks"
      refine madeQ_i o1' ?_
      walk_at "pks"
      refine planQ_i lf12 ls12 (.od z o1') fun b hb => ?_
      walk_at "pks"
      refine isi_bb ?_
      walk_at "pks"
      refine ⟨z, fs, ss, rfl, o1', lf12, ls12, fun d hd => ?_⟩
      obtain rfl : b = d := by
        rw [Bool.eq_iff_iff, hb, hd]
      walk_at "pks"
      refine ⟨?_, b7, rfl, by omega⟩
      walk_at "le"
  · rintro s' hs' ⟨b6, em, hb6⟩
    have hb6' : b3 ≤ b6 + 90 := hb6
    refine seqK_wk hs' ?_
    rw [em]
    walk_at "pws"
    refine ev_lstM ?_
    walk_at "pks"
    refine ev_dnew ?_
    walk_at "pks"
    refine madeQ_i plk' ?_
    walk_at "pks"
    refine cv_tupI (.inl rfl) ?_
    walk_at "pks"
    refine fun sA hsA => ?_
    have nsa : sA ≠ a := fun e => by rw [e, put_same] at hsA; cases hsA
    walk_at "pks"
    refine ⟨sA, _, rfl, put_same, ?_⟩
    refine ev_lcF ?_
    walk_at "pks"
    refine madeQ_i plk' ?_
    have hlr := plk.1
    refine ⟨_, tupOf, .inl rfl, by rw [List.length_map]; omega, fun e he => ?_, ?_⟩
    · obtain ⟨r, _, rfl⟩ := List.mem_map.1 he
      walk_at "pks"
      exact cv_tupI (.inl rfl) ⟨rfl, rfl⟩
    refine ⟨_, put_same, by simp, ?_⟩
    rw [put_put]
    refine seqK_nx (sv_frz (i := 9) (a := sA) rfl put_same ?_)
    have ed : ∀ mo, del (put (put mu0 a (.well b6)) sA mo) sA = put mu0 a (.well b6) := fun mo => del_put (by rw [put_ne nsa])
    rw [ed]
    have al : ∀ e ∈ [D.non, .int 7, .str "plan", .dic [], .tup [], .lst [.non], .lst [.lst [.non]], .tup (rows.map fun r => D.lst (r.map odS)), shD ((1 : Int) : Rat)] ++ [D.lst ((rows.map fun r => D.lst (r.map odS)).map tupOf)], ∃ pp, PlT T fs ss e pp ∧ ¬ pp := by
      intro e he
      simp only [List.cons_append, List.nil_append, List.mem_cons, List.not_mem_nil, or_false] at he
      rcases he with rfl | rfl | rfl | rfl | rfl | rfl | rfl | rfl | rfl | rfl
      · exact ⟨_, .no1 (th_non hT) (by decide), id⟩
      · exact ⟨_, .no1 (th_int hT 7) (by decide), id⟩
      · exact ⟨_, .no1 (th_str hT _) (by decide), id⟩
      · exact ⟨_, .no1 (th_dic hT _) rfl, id⟩
      · exact ⟨_, .no1 (th_tup hT _) rfl, id⟩
      · exact ⟨_, .no2 (by simp) (by simp) fun e he => by
          obtain rfl : e = .non := by simpa using he
          exact ⟨_, th_non hT, by decide⟩, id⟩
      · refine ⟨_, .od [[.none]] ⟨by simp, fun r hr => ?_⟩, fun z => ?_⟩
        · obtain rfl : r = [.none] := by simpa using hr
          exact ⟨by simp, fun o ho => by
            obtain rfl : o = .none := by simpa using ho
            trivial⟩
        · have := ((z.2.1 [.none] (by simp)).2 .none (by simp)).1
          cases this
      · exact ⟨_, .no1 (th_tup hT _) rfl, id⟩
      · exact ⟨_, .no1 (th_sh hT _) rfl, id⟩
      · refine ⟨_, .no2 ?_ (by rw [List.length_map, List.length_map]; omega) fun e he => ?_, id⟩
        · intro e
          have := congrArg List.length e
          rw [List.length_map, List.length_map] at this
          exact plne (List.eq_nil_of_length_eq_zero this)
        · obtain ⟨d, hd, rfl⟩ := List.mem_map.1 he
          obtain ⟨r, _, rfl⟩ := List.mem_map.1 hd
          exact ⟨_, th_tup hT _, rfl⟩
    walk_at "pks"
    refine ⟨a, _, _, _, rfl, rfl, one_i (by omega) (by simp) (by simp) fun e he => ?_⟩
    obtain ⟨pp, hpl, hnp⟩ := al e he
    walk_at "pks"
    refine planQ_i lf12 ls12 hpl fun b hb => ?_
    obtain rfl : b = false := by
      cases b with
      | false => rfl
      | true => exact (hnp (hb.mp rfl)).elim
    walk_at "pks"
    refine ov_notB ?_
    walk_at "pks"
    refine shares_i lf12 bf ?_
    walk_at "pks"
    refine shares_i ls12 bs ?_
    walk_at "pks"
    refine ov_neHeaps ?_
    walk_at "pks"
    refine ⟨?_, trivial⟩
    walk_at "le"
end Far

namespace Lw
open PySem PySem.Spec PyProof.Rows L2 Pw Far
def top (i : Nat) : Stmt := PySem.Challenge.pw_farbetween_k11_plans_judged.main.body.getD i (.Pass ⟨0, 0, 0, 0⟩)
abbrev s_is_whole : Stmt := (top 4)
abbrev s_common : Stmt := (top 5)
abbrev s_Share___init__ : Stmt := (inClass (top 7) 0)
abbrev s_Share___eq__ : Stmt := (inClass (top 7) 1)
abbrev s_Share___str__ : Stmt := (inClass (top 7) 2)
abbrev s_plus : Stmt := (top 8)
abbrev s_sum_of : Stmt := (top 9)
abbrev s_are_shares : Stmt := (top 11)
abbrev s_none_below : Stmt := (top 12)
abbrev s_are_rows : Stmt := (top 13)
abbrev s_is_plan : Stmt := (top 14)
abbrev s_Lwell : Stmt := (top 16)
abbrev s_Ldraw : Stmt := (top 17)
abbrev s_Lone : Stmt := (top 18)
abbrev s_Llow : Stmt := (top 19)
abbrev s_Lheap : Stmt := (top 20)
abbrev s_Lshares : Stmt := (top 22)
abbrev s_Ladded : Stmt := (top 24)
abbrev s_Ltotal : Stmt := (top 25)
abbrev s_Lbelow : Stmt := (top 27)
abbrev s_Lfilled : Stmt := (top 28)
abbrev s_LotherQ : Stmt := (top 30)
abbrev s_LmadeQ : Stmt := (top 31)
abbrev s_LdueQ : Stmt := (top 32)
abbrev s_law : Stmt := (top 33)
theorem sc_is_whole : FnScope ["thing"] ["thing"] (defScope s_is_whole) := ⟨rfl, rfl, rfl, by decide +kernel, rfl, by decide +kernel, by decide +kernel⟩
theorem sc_common : FnScope ["one", "other"] ["one", "other"] (defScope s_common) := ⟨rfl, rfl, rfl, by decide +kernel, rfl, by decide +kernel, by decide +kernel⟩
theorem sc_Share___init__ : FnScope ["self", "top", "bottom", "by"] ["self", "top", "bottom"] (defScope s_Share___init__) := ⟨rfl, rfl, rfl, by decide +kernel, rfl, by decide +kernel, by decide +kernel⟩
theorem sc_Share___eq__ : FnScope ["self", "other"] ["self", "other"] (defScope s_Share___eq__) := ⟨rfl, rfl, rfl, by decide +kernel, rfl, by decide +kernel, by decide +kernel⟩
theorem sc_Share___str__ : FnScope ["self"] ["self"] (defScope s_Share___str__) := ⟨rfl, rfl, rfl, by decide +kernel, rfl, by decide +kernel, by decide +kernel⟩
theorem sc_plus : FnScope ["one", "other"] ["one", "other"] (defScope s_plus) := ⟨rfl, rfl, rfl, by decide +kernel, rfl, by decide +kernel, by decide +kernel⟩
theorem sc_sum_of : FnScope ["shares", "found", "share"] ["shares"] (defScope s_sum_of) := ⟨rfl, rfl, rfl, by decide +kernel, rfl, by decide +kernel, by decide +kernel⟩
theorem sc_are_shares : FnScope ["thing", "share"] ["thing"] (defScope s_are_shares) := ⟨rfl, rfl, rfl, by decide +kernel, rfl, by decide +kernel, by decide +kernel⟩
theorem sc_none_below : FnScope ["shares", "share"] ["shares"] (defScope s_none_below) := ⟨rfl, rfl, rfl, by decide +kernel, rfl, by decide +kernel, by decide +kernel⟩
theorem sc_are_rows : FnScope ["thing", "many", "long", "row"] ["thing", "many", "long"] (defScope s_are_rows) := ⟨rfl, rfl, rfl, by decide +kernel, rfl, by decide +kernel, by decide +kernel⟩
theorem sc_is_plan : FnScope ["thing", "first", "second", "at", "share", "row"] ["thing", "first", "second"] (defScope s_is_plan) := ⟨rfl, rfl, rfl, by decide +kernel, rfl, by decide +kernel, by decide +kernel⟩
theorem sc_Lwell : FnScope ["_law_cell"] ["_law_cell"] (defScope s_Lwell) := ⟨rfl, rfl, rfl, by decide +kernel, rfl, by decide +kernel, by decide +kernel⟩
theorem sc_Ldraw : FnScope ["_law_well_here", "_law_many", "_law_prime", "_law_number", "_law_digit"] ["_law_well_here", "_law_many"] (defScope s_Ldraw) := ⟨rfl, rfl, rfl, by decide +kernel, rfl, by decide +kernel, by decide +kernel⟩
theorem sc_Lone : FnScope ["_law_well_here", "_law_some"] ["_law_well_here", "_law_some"] (defScope s_Lone) := ⟨rfl, rfl, rfl, by decide +kernel, rfl, by decide +kernel, by decide +kernel⟩
theorem sc_Llow : FnScope ["_law_top", "_law_bottom", "_law_one_here", "_law_other"] ["_law_top", "_law_bottom"] (defScope s_Llow) := ⟨rfl, rfl, rfl, by decide +kernel, rfl, by decide +kernel, by decide +kernel⟩
theorem sc_Lheap : FnScope ["_law_well_here", "_law_many", "_law_way", "_law_weights", "_law_k", "_law_at", "_law_weight", "_law_place"] ["_law_well_here", "_law_many"] (defScope s_Lheap) := ⟨rfl, rfl, rfl, by decide +kernel, rfl, by decide +kernel, by decide +kernel⟩
theorem sc_Lshares : FnScope ["_law_pairs", "_law_top", "_law_bottom"] ["_law_pairs"] (defScope s_Lshares) := ⟨rfl, rfl, rfl, by decide +kernel, rfl, by decide +kernel, by decide +kernel⟩
theorem sc_Ladded : FnScope ["_law_one_here", "_law_other"] ["_law_one_here", "_law_other"] (defScope s_Ladded) := ⟨rfl, rfl, rfl, by decide +kernel, rfl, by decide +kernel, by decide +kernel⟩
theorem sc_Ltotal : FnScope ["_law_pairs", "_law_found", "_law_pair"] ["_law_pairs"] (defScope s_Ltotal) := ⟨rfl, rfl, rfl, by decide +kernel, rfl, by decide +kernel, by decide +kernel⟩
theorem sc_Lbelow : FnScope ["_law_one_here", "_law_other"] ["_law_one_here", "_law_other"] (defScope s_Lbelow) := ⟨rfl, rfl, rfl, by decide +kernel, rfl, by decide +kernel, by decide +kernel⟩
theorem sc_Lfilled : FnScope ["_law_well_here", "_law_first", "_law_second", "_law_plan", "_law_spots", "_law_x", "_law_have", "_law_want", "_law_amount", "_law_share", "_law_y"] ["_law_well_here", "_law_first", "_law_second"] (defScope s_Lfilled) := ⟨rfl, rfl, rfl, by decide +kernel, rfl, by decide +kernel, by decide +kernel⟩
theorem sc_LotherQ : FnScope ["_law_well_here", "_law_plan", "_law_at", "_law_row", "_law_to", "_law_pick", "_law_other", "_law_one_here"] ["_law_well_here", "_law_plan"] (defScope s_LotherQ) := ⟨rfl, rfl, rfl, by decide +kernel, rfl, by decide +kernel, by decide +kernel⟩
theorem sc_LmadeQ : FnScope ["_law_plan", "_law_row", "_law_one_here"] ["_law_plan"] (defScope s_LmadeQ) := ⟨rfl, rfl, rfl, by decide +kernel, rfl, by decide +kernel, by decide +kernel⟩
theorem sc_LdueQ : FnScope ["_law_plan", "_law_first", "_law_second", "_law_row", "_law_share", "_law_bad", "_law_one_here", "_law_at"] ["_law_plan", "_law_first", "_law_second"] (defScope s_LdueQ) := ⟨rfl, rfl, rfl, by decide +kernel, rfl, by decide +kernel, by decide +kernel⟩
theorem sc_law : FnScope ["_law_script", "_law_cell", "_law_well_here", "_law_most", "_law_first", "_law_second", "_law_plan", "_law_heaps", "_law_turn", "_law_strange", "_law_odd", "_law_k", "_law_found", "_law_row"] ["_law_script"] (defScope s_law) := ⟨rfl, rfl, rfl, by decide +kernel, rfl, by decide +kernel, by decide +kernel⟩
abbrev FnP (K : PySem.W.Frag) (x q : Str) (st : Stmt) (dvs : List V) (f : Addr) : Prop := FunD K x q (defArgs st) (defBody st) (defScope st) dvs [] f (fdOf K f)
def d_is_whole : He.DefD := ⟨("is_whole", none), "is_whole", "is_whole", defArgs s_is_whole, defBody s_is_whole, defScope s_is_whole, [], []⟩
def d_common : He.DefD := ⟨("common", none), "common", "common", defArgs s_common, defBody s_common, defScope s_common, [], []⟩
def d_Share___init__ : He.DefD := ⟨("Share", some "__init__"), "__init__", "Share.__init__", defArgs s_Share___init__, defBody s_Share___init__, defScope s_Share___init__, [.int 1], []⟩
def d_Share___eq__ : He.DefD := ⟨("Share", some "__eq__"), "__eq__", "Share.__eq__", defArgs s_Share___eq__, defBody s_Share___eq__, defScope s_Share___eq__, [], []⟩
def d_Share___str__ : He.DefD := ⟨("Share", some "__str__"), "__str__", "Share.__str__", defArgs s_Share___str__, defBody s_Share___str__, defScope s_Share___str__, [], []⟩
def d_plus : He.DefD := ⟨("plus", none), "plus", "plus", defArgs s_plus, defBody s_plus, defScope s_plus, [], []⟩
def d_sum_of : He.DefD := ⟨("sum_of", none), "sum_of", "sum_of", defArgs s_sum_of, defBody s_sum_of, defScope s_sum_of, [], []⟩
def d_are_shares : He.DefD := ⟨("are_shares", none), "are_shares", "are_shares", defArgs s_are_shares, defBody s_are_shares, defScope s_are_shares, [], []⟩
def d_none_below : He.DefD := ⟨("none_below", none), "none_below", "none_below", defArgs s_none_below, defBody s_none_below, defScope s_none_below, [], []⟩
def d_are_rows : He.DefD := ⟨("are_rows", none), "are_rows", "are_rows", defArgs s_are_rows, defBody s_are_rows, defScope s_are_rows, [], []⟩
def d_is_plan : He.DefD := ⟨("is_plan", none), "is_plan", "is_plan", defArgs s_is_plan, defBody s_is_plan, defScope s_is_plan, [], []⟩
def d_Lwell : He.DefD := ⟨("_law_well", none), "_law_well", "_law_well", defArgs s_Lwell, defBody s_Lwell, defScope s_Lwell, [], []⟩
def d_Ldraw : He.DefD := ⟨("_law_draw", none), "_law_draw", "_law_draw", defArgs s_Ldraw, defBody s_Ldraw, defScope s_Ldraw, [], []⟩
def d_Lone : He.DefD := ⟨("_law_one", none), "_law_one", "_law_one", defArgs s_Lone, defBody s_Lone, defScope s_Lone, [], []⟩
def d_Llow : He.DefD := ⟨("_law_low", none), "_law_low", "_law_low", defArgs s_Llow, defBody s_Llow, defScope s_Llow, [], []⟩
def d_Lheap : He.DefD := ⟨("_law_heap", none), "_law_heap", "_law_heap", defArgs s_Lheap, defBody s_Lheap, defScope s_Lheap, [], []⟩
def d_Lshares : He.DefD := ⟨("_law_shares", none), "_law_shares", "_law_shares", defArgs s_Lshares, defBody s_Lshares, defScope s_Lshares, [], []⟩
def d_Ladded : He.DefD := ⟨("_law_added", none), "_law_added", "_law_added", defArgs s_Ladded, defBody s_Ladded, defScope s_Ladded, [], []⟩
def d_Ltotal : He.DefD := ⟨("_law_total", none), "_law_total", "_law_total", defArgs s_Ltotal, defBody s_Ltotal, defScope s_Ltotal, [], []⟩
def d_Lbelow : He.DefD := ⟨("_law_below", none), "_law_below", "_law_below", defArgs s_Lbelow, defBody s_Lbelow, defScope s_Lbelow, [], []⟩
def d_Lfilled : He.DefD := ⟨("_law_filled", none), "_law_filled", "_law_filled", defArgs s_Lfilled, defBody s_Lfilled, defScope s_Lfilled, [], []⟩
def d_LotherQ : He.DefD := ⟨("_law_otherwise", none), "_law_otherwise", "_law_otherwise", defArgs s_LotherQ, defBody s_LotherQ, defScope s_LotherQ, [], []⟩
def d_LmadeQ : He.DefD := ⟨("_law_made", none), "_law_made", "_law_made", defArgs s_LmadeQ, defBody s_LmadeQ, defScope s_LmadeQ, [], []⟩
def d_LdueQ : He.DefD := ⟨("_law_due", none), "_law_due", "_law_due", defArgs s_LdueQ, defBody s_LdueQ, defScope s_LdueQ, [], []⟩
def d_law : He.DefD := ⟨("law", none), "law", "law", defArgs s_law, defBody s_law, defScope s_law, [], []⟩
def fn : List He.DefD := ([d_is_whole, d_common, d_Share___init__, d_Share___eq__, d_Share___str__, d_plus, d_sum_of, d_are_shares, d_none_below, d_are_rows, d_is_plan, d_Lwell, d_Ldraw, d_Lone, d_Llow, d_Lheap, d_Lshares, d_Ladded, d_Ltotal, d_Lbelow, d_Lfilled, d_LotherQ, d_LmadeQ, d_LdueQ, d_law] : List He.DefD)
def fa : List He.Fa := ([.glo "is_whole", .glo "common", .glo "plus", .glo "sum_of", .glo "are_shares", .glo "none_below", .glo "are_rows", .glo "is_plan", .glo "_law_well", .glo "_law_draw", .glo "_law_one", .glo "_law_low", .glo "_law_heap", .glo "_law_shares", .glo "_law_added", .glo "_law_total", .glo "_law_below", .glo "_law_filled", .glo "_law_otherwise", .glo "_law_made", .glo "_law_due", .glo "law", .glo "FarError", .glo "NoShare", .glo "Share", .cls "Share", .mkr "Share", .noat "Share" "top", .noat "Share" "bottom", .meth "Share" "__eq__"] : List He.Fa) ++ ([.meth "Share" "__str__", .free "abs", .free "all", .free "bool", .free "enumerate", .free "int", .free "isinstance", .free "len", .free "list", .free "range", .free "str", .free "sum", .free "tuple", .free "zip"] : List He.Fa)
def exs : List (PySem.W.Frag → Bool) := ([(fun K => decide (PySem.W.mroIn K (He.ga K "Share") (.type "object") = some true)), (fun K => He.eqO (PySem.W.findIn K (.ref (He.ga K "Share")) "__ne__") (some (some (.builtin "object.__ne__")))), (fun K => He.eqO (PySem.W.findIn K (.ref (He.ga K "Share")) "__class__") (some (some (.builtin "object.__class__")))), (fun K => He.eqO (PySem.W.specialIn K (.builtin "object.__class__") "__get__") (some (some (.builtin "getset_descriptor.__get__")))), (fun K => decide (PySem.W.takesIn K (.builtin "object.__class__") = some true)), (fun K => decide (PySem.W.subIn K (.type "NoneType") (.ref (He.ga K "Share")) = some false)), (fun K => decide (PySem.W.kitOne K (.type "NoneType") (.ref (He.ga K "Share")) = some false)), (fun K => decide (PySem.W.kitOne K (.ref (He.ga K "Share")) (.type "NoneType") = some false)), (fun K => decide (PySem.W.subIn K (.type "bool") (.ref (He.ga K "Share")) = some false)), (fun K => decide (PySem.W.kitOne K (.type "bool") (.ref (He.ga K "Share")) = some false)), (fun K => decide (PySem.W.kitOne K (.ref (He.ga K "Share")) (.type "bool") = some false)), (fun K => decide (PySem.W.subIn K (.type "int") (.ref (He.ga K "Share")) = some false)), (fun K => decide (PySem.W.kitOne K (.type "int") (.ref (He.ga K "Share")) = some false)), (fun K => decide (PySem.W.kitOne K (.ref (He.ga K "Share")) (.type "int") = some false)), (fun K => decide (PySem.W.subIn K (.type "str") (.ref (He.ga K "Share")) = some false)), (fun K => decide (PySem.W.kitOne K (.type "str") (.ref (He.ga K "Share")) = some false)), (fun K => decide (PySem.W.kitOne K (.ref (He.ga K "Share")) (.type "str") = some false)), (fun K => decide (PySem.W.subIn K (.type "list") (.ref (He.ga K "Share")) = some false)), (fun K => decide (PySem.W.kitOne K (.type "list") (.ref (He.ga K "Share")) = some false)), (fun K => decide (PySem.W.kitOne K (.ref (He.ga K "Share")) (.type "list") = some false))] : List (PySem.W.Frag → Bool)) ++ ([(fun K => decide (PySem.W.subIn K (.type "tuple") (.ref (He.ga K "Share")) = some false)), (fun K => decide (PySem.W.kitOne K (.type "tuple") (.ref (He.ga K "Share")) = some false)), (fun K => decide (PySem.W.kitOne K (.ref (He.ga K "Share")) (.type "tuple") = some false)), (fun K => decide (PySem.W.subIn K (.type "dict") (.ref (He.ga K "Share")) = some false)), (fun K => decide (PySem.W.kitOne K (.type "dict") (.ref (He.ga K "Share")) = some false)), (fun K => decide (PySem.W.kitOne K (.ref (He.ga K "Share")) (.type "dict") = some false)), (fun K => PySem.W.excIn K (He.ga K "NoShare") He.veBase "ValueError.__new__"), (fun K => PySem.W.keepIn K (.ref (He.ga K "NoShare"))), (fun K => decide (PySem.W.subIn K (.ref (He.ga K "NoShare")) (.type "BaseException") = some true)), (fun K => decide (PySem.W.typeIn K (.ref (He.ga K "NoShare")) = some (.type "type")))] : List (PySem.W.Frag → Bool))
structure Txt (K : PySem.W.Frag) (mg : Str → Option Value) : Prop where
  F_is_whole : FnP K "is_whole" "is_whole" s_is_whole [] (He.ga K "is_whole")
  g_is_whole : mg "is_whole" = some (.ref (He.ga K "is_whole"))
  F_common : FnP K "common" "common" s_common [] (He.ga K "common")
  g_common : mg "common" = some (.ref (He.ga K "common"))
  F_Share___init__ : FnP K "__init__" "Share.__init__" s_Share___init__ [.int 1] (He.ma K (He.ga K "Share") "__init__")
  F_Share___eq__ : FnP K "__eq__" "Share.__eq__" s_Share___eq__ [] (He.ma K (He.ga K "Share") "__eq__")
  F_Share___str__ : FnP K "__str__" "Share.__str__" s_Share___str__ [] (He.ma K (He.ga K "Share") "__str__")
  F_plus : FnP K "plus" "plus" s_plus [] (He.ga K "plus")
  g_plus : mg "plus" = some (.ref (He.ga K "plus"))
  F_sum_of : FnP K "sum_of" "sum_of" s_sum_of [] (He.ga K "sum_of")
  g_sum_of : mg "sum_of" = some (.ref (He.ga K "sum_of"))
  F_are_shares : FnP K "are_shares" "are_shares" s_are_shares [] (He.ga K "are_shares")
  g_are_shares : mg "are_shares" = some (.ref (He.ga K "are_shares"))
  F_none_below : FnP K "none_below" "none_below" s_none_below [] (He.ga K "none_below")
  g_none_below : mg "none_below" = some (.ref (He.ga K "none_below"))
  F_are_rows : FnP K "are_rows" "are_rows" s_are_rows [] (He.ga K "are_rows")
  g_are_rows : mg "are_rows" = some (.ref (He.ga K "are_rows"))
  F_is_plan : FnP K "is_plan" "is_plan" s_is_plan [] (He.ga K "is_plan")
  g_is_plan : mg "is_plan" = some (.ref (He.ga K "is_plan"))
  F_Lwell : FnP K "_law_well" "_law_well" s_Lwell [] (He.ga K "_law_well")
  g_Lwell : mg "_law_well" = some (.ref (He.ga K "_law_well"))
  F_Ldraw : FnP K "_law_draw" "_law_draw" s_Ldraw [] (He.ga K "_law_draw")
  g_Ldraw : mg "_law_draw" = some (.ref (He.ga K "_law_draw"))
  F_Lone : FnP K "_law_one" "_law_one" s_Lone [] (He.ga K "_law_one")
  g_Lone : mg "_law_one" = some (.ref (He.ga K "_law_one"))
  F_Llow : FnP K "_law_low" "_law_low" s_Llow [] (He.ga K "_law_low")
  g_Llow : mg "_law_low" = some (.ref (He.ga K "_law_low"))
  F_Lheap : FnP K "_law_heap" "_law_heap" s_Lheap [] (He.ga K "_law_heap")
  g_Lheap : mg "_law_heap" = some (.ref (He.ga K "_law_heap"))
  F_Lshares : FnP K "_law_shares" "_law_shares" s_Lshares [] (He.ga K "_law_shares")
  g_Lshares : mg "_law_shares" = some (.ref (He.ga K "_law_shares"))
  F_Ladded : FnP K "_law_added" "_law_added" s_Ladded [] (He.ga K "_law_added")
  g_Ladded : mg "_law_added" = some (.ref (He.ga K "_law_added"))
  F_Ltotal : FnP K "_law_total" "_law_total" s_Ltotal [] (He.ga K "_law_total")
  g_Ltotal : mg "_law_total" = some (.ref (He.ga K "_law_total"))
  F_Lbelow : FnP K "_law_below" "_law_below" s_Lbelow [] (He.ga K "_law_below")
  g_Lbelow : mg "_law_below" = some (.ref (He.ga K "_law_below"))
  F_Lfilled : FnP K "_law_filled" "_law_filled" s_Lfilled [] (He.ga K "_law_filled")
  g_Lfilled : mg "_law_filled" = some (.ref (He.ga K "_law_filled"))
  F_LotherQ : FnP K "_law_otherwise" "_law_otherwise" s_LotherQ [] (He.ga K "_law_otherwise")
  g_LotherQ : mg "_law_otherwise" = some (.ref (He.ga K "_law_otherwise"))
  F_LmadeQ : FnP K "_law_made" "_law_made" s_LmadeQ [] (He.ga K "_law_made")
  g_LmadeQ : mg "_law_made" = some (.ref (He.ga K "_law_made"))
  F_LdueQ : FnP K "_law_due" "_law_due" s_LdueQ [] (He.ga K "_law_due")
  g_LdueQ : mg "_law_due" = some (.ref (He.ga K "_law_due"))
  F_law : FnP K "law" "law" s_law [] (He.ga K "law")
  g_law : mg "law" = some (.ref (He.ga K "law"))
  g_FarError : mg "FarError" = some (.ref (He.ga K "FarError"))
  g_NoShare : mg "NoShare" = some (.ref (He.ga K "NoShare"))
  g_Share : mg "Share" = some (.ref (He.ga K "Share"))
  cl_Share : Cls K (He.ga K "Share")
  mk_Share : Mk K (He.ga K "Share") (He.ma K (He.ga K "Share") "__init__")
  na_Share_top : NoAttr K (He.ga K "Share") "top"
  na_Share_bottom : NoAttr K (He.ga K "Share") "bottom"
  m_Share__eq__ : Meth K (He.ga K "Share") "__eq__" (He.ma K (He.ga K "Share") "__eq__")
  m_Share__str__ : Meth K (He.ga K "Share") "__str__" (He.ma K (He.ga K "Share") "__str__")
  f_abs : mg "abs" = none
  f_all : mg "all" = none
  f_bool : mg "bool" = none
  f_enumerate : mg "enumerate" = none
  f_int : mg "int" = none
  f_isinstance : mg "isinstance" = none
  f_len : mg "len" = none
  f_list : mg "list" = none
  f_range : mg "range" = none
  f_str : mg "str" = none
  f_sum : mg "sum" = none
  f_tuple : mg "tuple" = none
  f_zip : mg "zip" = none
  obj_Share : PySem.W.mroIn K (He.ga K "Share") (.type "object") = some true
  ne_Share : PySem.W.findIn K (.ref (He.ga K "Share")) "__ne__" = some (some (.builtin "object.__ne__"))
  ia_Share : PySem.W.findIn K (.ref (He.ga K "Share")) "__class__" = some (some (.builtin "object.__class__"))
  ig_Share : PySem.W.specialIn K (.builtin "object.__class__") "__get__" = some (some (.builtin "getset_descriptor.__get__"))
  it_Share : PySem.W.takesIn K (.builtin "object.__class__") = some true
  nf_Share_NoneType : PySem.W.subIn K (.type "NoneType") (.ref (He.ga K "Share")) = some false
  kit_Share_NoneType : PySem.W.kitOne K (.type "NoneType") (.ref (He.ga K "Share")) = some false
  tik_Share_NoneType : PySem.W.kitOne K (.ref (He.ga K "Share")) (.type "NoneType") = some false
  nf_Share_bool : PySem.W.subIn K (.type "bool") (.ref (He.ga K "Share")) = some false
  kit_Share_bool : PySem.W.kitOne K (.type "bool") (.ref (He.ga K "Share")) = some false
  tik_Share_bool : PySem.W.kitOne K (.ref (He.ga K "Share")) (.type "bool") = some false
  nf_Share_int : PySem.W.subIn K (.type "int") (.ref (He.ga K "Share")) = some false
  kit_Share_int : PySem.W.kitOne K (.type "int") (.ref (He.ga K "Share")) = some false
  tik_Share_int : PySem.W.kitOne K (.ref (He.ga K "Share")) (.type "int") = some false
  nf_Share_str : PySem.W.subIn K (.type "str") (.ref (He.ga K "Share")) = some false
  kit_Share_str : PySem.W.kitOne K (.type "str") (.ref (He.ga K "Share")) = some false
  tik_Share_str : PySem.W.kitOne K (.ref (He.ga K "Share")) (.type "str") = some false
  nf_Share_list : PySem.W.subIn K (.type "list") (.ref (He.ga K "Share")) = some false
  kit_Share_list : PySem.W.kitOne K (.type "list") (.ref (He.ga K "Share")) = some false
  tik_Share_list : PySem.W.kitOne K (.ref (He.ga K "Share")) (.type "list") = some false
  nf_Share_tuple : PySem.W.subIn K (.type "tuple") (.ref (He.ga K "Share")) = some false
  kit_Share_tuple : PySem.W.kitOne K (.type "tuple") (.ref (He.ga K "Share")) = some false
  tik_Share_tuple : PySem.W.kitOne K (.ref (He.ga K "Share")) (.type "tuple") = some false
  nf_Share_dict : PySem.W.subIn K (.type "dict") (.ref (He.ga K "Share")) = some false
  kit_Share_dict : PySem.W.kitOne K (.type "dict") (.ref (He.ga K "Share")) = some false
  tik_Share_dict : PySem.W.kitOne K (.ref (He.ga K "Share")) (.type "dict") = some false
  x0_NoShare : PySem.W.excIn K (He.ga K "NoShare") He.veBase "ValueError.__new__" = true
  x1_NoShare : PySem.W.keepIn K (.ref (He.ga K "NoShare")) = true
  x2_NoShare : PySem.W.subIn K (.ref (He.ga K "NoShare")) (.type "BaseException") = some true
  x3_NoShare : PySem.W.typeIn K (.ref (He.ga K "NoShare")) = some (.type "type")
theorem txt_of {K : PySem.W.Frag} {h : Heap} {mg : Str → Option Value} (KX : K.In h) (G : h.Ns mainGlobals mg) (c : SaysF fa fn exs K) : Txt K mg :=
  { F_is_whole := (fdOf_ok (c.def_ 0 (d := d_is_whole) rfl)),
    g_is_whole := (He.glo_ok KX G (c.fact 0 rfl)),
    F_common := (fdOf_ok (c.def_ 1 (d := d_common) rfl)),
    g_common := (He.glo_ok KX G (c.fact 1 rfl)),
    F_Share___init__ := (fdOf_ok (c.def_ 2 (d := d_Share___init__) rfl)),
    F_Share___eq__ := (fdOf_ok (c.def_ 3 (d := d_Share___eq__) rfl)),
    F_Share___str__ := (fdOf_ok (c.def_ 4 (d := d_Share___str__) rfl)),
    F_plus := (fdOf_ok (c.def_ 5 (d := d_plus) rfl)),
    g_plus := (He.glo_ok KX G (c.fact 2 rfl)),
    F_sum_of := (fdOf_ok (c.def_ 6 (d := d_sum_of) rfl)),
    g_sum_of := (He.glo_ok KX G (c.fact 3 rfl)),
    F_are_shares := (fdOf_ok (c.def_ 7 (d := d_are_shares) rfl)),
    g_are_shares := (He.glo_ok KX G (c.fact 4 rfl)),
    F_none_below := (fdOf_ok (c.def_ 8 (d := d_none_below) rfl)),
    g_none_below := (He.glo_ok KX G (c.fact 5 rfl)),
    F_are_rows := (fdOf_ok (c.def_ 9 (d := d_are_rows) rfl)),
    g_are_rows := (He.glo_ok KX G (c.fact 6 rfl)),
    F_is_plan := (fdOf_ok (c.def_ 10 (d := d_is_plan) rfl)),
    g_is_plan := (He.glo_ok KX G (c.fact 7 rfl)),
    F_Lwell := (fdOf_ok (c.def_ 11 (d := d_Lwell) rfl)),
    g_Lwell := (He.glo_ok KX G (c.fact 8 rfl)),
    F_Ldraw := (fdOf_ok (c.def_ 12 (d := d_Ldraw) rfl)),
    g_Ldraw := (He.glo_ok KX G (c.fact 9 rfl)),
    F_Lone := (fdOf_ok (c.def_ 13 (d := d_Lone) rfl)),
    g_Lone := (He.glo_ok KX G (c.fact 10 rfl)),
    F_Llow := (fdOf_ok (c.def_ 14 (d := d_Llow) rfl)),
    g_Llow := (He.glo_ok KX G (c.fact 11 rfl)),
    F_Lheap := (fdOf_ok (c.def_ 15 (d := d_Lheap) rfl)),
    g_Lheap := (He.glo_ok KX G (c.fact 12 rfl)),
    F_Lshares := (fdOf_ok (c.def_ 16 (d := d_Lshares) rfl)),
    g_Lshares := (He.glo_ok KX G (c.fact 13 rfl)),
    F_Ladded := (fdOf_ok (c.def_ 17 (d := d_Ladded) rfl)),
    g_Ladded := (He.glo_ok KX G (c.fact 14 rfl)),
    F_Ltotal := (fdOf_ok (c.def_ 18 (d := d_Ltotal) rfl)),
    g_Ltotal := (He.glo_ok KX G (c.fact 15 rfl)),
    F_Lbelow := (fdOf_ok (c.def_ 19 (d := d_Lbelow) rfl)),
    g_Lbelow := (He.glo_ok KX G (c.fact 16 rfl)),
    F_Lfilled := (fdOf_ok (c.def_ 20 (d := d_Lfilled) rfl)),
    g_Lfilled := (He.glo_ok KX G (c.fact 17 rfl)),
    F_LotherQ := (fdOf_ok (c.def_ 21 (d := d_LotherQ) rfl)),
    g_LotherQ := (He.glo_ok KX G (c.fact 18 rfl)),
    F_LmadeQ := (fdOf_ok (c.def_ 22 (d := d_LmadeQ) rfl)),
    g_LmadeQ := (He.glo_ok KX G (c.fact 19 rfl)),
    F_LdueQ := (fdOf_ok (c.def_ 23 (d := d_LdueQ) rfl)),
    g_LdueQ := (He.glo_ok KX G (c.fact 20 rfl)),
    F_law := (fdOf_ok (c.def_ 24 (d := d_law) rfl)),
    g_law := (He.glo_ok KX G (c.fact 21 rfl)),
    g_FarError := (He.glo_ok KX G (c.fact 22 rfl)),
    g_NoShare := (He.glo_ok KX G (c.fact 23 rfl)),
    g_Share := (He.glo_ok KX G (c.fact 24 rfl)),
    cl_Share := (He.cls_ok (c.fact 25 rfl)),
    mk_Share := (He.mkr_ok (c.fact 26 rfl)),
    na_Share_top := (He.noat_ok (c.fact 27 rfl)),
    na_Share_bottom := (He.noat_ok (c.fact 28 rfl)),
    m_Share__eq__ := (He.meth_ok (c.fact 29 rfl)),
    m_Share__str__ := (He.meth_ok (c.fact 30 rfl)),
    f_abs := (He.free_ok KX G (c.fact 31 rfl)),
    f_all := (He.free_ok KX G (c.fact 32 rfl)),
    f_bool := (He.free_ok KX G (c.fact 33 rfl)),
    f_enumerate := (He.free_ok KX G (c.fact 34 rfl)),
    f_int := (He.free_ok KX G (c.fact 35 rfl)),
    f_isinstance := (He.free_ok KX G (c.fact 36 rfl)),
    f_len := (He.free_ok KX G (c.fact 37 rfl)),
    f_list := (He.free_ok KX G (c.fact 38 rfl)),
    f_range := (He.free_ok KX G (c.fact 39 rfl)),
    f_str := (He.free_ok KX G (c.fact 40 rfl)),
    f_sum := (He.free_ok KX G (c.fact 41 rfl)),
    f_tuple := (He.free_ok KX G (c.fact 42 rfl)),
    f_zip := (He.free_ok KX G (c.fact 43 rfl)),
    obj_Share := (of_decide_eq_true (c.ex_ 0 rfl)),
    ne_Share := (He.eqO_ok (c.ex_ 1 rfl)),
    ia_Share := (He.eqO_ok (c.ex_ 2 rfl)),
    ig_Share := (He.eqO_ok (c.ex_ 3 rfl)),
    it_Share := (of_decide_eq_true (c.ex_ 4 rfl)),
    nf_Share_NoneType := (of_decide_eq_true (c.ex_ 5 rfl)),
    kit_Share_NoneType := (of_decide_eq_true (c.ex_ 6 rfl)),
    tik_Share_NoneType := (of_decide_eq_true (c.ex_ 7 rfl)),
    nf_Share_bool := (of_decide_eq_true (c.ex_ 8 rfl)),
    kit_Share_bool := (of_decide_eq_true (c.ex_ 9 rfl)),
    tik_Share_bool := (of_decide_eq_true (c.ex_ 10 rfl)),
    nf_Share_int := (of_decide_eq_true (c.ex_ 11 rfl)),
    kit_Share_int := (of_decide_eq_true (c.ex_ 12 rfl)),
    tik_Share_int := (of_decide_eq_true (c.ex_ 13 rfl)),
    nf_Share_str := (of_decide_eq_true (c.ex_ 14 rfl)),
    kit_Share_str := (of_decide_eq_true (c.ex_ 15 rfl)),
    tik_Share_str := (of_decide_eq_true (c.ex_ 16 rfl)),
    nf_Share_list := (of_decide_eq_true (c.ex_ 17 rfl)),
    kit_Share_list := (of_decide_eq_true (c.ex_ 18 rfl)),
    tik_Share_list := (of_decide_eq_true (c.ex_ 19 rfl)),
    nf_Share_tuple := (of_decide_eq_true (c.ex_ 20 rfl)),
    kit_Share_tuple := (of_decide_eq_true (c.ex_ 21 rfl)),
    tik_Share_tuple := (of_decide_eq_true (c.ex_ 22 rfl)),
    nf_Share_dict := (of_decide_eq_true (c.ex_ 23 rfl)),
    kit_Share_dict := (of_decide_eq_true (c.ex_ 24 rfl)),
    tik_Share_dict := (of_decide_eq_true (c.ex_ 25 rfl)),
    x0_NoShare := (id (c.ex_ 26 rfl)),
    x1_NoShare := (id (c.ex_ 27 rfl)),
    x2_NoShare := (of_decide_eq_true (c.ex_ 28 rfl)),
    x3_NoShare := (of_decide_eq_true (c.ex_ 29 rfl)) }
abbrev R : PySem.W.OpenRow := PySem.W.OpenLaw.row PySem.Challenge.rw_farbetween_k11_plans_judged
abbrev hk : PySem.W.Hook := hookF 5 fa fn exs
def ob (s : PySem.W.SharedT) : AlF := obsFG 5 fa fn exs (HandSHeadRun.getT s)
theorem ob_eq (s : PySem.W.SharedT) : ob s = hk.obs s.abs := obsFG_eq (HandSHeadRun.getT_eq s)
def loose : List Str := (["FarError", "NoShare", "Share", "is_whole", "common", "plus", "sum_of", "are_shares", "none_below", "are_rows", "is_plan", "_law_well", "_law_draw", "_law_one", "_law_low", "_law_heap", "_law_costs", "_law_shares", "_law_rows", "_law_added", "_law_total", "_law_by", "_law_below", "_law_filled", "_law_cost", "_law_otherwise", "_law_made", "_law_due"] : List Str)
theorem sh_ok {K : PySem.W.Frag} {mg : Str → Option Value} (X : Txt K mg) : ShOk (cfg K) where
  cl := X.cl_Share
  nt := X.na_Share_top
  nb := X.na_Share_bottom
  ic := ⟨X.cl_Share, X.ia_Share, X.ig_Share, X.it_Share, X.obj_Share⟩
  kb := fun n hn => by
    simp only [List.mem_cons, List.not_mem_nil, or_false] at hn
    rcases hn with rfl | rfl | rfl | rfl | rfl | rfl | rfl
    · exact ⟨X.nf_Share_NoneType, X.kit_Share_NoneType⟩
    · exact ⟨X.nf_Share_int, X.kit_Share_int⟩
    · exact ⟨X.nf_Share_bool, X.kit_Share_bool⟩
    · exact ⟨X.nf_Share_str, X.kit_Share_str⟩
    · exact ⟨X.nf_Share_list, X.kit_Share_list⟩
    · exact ⟨X.nf_Share_tuple, X.kit_Share_tuple⟩
    · exact ⟨X.nf_Share_dict, X.kit_Share_dict⟩
  ko := fun n hn => by
    simp only [tys, List.mem_cons, List.not_mem_nil, or_false] at hn
    rcases hn with rfl | rfl | rfl | rfl | rfl | rfl
    · exact X.tik_Share_int
    · exact X.tik_Share_bool
    · exact X.tik_Share_str
    · exact X.tik_Share_list
    · exact X.tik_Share_tuple
    · exact X.tik_Share_dict
section
variable {P : Program} {w : World} {K : PySem.W.Frag} {mg : Str → Option Value} {base : Heap}
theorem b_is_whole (X : Txt K mg) : Binds K (fdOf K (He.ga K "is_whole")) ["thing"] [] := X.F_is_whole.bindsN fun _ _ _ _ _ _ us hl => match us, hl with | [_], _ => rfl
theorem ok_is_whole (X : Txt K mg) : FnOk P w K mg base CX0 1 (He.ga K "is_whole") (fdOf K (He.ga K "is_whole")) ["thing"] (spOf (cfg K) (pu (c_is_whole (cfg K)))) := by
  refine X.F_is_whole.ok sc_is_whole (fun vs H Q E h => spOf_len len_is_whole h) (fun cdv A outer s H vs Q E hr h => ⟨t_is_whole (cfg K) E, PSs.nox ?_, fn_go (pure_is_whole (sh_ok X)) vs H Q E h⟩)
  exact (pss_one (ps_ret (pe_and (pe_callB call_isi (by rfl) X.f_isinstance (by decide +kernel) (pa_cons (pv 0) (pa_cons (pe_bltn (by rfl) X.f_int (by decide +kernel) rfl) pa_nil))) (pe_one (pe_not (pe_callB call_isi (by rfl) X.f_isinstance (by decide +kernel) (pa_cons (pv 0) (pa_cons (pe_bltn (by rfl) X.f_bool (by decide +kernel) rfl) pa_nil))))))))
theorem b_common (X : Txt K mg) : Binds K (fdOf K (He.ga K "common")) ["one", "other"] [] := X.F_common.bindsN fun _ _ _ _ _ _ us hl => match us, hl with | [_, _], _ => rfl
theorem ok_common (X : Txt K mg) : FnOk P w K mg base CX0 1 (He.ga K "common") (fdOf K (He.ga K "common")) ["one", "other"] (spOf (cfg K) (pu (c_common (cfg K)))) := by
  refine X.F_common.ok sc_common (fun vs H Q E h => spOf_len len_common h) (fun cdv A outer s H vs Q E hr h => ⟨t_common (cfg K) E, PSs.nox ?_, fn_go (pure_common (sh_ok X)) vs H Q E h⟩)
  exact (pss_cons (ps_while PassesOwn.never (pt_cmpR op_ne (pv 1) pe_int (nomark _)) (pss_one (ps_par (by rfl) sc_common.nd (i := 0) (j := 1) rfl rfl (by decide) rfl rfl (pa_cons (pv 1) (pa_cons (pe_op op_modN (pv 0) (pv 1)) pa_nil)) (by rfl))))
      (pss_one (ps_ret (pv 0))))
theorem b_Share___init___1 (X : Txt K mg) : ∃ ds, Vals ([.int 1] : List V) ds ∧ Binds K (fdOf K (He.ma K (He.ga K "Share") "__init__")) ["self", "top", "bottom"] ds := X.F_Share___init__.binds1 2 0 (by simp) rfl fun T kV doc pm an cdv ct us its h1 h2 => match us, its, h1, h2 with | [_, _], [_], _, _ => ⟨_, rfl, rfl⟩
theorem b_Share___init___2 (X : Txt K mg) : ∃ ds, Vals ([] : List V) ds ∧ Binds K (fdOf K (He.ma K (He.ga K "Share") "__init__")) ["self", "top", "bottom"] ds := X.F_Share___init__.binds1 3 1 (by simp) rfl fun T kV doc pm an cdv ct us its h1 h2 => match us, its, h1, h2 with | [_, _, _], [_], _, _ => ⟨_, rfl, rfl⟩
theorem ok_Share___init__ (X : Txt K mg) : FnOk P w K mg base (L2.CX P w) 2 (He.ma K (He.ga K "Share") "__init__") (fdOf K (He.ma K (He.ga K "Share") "__init__")) ["self", "top", "bottom"] (spOf (cfg K) (ini 0 (c_Share___init__ (cfg K)))) := by
  refine X.F_Share___init__.ok sc_Share___init__ (fun vs H Q E h => spOf_len len_Share___init__ h) (fun cdv A outer s H vs Q E hr h => ⟨t_Share___init__ (cfg K) E, ?_, fn_go (pure_Share___init__ (sh_ok X)) vs H Q E h⟩)
  exact (pss_cons (ps_if (PW.pt (pw_or (pt_not (pt_val (pe_call (ok_is_whole X) (hr.mono (by decide)) (by rfl) X.g_is_whole X.F_is_whole.kp (b_is_whole X) .nil pass0 (pa_cons (pv 1) pa_nil)))) (pw_or (pt_not (pt_val (pe_call (ok_is_whole X) (hr.mono (by decide)) (by rfl) X.g_is_whole X.F_is_whole.kp (b_is_whole X) .nil pass0 (pa_cons (pv 2) pa_nil)))) (pw_or1 (pt_cmpR op_eq (pv 2) pe_int (nomark _)))))) (pss_one (ps_raise rfl (takes_of rfl rfl rfl rfl) (pmk_own PySem.F.excBase_ValueError X.x0_NoShare X.g_NoShare X.x1_NoShare (raises_own X.x2_NoShare X.x3_NoShare) (by rfl)))) pss_nil)
      (pss_cons (ps_set (i := 3) sc_Share___init__.nd rfl (by first | exact Or.inl rfl | exact Or.inr rfl) (pe_op op_mulO (pe_call (ok_common X) (hr.mono (by decide)) (by rfl) X.g_common X.F_common.kp (b_common X) .nil pass0 (pa_cons (pe_callB call_abs (by rfl) X.f_abs (by decide +kernel) (pa_cons (pv 1) pa_nil)) (pa_cons (pe_callB call_abs (by rfl) X.f_abs (by decide +kernel) (pa_cons (pv 2) pa_nil)) pa_nil))) (pe_ifExp (pt_cmpR op_gt (pv 2) pe_int (nomark _)) pe_int (pe_un un_neg pe_int))))
      (pss_cons (ps_fld (pv 0) (pe_op op_fdivO (pv 1) (pv 3)) rfl)
      (pss_one (ps_fld (pv 0) (pe_op op_fdivO (pv 2) (pv 3)) rfl)))))
theorem b_Share___eq__ (X : Txt K mg) : Binds K (fdOf K (He.ma K (He.ga K "Share") "__eq__")) ["self", "other"] [] := X.F_Share___eq__.bindsN fun _ _ _ _ _ _ us hl => match us, hl with | [_, _], _ => rfl
theorem ok_Share___eq__ (X : Txt K mg) : FnOk P w K mg base CX0 1 (He.ma K (He.ga K "Share") "__eq__") (fdOf K (He.ma K (He.ga K "Share") "__eq__")) ["self", "other"] (spOf (cfg K) (pu (c_Share___eq__ (cfg K)))) := by
  refine X.F_Share___eq__.ok sc_Share___eq__ (fun vs H Q E h => spOf_len len_Share___eq__ h) (fun cdv A outer s H vs Q E hr h => ⟨t_Share___eq__ (cfg K) E, PSs.nox ?_, fn_go (pure_Share___eq__ (sh_ok X)) vs H Q E h⟩)
  exact (pss_one (ps_ret (pe_and (pe_callB call_isi (by rfl) X.f_isinstance (by decide +kernel) (pa_cons (pv 1) (pa_cons (pe_glob (by rfl) X.g_Share rfl) pa_nil))) (pe_one (pe_cmpR (op_eqD hr.units) (pe_tup (pa_cons (pe_fld (pv 0) rfl) (pa_cons (pe_fld (pv 0) rfl) pa_nil))) (pe_tup (pa_cons (pe_fld (pv 1) rfl) (pa_cons (pe_fld (pv 1) rfl) pa_nil))) (nomark _))))))
theorem b_Share___str__ (X : Txt K mg) : Binds K (fdOf K (He.ma K (He.ga K "Share") "__str__")) ["self"] [] := X.F_Share___str__.bindsN fun _ _ _ _ _ _ us hl => match us, hl with | [_], _ => rfl
theorem ok_Share___str__ (X : Txt K mg) : FnOk P w K mg base CX0 1 (He.ma K (He.ga K "Share") "__str__") (fdOf K (He.ma K (He.ga K "Share") "__str__")) ["self"] (spOf (cfg K) (pu (c_Share___str__ (cfg K)))) := by
  refine X.F_Share___str__.ok sc_Share___str__ (fun vs H Q E h => spOf_len len_Share___str__ h) (fun cdv A outer s H vs Q E hr h => ⟨t_Share___str__ (cfg K) E, PSs.nox ?_, fn_go (pure_Share___str__ (sh_ok X)) vs H Q E h⟩)
  exact (pss_cons (ps_if (pt_cmpR op_eq (pe_fld (pv 0) rfl) pe_int (nomark _)) (pss_one (ps_ret (pe_callTy call_str_int (by rfl) X.f_str (by decide +kernel) (pa_cons (pe_fld (pv 0) rfl) pa_nil)))) pss_nil)
      (pss_one (ps_ret (pe_joined (PJ.cons (pe_fmt (pe_fld (pv 0) rfl)) (PJ.cons pe_str (PJ.cons (pe_fmt (pe_fld (pv 0) rfl)) PJ.nil)))))))
theorem b_plus (X : Txt K mg) : Binds K (fdOf K (He.ga K "plus")) ["one", "other"] [] := X.F_plus.bindsN fun _ _ _ _ _ _ us hl => match us, hl with | [_, _], _ => rfl
theorem ok_plus (X : Txt K mg) : FnOk P w K mg base CX0 4 (He.ga K "plus") (fdOf K (He.ga K "plus")) ["one", "other"] (spOf (cfg K) (pu (c_plus (cfg K)))) := by
  obtain ⟨dsShare2, hdShare2, bdShare2⟩ := b_Share___init___2 X
  refine X.F_plus.ok sc_plus (fun vs H Q E h => spOf_len len_plus h) (fun cdv A outer s H vs Q E hr h => ⟨t_plus (cfg K) E, PSs.nox ?_, fn_go (pure_plus (sh_ok X)) vs H Q E h⟩)
  exact (pss_one (ps_ret (pe_make X.mk_Share (ok_Share___init__ X) (hr.mono (by decide)) (by rfl) X.g_Share bdShare2 hdShare2 passL (pa_cons (pe_op op_add (pe_op op_mulO (pe_fld (pv 0) rfl) (pe_fld (pv 1) rfl)) (pe_op op_mulO (pe_fld (pv 1) rfl) (pe_fld (pv 0) rfl))) (pa_cons (pe_op op_mulO (pe_fld (pv 0) rfl) (pe_fld (pv 1) rfl)) pa_nil)))))
theorem b_sum_of (X : Txt K mg) : Binds K (fdOf K (He.ga K "sum_of")) ["shares"] [] := X.F_sum_of.bindsN fun _ _ _ _ _ _ us hl => match us, hl with | [_], _ => rfl
theorem ok_sum_of (X : Txt K mg) : FnOk P w K mg base CX0 5 (He.ga K "sum_of") (fdOf K (He.ga K "sum_of")) ["shares"] (spOf (cfg K) (pu (c_sum_of (cfg K)))) := by
  obtain ⟨dsShare1, hdShare1, bdShare1⟩ := b_Share___init___1 X
  refine X.F_sum_of.ok sc_sum_of (fun vs H Q E h => spOf_len len_sum_of h) (fun cdv A outer s H vs Q E hr h => ⟨t_sum_of (cfg K) E, PSs.nox ?_, fn_go (pure_sum_of (sh_ok X)) vs H Q E h⟩)
  exact (pss_cons (ps_set (i := 1) sc_sum_of.nd rfl (by first | exact Or.inl rfl | exact Or.inr rfl) (pe_make X.mk_Share (ok_Share___init__ X) (hr.mono (by decide)) (by rfl) X.g_Share bdShare1 hdShare1 passL (pa_cons pe_int pa_nil)))
      (pss_cons (ps_for PassesOwn.never rfl (pi_list (pv 0)) (pg_name (i := 2) sc_sum_of.nd rfl (by first | exact Or.inl rfl | exact Or.inr rfl)) (pss_one (ps_set (i := 1) sc_sum_of.nd rfl (by first | exact Or.inl rfl | exact Or.inr rfl) (pe_call (ok_plus X) (hr.mono (by decide)) (by rfl) X.g_plus X.F_plus.kp (b_plus X) .nil pass0 (pa_cons (pv 1) (pa_cons (pv 2) pa_nil))))))
      (pss_one (ps_ret (pv 1)))))
theorem b_are_shares (X : Txt K mg) : Binds K (fdOf K (He.ga K "are_shares")) ["thing"] [] := X.F_are_shares.bindsN fun _ _ _ _ _ _ us hl => match us, hl with | [_], _ => rfl
theorem ok_are_shares (X : Txt K mg) : FnOk P w K mg base CX0 1 (He.ga K "are_shares") (fdOf K (He.ga K "are_shares")) ["thing"] (spOf (cfg K) (pu (c_are_shares (cfg K)))) := by
  refine X.F_are_shares.ok sc_are_shares (fun vs H Q E h => spOf_len len_are_shares h) (fun cdv A outer s H vs Q E hr h => ⟨t_are_shares (cfg K) E, PSs.nox ?_, fn_go (pure_are_shares (sh_ok X)) vs H Q E h⟩)
  exact (pss_one (ps_ret (pe_and (pe_callB call_isi (by rfl) X.f_isinstance (by decide +kernel) (pa_cons (pv 0) (pa_cons (pe_bltn (by rfl) X.f_list (by decide +kernel) rfl) pa_nil))) (pe_one (pe_callB (cr_all rfl) (by rfl) X.f_all (by decide +kernel) (pa_cons (pe_lc (own := [("share", 1)]) (g := (gName 1)) (tt := tYes) (by rfl) sc_are_shares.nd (pi_list (pv 0)) (blkOk_by (own := [("share", 1)]) (N := ["thing", "share"]) (sc := defScope s_are_shares) (by decide +kernel)) (fun _ _ _ _ _ => (pg_name (i := 1) sc_are_shares.nd rfl (by first | exact Or.inl rfl | exact Or.inr rfl))) (fun _ _ _ _ _ => pts_nil) (fun _ _ _ _ _ => (pe_callB call_isi (by rfl) X.f_isinstance (by decide +kernel) (pa_cons (pv 1) (pa_cons (pe_glob (by rfl) X.g_Share rfl) pa_nil))))) pa_nil))))))
theorem b_none_below (X : Txt K mg) : Binds K (fdOf K (He.ga K "none_below")) ["shares"] [] := X.F_none_below.bindsN fun _ _ _ _ _ _ us hl => match us, hl with | [_], _ => rfl
theorem ok_none_below (X : Txt K mg) : FnOk P w K mg base CX0 1 (He.ga K "none_below") (fdOf K (He.ga K "none_below")) ["shares"] (spOf (cfg K) (pu (c_none_below (cfg K)))) := by
  refine X.F_none_below.ok sc_none_below (fun vs H Q E h => spOf_len len_none_below h) (fun cdv A outer s H vs Q E hr h => ⟨t_none_below (cfg K) E, PSs.nox ?_, fn_go (pure_none_below (sh_ok X)) vs H Q E h⟩)
  exact (pss_one (ps_ret (pe_callB (cr_all rfl) (by rfl) X.f_all (by decide +kernel) (pa_cons (pe_lc (own := [("share", 1)]) (g := (gName 1)) (tt := tYes) (by rfl) sc_none_below.nd (pi_list (pv 0)) (blkOk_by (own := [("share", 1)]) (N := ["shares", "share"]) (sc := defScope s_none_below) (by decide +kernel)) (fun _ _ _ _ _ => (pg_name (i := 1) sc_none_below.nd rfl (by first | exact Or.inl rfl | exact Or.inr rfl))) (fun _ _ _ _ _ => pts_nil) (fun _ _ _ _ _ => (pe_cmpR op_ge (pe_fld (pv 1) rfl) pe_int (nomark _)))) pa_nil))))
theorem b_are_rows (X : Txt K mg) : Binds K (fdOf K (He.ga K "are_rows")) ["thing", "many", "long"] [] := X.F_are_rows.bindsN fun _ _ _ _ _ _ us hl => match us, hl with | [_, _, _], _ => rfl
theorem ok_are_rows (X : Txt K mg) : FnOk P w K mg base CX0 2 (He.ga K "are_rows") (fdOf K (He.ga K "are_rows")) ["thing", "many", "long"] (spOf (cfg K) (pu (c_are_rows (cfg K)))) := by
  refine X.F_are_rows.ok sc_are_rows (fun vs H Q E h => spOf_len len_are_rows h) (fun cdv A outer s H vs Q E hr h => ⟨t_are_rows (cfg K) E, PSs.nox ?_, fn_go (pure_are_rows (sh_ok X)) vs H Q E h⟩)
  exact (pss_cons (ps_if (PW.pt (pw_or (pt_not (pt_val (pe_callB call_isi (by rfl) X.f_isinstance (by decide +kernel) (pa_cons (pv 0) (pa_cons (pe_bltn (by rfl) X.f_list (by decide +kernel) rfl) pa_nil))))) (pw_or1 (pt_cmpR op_ne (pe_callB call_len (by rfl) X.f_len (by decide +kernel) (pa_cons (pv 0) pa_nil)) (pv 1) (nomark _))))) (pss_one (ps_ret pe_bl)) pss_nil)
      (pss_one (ps_ret (pe_callB (cr_all rfl) (by rfl) X.f_all (by decide +kernel) (pa_cons (pe_lc (own := [("row", 3)]) (g := (gName 3)) (tt := tYes) (by rfl) sc_are_rows.nd (pi_list (pv 0)) (blkOk_by (own := [("row", 3)]) (N := ["thing", "many", "long", "row"]) (sc := defScope s_are_rows) (by decide +kernel)) (fun _ _ _ _ _ => (pg_name (i := 3) sc_are_rows.nd rfl (by first | exact Or.inl rfl | exact Or.inr rfl))) (fun _ _ _ _ _ => pts_nil) (fun _ _ _ _ _ => (pe_and (pe_call (ok_are_shares X) (hr.mono (by decide)) (by rfl) X.g_are_shares X.F_are_shares.kp (b_are_shares X) .nil pass0 (pa_cons (pv 3) pa_nil)) (pe_and (pe_cmpR op_eq (pe_callB call_len (by rfl) X.f_len (by decide +kernel) (pa_cons (pv 3) pa_nil)) (pv 2) (nomark _)) (pe_one (pe_call (ok_none_below X) (hr.mono (by decide)) (by rfl) X.g_none_below X.F_none_below.kp (b_none_below X) .nil pass0 (pa_cons (pv 3) pa_nil))))))) pa_nil)))))
theorem b_is_plan (X : Txt K mg) : Binds K (fdOf K (He.ga K "is_plan")) ["thing", "first", "second"] [] := X.F_is_plan.bindsN fun _ _ _ _ _ _ us hl => match us, hl with | [_, _, _], _ => rfl
theorem ok_is_plan (X : Txt K mg) : FnOk P w K mg base CX0 6 (He.ga K "is_plan") (fdOf K (He.ga K "is_plan")) ["thing", "first", "second"] (spOf (cfg K) (pu (c_is_plan (cfg K)))) := by
  refine X.F_is_plan.ok sc_is_plan (fun vs H Q E h => spOf_len len_is_plan h) (fun cdv A outer s H vs Q E hr h => ⟨t_is_plan (cfg K) E, PSs.nox ?_, fn_go (pure_is_plan (sh_ok X)) vs H Q E h⟩)
  exact (pss_cons (ps_if (pt_not (pt_val (pe_call (ok_are_rows X) (hr.mono (by decide)) (by rfl) X.g_are_rows X.F_are_rows.kp (b_are_rows X) .nil pass0 (pa_cons (pv 0) (pa_cons (pe_callB call_len (by rfl) X.f_len (by decide +kernel) (pa_cons (pv 1) pa_nil)) (pa_cons (pe_callB call_len (by rfl) X.f_len (by decide +kernel) (pa_cons (pv 2) pa_nil)) pa_nil)))))) (pss_one (ps_ret pe_bl)) pss_nil)
      (pss_cons (ps_if (pt_not (pt_val (pe_callB (cr_all rfl) (by rfl) X.f_all (by decide +kernel) (pa_cons (pe_lc (own := [("row", 5), ("share", 4)]) (g := (gTup (cfg K).K 2 (gCons (gName 5) (gCons (gName 4) gNil)))) (tt := tYes) (by rfl) sc_is_plan.nd (pi_zip (by rfl) X.f_zip (pa_cons (pv 0) (pa_cons (pv 1) pa_nil))) (blkOk_by (own := [("row", 5), ("share", 4)]) (N := ["thing", "first", "second", "at", "share", "row"]) (sc := defScope s_is_plan) (by decide +kernel)) (fun _ _ _ _ _ => (pg_tup rfl (pgs_cons (pg_name (i := 5) sc_is_plan.nd rfl (by first | exact Or.inl rfl | exact Or.inr rfl)) (pgs_cons (pg_name (i := 4) sc_is_plan.nd rfl (by first | exact Or.inl rfl | exact Or.inr rfl)) pgs_nil)))) (fun _ _ _ _ _ => pts_nil) (fun _ _ _ _ _ => (pe_cmpR (op_ownEq (ok_Share___eq__ X) X.m_Share__eq__.at_ X.m_Share__eq__.fn (b_Share___eq__ X) pass0 (hr.mono (by decide))) (pe_call (ok_sum_of X) (hr.mono (by decide)) (by rfl) X.g_sum_of X.F_sum_of.kp (b_sum_of X) .nil pass0 (pa_cons (pv 5) pa_nil)) (pv 4) (nomark _)))) pa_nil)))) (pss_one (ps_ret pe_bl)) pss_nil)
      (pss_one (ps_ret (pe_callB (cr_all rfl) (by rfl) X.f_all (by decide +kernel) (pa_cons (pe_lc (own := [("at", 3), ("share", 4)]) (g := (gTup (cfg K).K 2 (gCons (gName 3) (gCons (gName 4) gNil)))) (tt := tYes) (by rfl) sc_is_plan.nd (pi_enum (by rfl) X.f_enumerate (pa_cons (pv 2) pa_nil)) (blkOk_by (own := [("at", 3), ("share", 4)]) (N := ["thing", "first", "second", "at", "share", "row"]) (sc := defScope s_is_plan) (by decide +kernel)) (fun _ _ _ _ _ => (pg_tup rfl (pgs_cons (pg_name (i := 3) sc_is_plan.nd rfl (by first | exact Or.inl rfl | exact Or.inr rfl)) (pgs_cons (pg_name (i := 4) sc_is_plan.nd rfl (by first | exact Or.inl rfl | exact Or.inr rfl)) pgs_nil)))) (fun _ _ _ _ _ => pts_nil) (fun _ _ _ _ _ => (pe_cmpR (op_ownEq (ok_Share___eq__ X) X.m_Share__eq__.at_ X.m_Share__eq__.fn (b_Share___eq__ X) pass0 (hr.mono (by decide))) (pe_call (ok_sum_of X) (hr.mono (by decide)) (by rfl) X.g_sum_of X.F_sum_of.kp (b_sum_of X) .nil pass0 (pa_cons (pe_lc (own := [("row", 5)]) (g := (gName 5)) (tt := tYes) (by rfl) sc_is_plan.nd (pi_list (pv 0)) (blkOk_by (own := [("row", 5)]) (by rfl)) (fun _ _ _ _ _ => (pg_name (i := 5) sc_is_plan.nd rfl (by first | exact Or.inl rfl | exact Or.inr rfl))) (fun _ _ _ _ _ => pts_nil) (fun _ _ _ _ _ => (pe_ix ix_list (pv 5) (pv 3) (fun _ _ => rfl)))) pa_nil)) (pv 4) (nomark _)))) pa_nil))))))
theorem b_Lwell (X : Txt K mg) : Binds K (fdOf K (He.ga K "_law_well")) ["_law_cell"] [] := X.F_Lwell.bindsN fun _ _ _ _ _ _ us hl => match us, hl with | [_], _ => rfl
theorem ok_Lwell (X : Txt K mg) : FnOk P w K mg base CX0 1 (He.ga K "_law_well") (fdOf K (He.ga K "_law_well")) ["_law_cell"] (spOf (cfg K) (c_Lwell (cfg K))) := by
  refine X.F_Lwell.ok sc_Lwell (fun vs H Q E h => spOf_len len_Lwell h) (fun cdv A outer s H vs Q E hr h => ⟨t_Lwell (cfg K) E, PSs.nox ?_, fn_go (pure_Lwell (sh_ok X)) vs H Q E h⟩)
  exact (pss_one (ps_ret (pe_lst (pa_cons (pe_op op_mulO (pv 0) (pe_callTy call_int1 (by rfl) X.f_int (by decide +kernel) (pa_cons (pe_cmpR op_ge (pv 0) (pe_op op_pow pe_int pe_int) (nomark _)) pa_nil))) (pa_cons (pe_op op_modN (pv 0) pe_int) (pa_cons pe_int pa_nil))))))
theorem b_Ldraw (X : Txt K mg) : Binds K (fdOf K (He.ga K "_law_draw")) ["_law_well_here", "_law_many"] [] := X.F_Ldraw.bindsN fun _ _ _ _ _ _ us hl => match us, hl with | [_, _], _ => rfl
theorem ok_Ldraw (X : Txt K mg) : FnOk P w K mg base CX0 1 (He.ga K "_law_draw") (fdOf K (He.ga K "_law_draw")) ["_law_well_here", "_law_many"] (spOf (cfg K) (wl (c_Ldraw (cfg K)))) := by
  refine X.F_Ldraw.ok sc_Ldraw (fun vs H Q E h => spOf_len len_Ldraw h) (fun cdv A outer s H vs Q E hr h => ⟨t_Ldraw (cfg K) E, PSs.nox ?_, fn_go (pure_Ldraw (sh_ok X)) vs H Q E h⟩)
  exact (pss_cons (ps_if (pt_cmpR op_gt (pe_ix ix_list (pv 0) pe_int (fun _ _ => rfl)) pe_int (nomark _)) (pss_cons (ps_set (i := 4) sc_Ldraw.nd rfl (by first | exact Or.inl rfl | exact Or.inr rfl) (pe_op op_modN (pe_ix ix_list (pv 0) pe_int (fun _ _ => rfl)) (pv 1)))
      (pss_cons (ps_asg (pe_op op_fdivO (pe_ix ix_list (pv 0) pe_int (fun _ _ => rfl)) (pv 1)) (pg_sub (pv 0) pe_int set_list))
      (pss_one (ps_ret (pv 4))))) pss_nil)
      (pss_cons (ps_asg (pe_op op_add (pe_ix ix_list (pv 0) pe_int (fun _ _ => rfl)) pe_int) (pg_sub (pv 0) pe_int set_list))
      (pss_cons (ps_set (i := 2) sc_Ldraw.nd rfl (by first | exact Or.inl rfl | exact Or.inr rfl) (pe_ix ix_list (pe_lst (pa_cons pe_int (pa_cons pe_int (pa_cons pe_int (pa_cons pe_int (pa_cons pe_int (pa_cons pe_int (pa_cons pe_int pa_nil)))))))) (pe_op op_modN (pe_ix ix_list (pv 0) pe_int (fun _ _ => rfl)) pe_int) (fun _ _ => rfl)))
      (pss_cons (ps_set (i := 3) sc_Ldraw.nd rfl (by first | exact Or.inl rfl | exact Or.inr rfl) (pe_op op_modN (pe_op op_pow (pe_op op_add (pe_op op_add (pe_ix ix_list (pv 0) pe_int (fun _ _ => rfl)) (pe_op op_mulO pe_int (pe_ix ix_list (pv 0) pe_int (fun _ _ => rfl)))) pe_int) pe_int) (pv 2)))
      (pss_cons (ps_set (i := 3) sc_Ldraw.nd rfl (by first | exact Or.inl rfl | exact Or.inr rfl) (pe_op op_modN (pe_op op_mulO (pe_op op_add (pv 3) (pe_ix ix_list (pv 0) pe_int (fun _ _ => rfl))) (pe_op op_add (pe_op op_fdivO (pv 3) pe_int) pe_int)) (pv 2)))
      (pss_one (ps_ret (pe_op op_modN (pe_op op_fdivO (pv 3) pe_int) (pv 1)))))))))
theorem b_Lone (X : Txt K mg) : Binds K (fdOf K (He.ga K "_law_one")) ["_law_well_here", "_law_some"] [] := X.F_Lone.bindsN fun _ _ _ _ _ _ us hl => match us, hl with | [_, _], _ => rfl
theorem ok_Lone (X : Txt K mg) : FnOk P w K mg base CX0 2 (He.ga K "_law_one") (fdOf K (He.ga K "_law_one")) ["_law_well_here", "_law_some"] (spOf (cfg K) (wl (c_Lone (cfg K)))) := by
  refine X.F_Lone.ok sc_Lone (fun vs H Q E h => spOf_len len_Lone h) (fun cdv A outer s H vs Q E hr h => ⟨t_Lone (cfg K) E, PSs.nox ?_, fn_go (pure_Lone (sh_ok X)) vs H Q E h⟩)
  exact (pss_one (ps_ret (pe_ix ix_list (pv 1) (pe_call (ok_Ldraw X) (hr.mono (by decide)) (by rfl) X.g_Ldraw X.F_Ldraw.kp (b_Ldraw X) .nil pass0 (pa_cons (pv 0) (pa_cons (pe_callB call_len (by rfl) X.f_len (by decide +kernel) (pa_cons (pv 1) pa_nil)) pa_nil))) (fun _ _ => rfl))))
theorem b_Llow (X : Txt K mg) : Binds K (fdOf K (He.ga K "_law_low")) ["_law_top", "_law_bottom"] [] := X.F_Llow.bindsN fun _ _ _ _ _ _ us hl => match us, hl with | [_, _], _ => rfl
theorem ok_Llow (X : Txt K mg) : FnOk P w K mg base CX0 1 (He.ga K "_law_low") (fdOf K (He.ga K "_law_low")) ["_law_top", "_law_bottom"] (spOf (cfg K) (pu (c_Llow (cfg K)))) := by
  refine X.F_Llow.ok sc_Llow (fun vs H Q E h => spOf_len len_Llow h) (fun cdv A outer s H vs Q E hr h => ⟨t_Llow (cfg K) E, PSs.nox ?_, fn_go (pure_Llow (sh_ok X)) vs H Q E h⟩)
  exact (pss_cons (ps_par (by rfl) sc_Llow.nd (i := 2) (j := 3) rfl rfl (by decide) rfl rfl (pa_cons (pe_callB call_abs (by rfl) X.f_abs (by decide +kernel) (pa_cons (pv 0) pa_nil)) (pa_cons (pe_callB call_abs (by rfl) X.f_abs (by decide +kernel) (pa_cons (pv 1) pa_nil)) pa_nil)) (by rfl))
      (pss_cons (ps_while PassesOwn.never (pt_cmpR op_gt (pv 3) pe_int (nomark _)) (pss_one (ps_par (by rfl) sc_Llow.nd (i := 2) (j := 3) rfl rfl (by decide) rfl rfl (pa_cons (pv 3) (pa_cons (pe_op op_modN (pv 2) (pv 3)) pa_nil)) (by rfl))))
      (pss_cons (ps_if (pt_cmpR op_lt (pv 1) pe_int (nomark _)) (pss_one (ps_set (i := 2) sc_Llow.nd rfl (by first | exact Or.inl rfl | exact Or.inr rfl) (pe_op op_sub pe_int (pv 2)))) pss_nil)
      (pss_one (ps_ret (pe_tup (pa_cons (pe_op op_fdivO (pv 0) (pv 2)) (pa_cons (pe_op op_fdivO (pv 1) (pv 2)) pa_nil))))))))
theorem b_Lheap (X : Txt K mg) : Binds K (fdOf K (He.ga K "_law_heap")) ["_law_well_here", "_law_many"] [] := X.F_Lheap.bindsN fun _ _ _ _ _ _ us hl => match us, hl with | [_, _], _ => rfl
theorem ok_Lheap (X : Txt K mg) : FnOk P w K mg base CX0 2 (He.ga K "_law_heap") (fdOf K (He.ga K "_law_heap")) ["_law_well_here", "_law_many"] (spOf (cfg K) (wl (c_Lheap (cfg K)))) := by
  refine X.F_Lheap.ok sc_Lheap (fun vs H Q E h => spOf_len len_Lheap h) (fun cdv A outer s H vs Q E hr h => ⟨t_Lheap (cfg K) E, PSs.nox ?_, fn_go (pure_Lheap (sh_ok X)) vs H Q E h⟩)
  exact (pss_cons (ps_set (i := 2) sc_Lheap.nd rfl (by first | exact Or.inl rfl | exact Or.inr rfl) (pe_call (ok_Ldraw X) (hr.mono (by decide)) (by rfl) X.g_Ldraw X.F_Ldraw.kp (b_Ldraw X) .nil pass0 (pa_cons (pv 0) (pa_cons pe_int pa_nil))))
      (pss_cons (ps_set (i := 3) sc_Lheap.nd rfl (by first | exact Or.inl rfl | exact Or.inr rfl) (pe_op op_rep (pe_lst (pa_cons pe_int pa_nil)) (pv 1)))
      (pss_cons (ps_for PassesOwn.never rfl (pi_range1 (by rfl) X.f_range (pa_cons (pe_ix ix_list (pe_lst (pa_cons pe_int (pa_cons pe_int (pa_cons pe_int (pa_cons pe_int pa_nil))))) (pv 2) (fun _ _ => rfl)) pa_nil)) (pg_name (i := 4) sc_Lheap.nd rfl (by first | exact Or.inl rfl | exact Or.inr rfl)) (pss_cons (ps_set (i := 5) sc_Lheap.nd rfl (by first | exact Or.inl rfl | exact Or.inr rfl) (pe_call (ok_Ldraw X) (hr.mono (by decide)) (by rfl) X.g_Ldraw X.F_Ldraw.kp (b_Ldraw X) .nil pass0 (pa_cons (pv 0) (pa_cons (pv 1) pa_nil))))
      (pss_one (ps_asg (pe_op op_add (pe_op op_add (pe_ix ix_list (pv 3) (pv 5) (fun _ _ => rfl)) pe_int) (pe_call (ok_Ldraw X) (hr.mono (by decide)) (by rfl) X.g_Ldraw X.F_Ldraw.kp (b_Ldraw X) .nil pass0 (pa_cons (pv 0) (pa_cons pe_int pa_nil)))) (pg_sub (pv 3) (pv 5) set_list)))))
      (pss_cons (ps_if (pt_cmpR op_eq (pv 2) pe_int (nomark _)) (pss_one (ps_set (i := 3) sc_Lheap.nd rfl (by first | exact Or.inl rfl | exact Or.inr rfl) (pe_lc (own := [("_law_place", 7)]) (g := (gName 7)) (tt := tYes) (by rfl) sc_Lheap.nd (pi_range1 (by rfl) X.f_range (pa_cons (pv 1) pa_nil)) (blkOk_by (own := [("_law_place", 7)]) (N := ["_law_well_here", "_law_many", "_law_way", "_law_weights", "_law_k", "_law_at", "_law_weight", "_law_place"]) (sc := defScope s_Lheap) (by decide +kernel)) (fun _ _ _ _ _ => (pg_name (i := 7) sc_Lheap.nd rfl (by first | exact Or.inl rfl | exact Or.inr rfl))) (fun _ _ _ _ _ => pts_nil) (fun _ _ _ _ _ => (pe_call (ok_Ldraw X) (hr.mono (by decide)) (by rfl) X.g_Ldraw X.F_Ldraw.kp (b_Ldraw X) .nil pass0 (pa_cons (pv 0) (pa_cons pe_int pa_nil))))))) pss_nil)
      (pss_cons (ps_if (pt_cmpR op_eq (pe_callB (cr_sum rfl) (by rfl) X.f_sum (by decide +kernel) (pa_cons (pv 3) pa_nil)) pe_int (nomark _)) (pss_one (ps_asg pe_int (pg_sub (pv 3) (pe_call (ok_Ldraw X) (hr.mono (by decide)) (by rfl) X.g_Ldraw X.F_Ldraw.kp (b_Ldraw X) .nil pass0 (pa_cons (pv 0) (pa_cons (pv 1) pa_nil))) set_list))) pss_nil)
      (pss_one (ps_ret (pe_lc (own := [("_law_weight", 6)]) (g := (gName 6)) (tt := tYes) (by rfl) sc_Lheap.nd (pi_list (pv 3)) (blkOk_by (own := [("_law_weight", 6)]) (N := ["_law_well_here", "_law_many", "_law_way", "_law_weights", "_law_k", "_law_at", "_law_weight", "_law_place"]) (sc := defScope s_Lheap) (by decide +kernel)) (fun _ _ _ _ _ => (pg_name (i := 6) sc_Lheap.nd rfl (by first | exact Or.inl rfl | exact Or.inr rfl))) (fun _ _ _ _ _ => pts_nil) (fun _ _ _ _ _ => (pe_call (ok_Llow X) (hr.mono (by decide)) (by rfl) X.g_Llow X.F_Llow.kp (b_Llow X) .nil pass0 (pa_cons (pv 6) (pa_cons (pe_callB (cr_sum rfl) (by rfl) X.f_sum (by decide +kernel) (pa_cons (pv 3) pa_nil)) pa_nil))))))))))))
theorem b_Lshares (X : Txt K mg) : Binds K (fdOf K (He.ga K "_law_shares")) ["_law_pairs"] [] := X.F_Lshares.bindsN fun _ _ _ _ _ _ us hl => match us, hl with | [_], _ => rfl
theorem ok_Lshares (X : Txt K mg) : FnOk P w K mg base CX0 4 (He.ga K "_law_shares") (fdOf K (He.ga K "_law_shares")) ["_law_pairs"] (spOf (cfg K) (pu (c_Lshares (cfg K)))) := by
  obtain ⟨dsShare2, hdShare2, bdShare2⟩ := b_Share___init___2 X
  refine X.F_Lshares.ok sc_Lshares (fun vs H Q E h => spOf_len len_Lshares h) (fun cdv A outer s H vs Q E hr h => ⟨t_Lshares (cfg K) E, PSs.nox ?_, fn_go (pure_Lshares (sh_ok X)) vs H Q E h⟩)
  exact (pss_one (ps_ret (pe_lc (own := [("_law_top", 1), ("_law_bottom", 2)]) (g := (gTup (cfg K).K 2 (gCons (gName 1) (gCons (gName 2) gNil)))) (tt := tYes) (by rfl) sc_Lshares.nd (pi_list (pv 0)) (blkOk_by (own := [("_law_top", 1), ("_law_bottom", 2)]) (N := ["_law_pairs", "_law_top", "_law_bottom"]) (sc := defScope s_Lshares) (by decide +kernel)) (fun _ _ _ _ _ => (pg_tup rfl (pgs_cons (pg_name (i := 1) sc_Lshares.nd rfl (by first | exact Or.inl rfl | exact Or.inr rfl)) (pgs_cons (pg_name (i := 2) sc_Lshares.nd rfl (by first | exact Or.inl rfl | exact Or.inr rfl)) pgs_nil)))) (fun _ _ _ _ _ => pts_nil) (fun _ _ _ _ _ => (pe_make X.mk_Share (ok_Share___init__ X) (hr.mono (by decide)) (by rfl) X.g_Share bdShare2 hdShare2 passL (pa_cons (pv 1) (pa_cons (pv 2) pa_nil)))))))
theorem b_Ladded (X : Txt K mg) : Binds K (fdOf K (He.ga K "_law_added")) ["_law_one_here", "_law_other"] [] := X.F_Ladded.bindsN fun _ _ _ _ _ _ us hl => match us, hl with | [_, _], _ => rfl
theorem ok_Ladded (X : Txt K mg) : FnOk P w K mg base CX0 2 (He.ga K "_law_added") (fdOf K (He.ga K "_law_added")) ["_law_one_here", "_law_other"] (spOf (cfg K) (pu (c_Ladded (cfg K)))) := by
  refine X.F_Ladded.ok sc_Ladded (fun vs H Q E h => spOf_len len_Ladded h) (fun cdv A outer s H vs Q E hr h => ⟨t_Ladded (cfg K) E, PSs.nox ?_, fn_go (pure_Ladded (sh_ok X)) vs H Q E h⟩)
  exact (pss_one (ps_ret (pe_call (ok_Llow X) (hr.mono (by decide)) (by rfl) X.g_Llow X.F_Llow.kp (b_Llow X) .nil pass0 (pa_cons (pe_op op_add (pe_op op_mulO (pe_ix ix_tup (pv 0) pe_int (fun _ _ => rfl)) (pe_ix ix_tup (pv 1) pe_int (fun _ _ => rfl))) (pe_op op_mulO (pe_ix ix_tup (pv 1) pe_int (fun _ _ => rfl)) (pe_ix ix_tup (pv 0) pe_int (fun _ _ => rfl)))) (pa_cons (pe_op op_mulO (pe_ix ix_tup (pv 0) pe_int (fun _ _ => rfl)) (pe_ix ix_tup (pv 1) pe_int (fun _ _ => rfl))) pa_nil)))))
theorem b_Ltotal (X : Txt K mg) : Binds K (fdOf K (He.ga K "_law_total")) ["_law_pairs"] [] := X.F_Ltotal.bindsN fun _ _ _ _ _ _ us hl => match us, hl with | [_], _ => rfl
theorem ok_Ltotal (X : Txt K mg) : FnOk P w K mg base CX0 3 (He.ga K "_law_total") (fdOf K (He.ga K "_law_total")) ["_law_pairs"] (spOf (cfg K) (pu (c_Ltotal (cfg K)))) := by
  refine X.F_Ltotal.ok sc_Ltotal (fun vs H Q E h => spOf_len len_Ltotal h) (fun cdv A outer s H vs Q E hr h => ⟨t_Ltotal (cfg K) E, PSs.nox ?_, fn_go (pure_Ltotal (sh_ok X)) vs H Q E h⟩)
  exact (pss_cons (ps_set (i := 1) sc_Ltotal.nd rfl (by first | exact Or.inl rfl | exact Or.inr rfl) (pe_tup (pa_cons pe_int (pa_cons pe_int pa_nil))))
      (pss_cons (ps_for PassesOwn.never rfl (pi_list (pv 0)) (pg_name (i := 2) sc_Ltotal.nd rfl (by first | exact Or.inl rfl | exact Or.inr rfl)) (pss_one (ps_set (i := 1) sc_Ltotal.nd rfl (by first | exact Or.inl rfl | exact Or.inr rfl) (pe_call (ok_Ladded X) (hr.mono (by decide)) (by rfl) X.g_Ladded X.F_Ladded.kp (b_Ladded X) .nil pass0 (pa_cons (pv 1) (pa_cons (pv 2) pa_nil))))))
      (pss_one (ps_ret (pv 1)))))
theorem b_Lbelow (X : Txt K mg) : Binds K (fdOf K (He.ga K "_law_below")) ["_law_one_here", "_law_other"] [] := X.F_Lbelow.bindsN fun _ _ _ _ _ _ us hl => match us, hl with | [_, _], _ => rfl
theorem ok_Lbelow (X : Txt K mg) : FnOk P w K mg base CX0 1 (He.ga K "_law_below") (fdOf K (He.ga K "_law_below")) ["_law_one_here", "_law_other"] (spOf (cfg K) (pu (c_Lbelow (cfg K)))) := by
  refine X.F_Lbelow.ok sc_Lbelow (fun vs H Q E h => spOf_len len_Lbelow h) (fun cdv A outer s H vs Q E hr h => ⟨t_Lbelow (cfg K) E, PSs.nox ?_, fn_go (pure_Lbelow (sh_ok X)) vs H Q E h⟩)
  exact (pss_one (ps_ret (pe_cmpR op_lt (pe_op op_mulO (pe_ix ix_tup (pv 0) pe_int (fun _ _ => rfl)) (pe_ix ix_tup (pv 1) pe_int (fun _ _ => rfl))) (pe_op op_mulO (pe_ix ix_tup (pv 1) pe_int (fun _ _ => rfl)) (pe_ix ix_tup (pv 0) pe_int (fun _ _ => rfl))) (nomark _))))
theorem b_Lfilled (X : Txt K mg) : Binds K (fdOf K (He.ga K "_law_filled")) ["_law_well_here", "_law_first", "_law_second"] [] := X.F_Lfilled.bindsN fun _ _ _ _ _ _ us hl => match us, hl with | [_, _, _], _ => rfl
theorem ok_Lfilled (X : Txt K mg) : FnOk P w K mg base CX0 3 (He.ga K "_law_filled") (fdOf K (He.ga K "_law_filled")) ["_law_well_here", "_law_first", "_law_second"] (spOf (cfg K) (wl (c_Lfilled (cfg K)))) := by
  refine X.F_Lfilled.ok sc_Lfilled (fun vs H Q E h => spOf_len len_Lfilled h) (fun cdv A outer s H vs Q E hr h => ⟨t_Lfilled (cfg K) E, PSs.nox ?_, fn_go (pure_Lfilled (sh_ok X)) vs H Q E h⟩)
  exact (pss_cons (ps_par (by rfl) sc_Lfilled.nd (i := 6) (j := 7) rfl rfl (by decide) rfl rfl (pa_cons (pe_callTy call_list_of (by rfl) X.f_list (by decide +kernel) (pa_cons (pv 1) pa_nil)) (pa_cons (pe_callTy call_list_of (by rfl) X.f_list (by decide +kernel) (pa_cons (pv 2) pa_nil)) pa_nil)) (by rfl))
      (pss_cons (ps_setLc (i := 3) (own := [("_law_share", 9)]) (g := (gName 9)) (tt := tYes) (by rfl) sc_Lfilled.nd rfl rfl (sw_true rfl rfl rfl (by decide +kernel)) (pi_list (pv 1)) (blkOk_by (own := [("_law_share", 9)]) (N := ["_law_well_here", "_law_first", "_law_second", "_law_plan", "_law_spots", "_law_x", "_law_have", "_law_want", "_law_amount", "_law_share", "_law_y"]) (sc := defScope s_Lfilled) (by decide +kernel)) (fun _ _ _ _ _ => (pg_name (i := 9) sc_Lfilled.nd rfl (by first | exact Or.inl rfl | exact Or.inr rfl))) (fun _ _ _ _ _ => pts_nil) (fun _ _ _ _ _ => (pe_op op_rep (pe_lst (pa_cons (pe_tup (pa_cons pe_int (pa_cons pe_int pa_nil))) pa_nil)) (pe_callB call_len (by rfl) X.f_len (by decide +kernel) (pa_cons (pv 2) pa_nil)))))
      (pss_cons (ps_set (i := 4) sc_Lfilled.nd rfl (by first | exact Or.inl rfl | exact Or.inr rfl) (pe_lst pa_nil))
      (pss_cons (ps_for PassesOwn.never rfl (pi_range1 (by rfl) X.f_range (pa_cons (pe_callB call_len (by rfl) X.f_len (by decide +kernel) (pa_cons (pv 1) pa_nil)) pa_nil)) (pg_name (i := 5) sc_Lfilled.nd rfl (by first | exact Or.inl rfl | exact Or.inr rfl)) (pss_one (ps_expr (pe_bm PySem.F.plainAttrs_list PySem.F.slot_list_extend PySem.F.type_list_extend mt_extend (pv 4) (pa_cons (pe_lc (own := [("_law_y", 10)]) (g := (gName 10)) (tt := tYes) (by rfl) sc_Lfilled.nd (pi_range1 (by rfl) X.f_range (pa_cons (pe_callB call_len (by rfl) X.f_len (by decide +kernel) (pa_cons (pv 2) pa_nil)) pa_nil)) (blkOk_by (own := [("_law_y", 10)]) (N := ["_law_well_here", "_law_first", "_law_second", "_law_plan", "_law_spots", "_law_x", "_law_have", "_law_want", "_law_amount", "_law_share", "_law_y"]) (sc := defScope s_Lfilled) (by decide +kernel)) (fun _ _ _ _ _ => (pg_name (i := 10) sc_Lfilled.nd rfl (by first | exact Or.inl rfl | exact Or.inr rfl))) (fun _ _ _ _ _ => pts_nil) (fun _ _ _ _ _ => (pe_tup (pa_cons (pv 5) (pa_cons (pv 10) pa_nil))))) pa_nil)))))
      (pss_cons (ps_while PassesOwn.never (pt_cmpR (op_neD hr.units) (pv 4) (pe_lst pa_nil) (nomark _)) (pss_cons (ps_asg (pe_bm PySem.F.plainAttrs_list PySem.F.slot_list_pop PySem.F.type_list_pop mt_popAt (pv 4) (pa_cons (pe_call (ok_Ldraw X) (hr.mono (by decide)) (by rfl) X.g_Ldraw X.F_Ldraw.kp (b_Ldraw X) .nil pass0 (pa_cons (pv 0) (pa_cons (pe_callB call_len (by rfl) X.f_len (by decide +kernel) (pa_cons (pv 4) pa_nil)) pa_nil))) pa_nil)) (pg_tup rfl (pgs_cons (pg_name (i := 5) sc_Lfilled.nd rfl (by first | exact Or.inl rfl | exact Or.inr rfl)) (pgs_cons (pg_name (i := 10) sc_Lfilled.nd rfl (by first | exact Or.inl rfl | exact Or.inr rfl)) pgs_nil))))
      (pss_cons (ps_set (i := 8) sc_Lfilled.nd rfl (by first | exact Or.inl rfl | exact Or.inr rfl) (pe_ifExp (pt_val (pe_call (ok_Lbelow X) (hr.mono (by decide)) (by rfl) X.g_Lbelow X.F_Lbelow.kp (b_Lbelow X) .nil pass0 (pa_cons (pe_ix ix_list (pv 7) (pv 10) (fun _ _ => rfl)) (pa_cons (pe_ix ix_list (pv 6) (pv 5) (fun _ _ => rfl)) pa_nil)))) (pe_ix ix_list (pv 7) (pv 10) (fun _ _ => rfl)) (pe_ix ix_list (pv 6) (pv 5) (fun _ _ => rfl))))
      (pss_cons (ps_asg (pv 8) (pg_sub (pe_ix ix_list (pv 3) (pv 5) (fun _ _ => rfl)) (pv 10) set_list))
      (pss_cons (ps_asg (pe_call (ok_Ladded X) (hr.mono (by decide)) (by rfl) X.g_Ladded X.F_Ladded.kp (b_Ladded X) .nil pass0 (pa_cons (pe_ix ix_list (pv 6) (pv 5) (fun _ _ => rfl)) (pa_cons (pe_tup (pa_cons (pe_op op_sub pe_int (pe_ix ix_tup (pv 8) pe_int (fun _ _ => rfl))) (pa_cons (pe_ix ix_tup (pv 8) pe_int (fun _ _ => rfl)) pa_nil))) pa_nil))) (pg_sub (pv 6) (pv 5) set_list))
      (pss_one (ps_asg (pe_call (ok_Ladded X) (hr.mono (by decide)) (by rfl) X.g_Ladded X.F_Ladded.kp (b_Ladded X) .nil pass0 (pa_cons (pe_ix ix_list (pv 7) (pv 10) (fun _ _ => rfl)) (pa_cons (pe_tup (pa_cons (pe_op op_sub pe_int (pe_ix ix_tup (pv 8) pe_int (fun _ _ => rfl))) (pa_cons (pe_ix ix_tup (pv 8) pe_int (fun _ _ => rfl)) pa_nil))) pa_nil))) (pg_sub (pv 7) (pv 10) set_list))))))))
      (pss_one (ps_ret (pv 3))))))))
theorem b_LotherQ (X : Txt K mg) : Binds K (fdOf K (He.ga K "_law_otherwise")) ["_law_well_here", "_law_plan"] [] := X.F_LotherQ.bindsN fun _ _ _ _ _ _ us hl => match us, hl with | [_, _], _ => rfl
theorem ok_LotherQ (X : Txt K mg) : FnOk P w K mg base CX0 3 (He.ga K "_law_otherwise") (fdOf K (He.ga K "_law_otherwise")) ["_law_well_here", "_law_plan"] (spOf (cfg K) (wl (c_LotherQ (cfg K)))) := by
  refine X.F_LotherQ.ok sc_LotherQ (fun vs H Q E h => spOf_len len_LotherQ h) (fun cdv A outer s H vs Q E hr h => ⟨t_LotherQ (cfg K) E, PSs.nox ?_, fn_go (pure_LotherQ (sh_ok X)) vs H Q E h⟩)
  exact (pss_cons (ps_set (i := 2) sc_LotherQ.nd rfl (by first | exact Or.inl rfl | exact Or.inr rfl) (pe_call (ok_Ldraw X) (hr.mono (by decide)) (by rfl) X.g_Ldraw X.F_Ldraw.kp (b_Ldraw X) .nil pass0 (pa_cons (pv 0) (pa_cons (pe_callB call_len (by rfl) X.f_len (by decide +kernel) (pa_cons (pv 1) pa_nil)) pa_nil))))
      (pss_cons (ps_set (i := 3) sc_LotherQ.nd rfl (by first | exact Or.inl rfl | exact Or.inr rfl) (pe_callTy call_list_of (by rfl) X.f_list (by decide +kernel) (pa_cons (pe_ix ix_list (pv 1) (pv 2) (fun _ _ => rfl)) pa_nil)))
      (pss_cons (ps_set (i := 4) sc_LotherQ.nd rfl (by first | exact Or.inl rfl | exact Or.inr rfl) (pe_call (ok_Ldraw X) (hr.mono (by decide)) (by rfl) X.g_Ldraw X.F_Ldraw.kp (b_Ldraw X) .nil pass0 (pa_cons (pv 0) (pa_cons (pe_callB call_len (by rfl) X.f_len (by decide +kernel) (pa_cons (pv 3) pa_nil)) pa_nil))))
      (pss_cons (ps_set (i := 5) sc_LotherQ.nd rfl (by first | exact Or.inl rfl | exact Or.inr rfl) (pe_call (ok_Ldraw X) (hr.mono (by decide)) (by rfl) X.g_Ldraw X.F_Ldraw.kp (b_Ldraw X) .nil pass0 (pa_cons (pv 0) (pa_cons pe_int pa_nil))))
      (pss_cons (ps_if (PW.pt (pw_and (pt_cmpR op_in_seq (pv 5) (pe_tup (pa_cons pe_int (pa_cons pe_int pa_nil))) (by rfl)) (pw_and1 (pt_cmpR (op_neD hr.units) (pe_lc (own := [("_law_one_here", 7)]) (g := (gName 7)) (tt := (tNot (tB (tCB (rIsi (cfg K).K) (tCons (tVar 7) (tCons (tC (.ty "tuple")) tNil)))))) (by rfl) sc_LotherQ.nd (pi_list (pv 3)) (blkOk_by (own := [("_law_one_here", 7)]) (N := ["_law_well_here", "_law_plan", "_law_at", "_law_row", "_law_to", "_law_pick", "_law_other", "_law_one_here"]) (sc := defScope s_LotherQ) (by decide +kernel)) (fun _ _ _ _ _ => (pg_name (i := 7) sc_LotherQ.nd rfl (by first | exact Or.inl rfl | exact Or.inr rfl))) (fun _ _ _ _ _ => (pts_one (pt_not (pt_val (pe_callB call_isi (by rfl) X.f_isinstance (by decide +kernel) (pa_cons (pv 7) (pa_cons (pe_bltn (by rfl) X.f_tuple (by decide +kernel) rfl) pa_nil))))))) (fun _ _ _ _ _ => (pv 7))) (pe_lst pa_nil) (nomark _))))) (pss_one (ps_ret (pe_revL (pv 1)))) pss_nil)
      (pss_cons (ps_if (pt_cmpR op_eq (pv 5) pe_int (nomark _)) (pss_one (ps_asg (pe_call (ok_Ladded X) (hr.mono (by decide)) (by rfl) X.g_Ladded X.F_Ladded.kp (b_Ladded X) .nil pass0 (pa_cons (pe_ix ix_list (pv 3) (pv 4) (fun _ _ => rfl)) (pa_cons (pe_call (ok_Lone X) (hr.mono (by decide)) (by rfl) X.g_Lone X.F_Lone.kp (b_Lone X) .nil pass0 (pa_cons (pv 0) (pa_cons (pe_lst (pa_cons (pe_tup (pa_cons pe_int (pa_cons pe_int pa_nil))) (pa_cons (pe_tup (pa_cons (pe_un un_neg pe_int) (pa_cons pe_int pa_nil))) (pa_cons (pe_tup (pa_cons (pe_un un_neg pe_int) (pa_cons pe_int pa_nil))) (pa_cons (pe_tup (pa_cons pe_int (pa_cons pe_int pa_nil))) pa_nil))))) pa_nil))) pa_nil))) (pg_sub (pv 3) (pv 4) set_list))) (pss_one (ps_if (pt_cmpR op_eq (pv 5) pe_int (nomark _)) (pss_cons (ps_set (i := 6) sc_LotherQ.nd rfl (by first | exact Or.inl rfl | exact Or.inr rfl) (pe_call (ok_Ldraw X) (hr.mono (by decide)) (by rfl) X.g_Ldraw X.F_Ldraw.kp (b_Ldraw X) .nil pass0 (pa_cons (pv 0) (pa_cons (pe_callB call_len (by rfl) X.f_len (by decide +kernel) (pa_cons (pv 3) pa_nil)) pa_nil))))
      (pss_one (ps_asg (pe_tup (pa_cons (pe_ix ix_list (pv 3) (pv 6) (fun _ _ => rfl)) (pa_cons (pe_ix ix_list (pv 3) (pv 4) (fun _ _ => rfl)) pa_nil))) (pg_tup rfl (pgs_cons (pg_sub (pv 3) (pv 4) set_list) (pgs_cons (pg_sub (pv 3) (pv 6) set_list) pgs_nil)))))) (pss_one (ps_if (pt_cmpR op_eq (pv 5) pe_int (nomark _)) (pss_cons (ps_set (i := 6) sc_LotherQ.nd rfl (by first | exact Or.inl rfl | exact Or.inr rfl) (pe_call (ok_Ldraw X) (hr.mono (by decide)) (by rfl) X.g_Ldraw X.F_Ldraw.kp (b_Ldraw X) .nil pass0 (pa_cons (pv 0) (pa_cons (pe_callB call_len (by rfl) X.f_len (by decide +kernel) (pa_cons (pv 3) pa_nil)) pa_nil))))
      (pss_cons (ps_asg (pe_call (ok_Ladded X) (hr.mono (by decide)) (by rfl) X.g_Ladded X.F_Ladded.kp (b_Ladded X) .nil pass0 (pa_cons (pe_ix ix_list (pv 3) (pv 4) (fun _ _ => rfl)) (pa_cons (pe_tup (pa_cons (pe_un un_neg pe_int) (pa_cons pe_int pa_nil))) pa_nil))) (pg_sub (pv 3) (pv 4) set_list))
      (pss_one (ps_asg (pe_call (ok_Ladded X) (hr.mono (by decide)) (by rfl) X.g_Ladded X.F_Ladded.kp (b_Ladded X) .nil pass0 (pa_cons (pe_ix ix_list (pv 3) (pv 6) (fun _ _ => rfl)) (pa_cons (pe_tup (pa_cons pe_int (pa_cons pe_int pa_nil))) pa_nil))) (pg_sub (pv 3) (pv 6) set_list))))) (pss_one (ps_if (pt_cmpR op_eq (pv 5) pe_int (nomark _)) (pss_one (ps_asg (pe_call (ok_Lone X) (hr.mono (by decide)) (by rfl) X.g_Lone X.F_Lone.kp (b_Lone X) .nil pass0 (pa_cons (pv 0) (pa_cons (pe_lst (pa_cons pe_int (pa_cons pe_non (pa_cons pe_str (pa_cons pe_bl pa_nil))))) pa_nil))) (pg_sub (pv 3) (pv 4) set_list))) (pss_one (ps_if (pt_cmpR op_eq (pv 5) pe_int (nomark _)) (pss_one (ps_set (i := 3) sc_LotherQ.nd rfl (by first | exact Or.inl rfl | exact Or.inr rfl) (pe_call (ok_Lone X) (hr.mono (by decide)) (by rfl) X.g_Lone X.F_Lone.kp (b_Lone X) .nil pass0 (pa_cons (pv 0) (pa_cons (pe_lst (pa_cons (pe_slice sl_list (pv 3) (po_some pe_int) po_none) (pa_cons (pe_op op_cat (pv 3) (pe_lst (pa_cons (pe_tup (pa_cons pe_int (pa_cons pe_int pa_nil))) pa_nil))) pa_nil))) pa_nil))))) (pss_one (ps_if (pt_cmpR op_eq (pv 5) pe_int (nomark _)) (pss_one (ps_ret (pe_call (ok_Lone X) (hr.mono (by decide)) (by rfl) X.g_Lone X.F_Lone.kp (b_Lone X) .nil pass0 (pa_cons (pv 0) (pa_cons (pe_lst (pa_cons (pe_slice sl_list (pv 1) (po_some pe_int) po_none) (pa_cons (pe_op op_cat (pv 1) (pe_lst (pa_cons (pv 3) pa_nil))) (pa_cons (pe_revL (pv 1)) pa_nil)))) pa_nil))))) pss_nil)))))))))))
      (pss_one (ps_ret (pe_op op_cat (pe_op op_cat (pe_slice sl_list (pv 1) po_none (po_some (pv 2))) (pe_lst (pa_cons (pv 3) pa_nil))) (pe_slice sl_list (pv 1) (po_some (pe_op op_add (pv 2) pe_int)) po_none))))))))))
theorem b_LmadeQ (X : Txt K mg) : Binds K (fdOf K (He.ga K "_law_made")) ["_law_plan"] [] := X.F_LmadeQ.bindsN fun _ _ _ _ _ _ us hl => match us, hl with | [_], _ => rfl
theorem ok_LmadeQ (X : Txt K mg) : FnOk P w K mg base CX0 4 (He.ga K "_law_made") (fdOf K (He.ga K "_law_made")) ["_law_plan"] (spOf (cfg K) (pu (c_LmadeQ (cfg K)))) := by
  obtain ⟨dsShare2, hdShare2, bdShare2⟩ := b_Share___init___2 X
  refine X.F_LmadeQ.ok sc_LmadeQ (fun vs H Q E h => spOf_len len_LmadeQ h) (fun cdv A outer s H vs Q E hr h => ⟨t_LmadeQ (cfg K) E, PSs.nox ?_, fn_go (pure_LmadeQ (sh_ok X)) vs H Q E h⟩)
  exact (pss_one (ps_ret (pe_lc (own := [("_law_row", 1)]) (g := (gName 1)) (tt := tYes) (by rfl) sc_LmadeQ.nd (pi_list (pv 0)) (blkOk_by (own := [("_law_row", 1)]) (N := ["_law_plan", "_law_row", "_law_one_here"]) (sc := defScope s_LmadeQ) (by decide +kernel)) (fun _ _ _ _ _ => (pg_name (i := 1) sc_LmadeQ.nd rfl (by first | exact Or.inl rfl | exact Or.inr rfl))) (fun _ _ _ _ _ => pts_nil) (fun _ _ _ _ _ => (pe_lc (own := [("_law_one_here", 2)]) (g := (gName 2)) (tt := tYes) (by rfl) sc_LmadeQ.nd (pi_list (pv 1)) (blkOk_by (own := [("_law_one_here", 2)]) (by rfl)) (fun _ _ _ _ _ => (pg_name (i := 2) sc_LmadeQ.nd rfl (by first | exact Or.inl rfl | exact Or.inr rfl))) (fun _ _ _ _ _ => pts_nil) (fun _ _ _ _ _ => (pe_ifExp (pt_val (pe_callB call_isi (by rfl) X.f_isinstance (by decide +kernel) (pa_cons (pv 2) (pa_cons (pe_bltn (by rfl) X.f_tuple (by decide +kernel) rfl) pa_nil)))) (pe_make X.mk_Share (ok_Share___init__ X) (hr.mono (by decide)) (by rfl) X.g_Share bdShare2 hdShare2 passL (pa_cons (pe_ix ix_tup (pv 2) pe_int (fun _ _ => rfl)) (pa_cons (pe_ix ix_tup (pv 2) pe_int (fun _ _ => rfl)) pa_nil))) (pv 2))))))))
theorem b_LdueQ (X : Txt K mg) : Binds K (fdOf K (He.ga K "_law_due")) ["_law_plan", "_law_first", "_law_second"] [] := X.F_LdueQ.bindsN fun _ _ _ _ _ _ us hl => match us, hl with | [_, _, _], _ => rfl
theorem ok_LdueQ (X : Txt K mg) : FnOk P w K mg base CX0 4 (He.ga K "_law_due") (fdOf K (He.ga K "_law_due")) ["_law_plan", "_law_first", "_law_second"] (spOf (cfg K) (pu (c_LdueQ (cfg K)))) := by
  refine X.F_LdueQ.ok sc_LdueQ (fun vs H Q E h => spOf_len len_LdueQ h) (fun cdv A outer s H vs Q E hr h => ⟨t_LdueQ (cfg K) E, PSs.nox ?_, fn_go (pure_LdueQ (sh_ok X)) vs H Q E h⟩)
  exact (pss_cons (ps_if (PW.pt (pw_or (pt_cmpR op_ne (pe_callB call_len (by rfl) X.f_len (by decide +kernel) (pa_cons (pv 0) pa_nil)) (pe_callB call_len (by rfl) X.f_len (by decide +kernel) (pa_cons (pv 1) pa_nil)) (nomark _)) (pw_or1 (pt_cmpR (op_neD hr.units) (pe_lc (own := [("_law_row", 3)]) (g := (gName 3)) (tt := (tTest (tOp rNe (tCB (Pw.rLen (cfg K).K) (tCons (tVar 3) tNil)) (tCB (Pw.rLen (cfg K).K) (tCons (tVar 2) tNil))))) (by rfl) sc_LdueQ.nd (pi_list (pv 0)) (blkOk_by (own := [("_law_row", 3)]) (N := ["_law_plan", "_law_first", "_law_second", "_law_row", "_law_share", "_law_bad", "_law_one_here", "_law_at"]) (sc := defScope s_LdueQ) (by decide +kernel)) (fun _ _ _ _ _ => (pg_name (i := 3) sc_LdueQ.nd rfl (by first | exact Or.inl rfl | exact Or.inr rfl))) (fun _ _ _ _ _ => (pts_one (pt_cmpR op_ne (pe_callB call_len (by rfl) X.f_len (by decide +kernel) (pa_cons (pv 3) pa_nil)) (pe_callB call_len (by rfl) X.f_len (by decide +kernel) (pa_cons (pv 2) pa_nil)) (nomark _)))) (fun _ _ _ _ _ => (pv 3))) (pe_lst pa_nil) (nomark _))))) (pss_one (ps_ret pe_bl)) pss_nil)
      (pss_cons (ps_for PassesOwn.never rfl (pi_zip (by rfl) X.f_zip (pa_cons (pv 0) (pa_cons (pv 1) pa_nil))) (pg_tup rfl (pgs_cons (pg_name (i := 3) sc_LdueQ.nd rfl (by first | exact Or.inl rfl | exact Or.inr rfl)) (pgs_cons (pg_name (i := 4) sc_LdueQ.nd rfl (by first | exact Or.inl rfl | exact Or.inr rfl)) pgs_nil))) (pss_cons (ps_setLc (i := 5) (own := [("_law_one_here", 6)]) (g := (gName 6)) (tt := (tOr (tNot (tB (tCB (rIsi (cfg K).K) (tCons (tVar 6) (tCons (tC (.ty "tuple")) tNil))))) (tTest (tOp (rI0 fun i j => .bl (decide (i < j))) (tOp (rIxT (cfg K).K) (tVar 6) (tC (.int 0))) (tC (.int 0)))))) (by rfl) sc_LdueQ.nd rfl rfl (sw_true rfl rfl rfl (by decide +kernel)) (pi_list (pv 3)) (blkOk_by (own := [("_law_one_here", 6)]) (N := ["_law_plan", "_law_first", "_law_second", "_law_row", "_law_share", "_law_bad", "_law_one_here", "_law_at"]) (sc := defScope s_LdueQ) (by decide +kernel)) (fun _ _ _ _ _ => (pg_name (i := 6) sc_LdueQ.nd rfl (by first | exact Or.inl rfl | exact Or.inr rfl))) (fun _ _ _ _ _ => (pts_one (PW.pt (pw_or (pt_not (pt_val (pe_callB call_isi (by rfl) X.f_isinstance (by decide +kernel) (pa_cons (pv 6) (pa_cons (pe_bltn (by rfl) X.f_tuple (by decide +kernel) rfl) pa_nil))))) (pw_or1 (pt_cmpR op_lt (pe_ix ix_tup (pv 6) pe_int (fun _ _ => rfl)) pe_int (nomark _))))))) (fun _ _ _ _ _ => (pv 6)))
      (pss_one (ps_if (PW.pt (pw_or (pt_cmpR (op_neD hr.units) (pv 5) (pe_lst pa_nil) (nomark _)) (pw_or1 (pt_cmpR (op_neD hr.units) (pe_call (ok_Ltotal X) (hr.mono (by decide)) (by rfl) X.g_Ltotal X.F_Ltotal.kp (b_Ltotal X) .nil pass0 (pa_cons (pv 3) pa_nil)) (pv 4) (nomark _))))) (pss_one (ps_ret pe_bl)) pss_nil))))
      (pss_one (ps_ret (pe_cmpR (op_eqD hr.units) (pe_lc (own := [("_law_at", 7)]) (g := (gName 7)) (tt := tYes) (by rfl) sc_LdueQ.nd (pi_range1 (by rfl) X.f_range (pa_cons (pe_callB call_len (by rfl) X.f_len (by decide +kernel) (pa_cons (pv 2) pa_nil)) pa_nil)) (blkOk_by (own := [("_law_at", 7)]) (N := ["_law_plan", "_law_first", "_law_second", "_law_row", "_law_share", "_law_bad", "_law_one_here", "_law_at"]) (sc := defScope s_LdueQ) (by decide +kernel)) (fun _ _ _ _ _ => (pg_name (i := 7) sc_LdueQ.nd rfl (by first | exact Or.inl rfl | exact Or.inr rfl))) (fun _ _ _ _ _ => pts_nil) (fun _ _ _ _ _ => (pe_call (ok_Ltotal X) (hr.mono (by decide)) (by rfl) X.g_Ltotal X.F_Ltotal.kp (b_Ltotal X) .nil pass0 (pa_cons (pe_lc (own := [("_law_row", 3)]) (g := (gName 3)) (tt := tYes) (by rfl) sc_LdueQ.nd (pi_list (pv 0)) (blkOk_by (own := [("_law_row", 3)]) (by rfl)) (fun _ _ _ _ _ => (pg_name (i := 3) sc_LdueQ.nd rfl (by first | exact Or.inl rfl | exact Or.inr rfl))) (fun _ _ _ _ _ => pts_nil) (fun _ _ _ _ _ => (pe_ix ix_list (pv 3) (pv 7) (fun _ _ => rfl)))) pa_nil)))) (pv 2) (nomark _))))))
theorem b_law (X : Txt K mg) : Binds K (fdOf K (He.ga K "law")) ["_law_script"] [] := X.F_law.bindsN fun _ _ _ _ _ _ us hl => match us, hl with | [_], _ => rfl
theorem ok_law (X : Txt K mg) : FnOk P w K mg base CX0 7 (He.ga K "law") (fdOf K (He.ga K "law")) ["_law_script"] (spOf (cfg K) (c_law (cfg K))) := by
  obtain ⟨dsShare1, hdShare1, bdShare1⟩ := b_Share___init___1 X
  refine X.F_law.ok sc_law (fun vs H Q E h => spOf_len len_law h) (fun cdv A outer s H vs Q E hr h => ⟨t_law (cfg K) E, PSs.nox ?_, fn_go (pure_law (sh_ok X)) vs H Q E h⟩)
  exact (pss_cons (ps_for PassesOwn.never rfl (pi_list (pe_op op_cat (pe_slice sl_list (pv 0) po_none (po_some pe_int)) (pe_lst (pa_cons pe_int (pa_cons pe_int pa_nil))))) (pg_name (i := 1) sc_law.nd rfl (by first | exact Or.inl rfl | exact Or.inr rfl)) (pss_cons (ps_set (i := 2) sc_law.nd rfl (by first | exact Or.inl rfl | exact Or.inr rfl) (pe_call (ok_Lwell X) (hr.mono (by decide)) (by rfl) X.g_Lwell X.F_Lwell.kp (b_Lwell X) .nil pass0 (pa_cons (pv 1) pa_nil)))
      (pss_cons (ps_set (i := 3) sc_law.nd rfl (by first | exact Or.inl rfl | exact Or.inr rfl) (pe_call (ok_Lone X) (hr.mono (by decide)) (by rfl) X.g_Lone X.F_Lone.kp (b_Lone X) .nil pass0 (pa_cons (pv 2) (pa_cons (pe_lst (pa_cons pe_int (pa_cons pe_int (pa_cons pe_int (pa_cons pe_int pa_nil))))) pa_nil))))
      (pss_cons (ps_set (i := 4) sc_law.nd rfl (by first | exact Or.inl rfl | exact Or.inr rfl) (pe_call (ok_Lheap X) (hr.mono (by decide)) (by rfl) X.g_Lheap X.F_Lheap.kp (b_Lheap X) .nil pass0 (pa_cons (pv 2) (pa_cons (pe_op op_add pe_int (pe_call (ok_Ldraw X) (hr.mono (by decide)) (by rfl) X.g_Ldraw X.F_Ldraw.kp (b_Ldraw X) .nil pass0 (pa_cons (pv 2) (pa_cons (pv 3) pa_nil)))) pa_nil))))
      (pss_cons (ps_set (i := 5) sc_law.nd rfl (by first | exact Or.inl rfl | exact Or.inr rfl) (pe_call (ok_Lheap X) (hr.mono (by decide)) (by rfl) X.g_Lheap X.F_Lheap.kp (b_Lheap X) .nil pass0 (pa_cons (pv 2) (pa_cons (pe_op op_add pe_int (pe_call (ok_Ldraw X) (hr.mono (by decide)) (by rfl) X.g_Ldraw X.F_Ldraw.kp (b_Ldraw X) .nil pass0 (pa_cons (pv 2) (pa_cons (pv 3) pa_nil)))) pa_nil))))
      (pss_cons (ps_set (i := 6) sc_law.nd rfl (by first | exact Or.inl rfl | exact Or.inr rfl) (pe_call (ok_Lfilled X) (hr.mono (by decide)) (by rfl) X.g_Lfilled X.F_Lfilled.kp (b_Lfilled X) .nil pass0 (pa_cons (pv 2) (pa_cons (pv 4) (pa_cons (pv 5) pa_nil)))))
      (pss_cons (ps_set (i := 7) sc_law.nd rfl (by first | exact Or.inl rfl | exact Or.inr rfl) (pe_tup (pa_cons (pe_call (ok_Lshares X) (hr.mono (by decide)) (by rfl) X.g_Lshares X.F_Lshares.kp (b_Lshares X) .nil pass0 (pa_cons (pv 4) pa_nil)) (pa_cons (pe_call (ok_Lshares X) (hr.mono (by decide)) (by rfl) X.g_Lshares X.F_Lshares.kp (b_Lshares X) .nil pass0 (pa_cons (pv 5) pa_nil)) pa_nil))))
      (pss_cons (ps_if (pt_cmpR op_isnot_bl (pe_call (ok_is_plan X) (hr.mono (by decide)) (by rfl) X.g_is_plan X.F_is_plan.kp (b_is_plan X) .nil pass0 (pa_cons (pe_call (ok_LmadeQ X) (hr.mono (by decide)) (by rfl) X.g_LmadeQ X.F_LmadeQ.kp (b_LmadeQ X) .nil pass0 (pa_cons (pv 6) pa_nil)) (pa_cons (pe_ix ix_tup (pv 7) pe_int (fun _ _ => rfl)) (pa_cons (pe_ix ix_tup (pv 7) pe_int (fun _ _ => rfl)) pa_nil)))) pe_bl (nomark _)) (pss_one (ps_ret pe_bl)) pss_nil)
      (pss_cons (ps_for PassesOwn.never rfl (pi_range1 (by rfl) X.f_range (pa_cons pe_int pa_nil)) (pg_name (i := 8) sc_law.nd rfl (by first | exact Or.inl rfl | exact Or.inr rfl)) (pss_cons (ps_set (i := 10) sc_law.nd rfl (by first | exact Or.inl rfl | exact Or.inr rfl) (pv 6))
      (pss_cons (ps_for PassesOwn.never rfl (pi_range1 (by rfl) X.f_range (pa_cons (pe_op op_add pe_int (pe_call (ok_Ldraw X) (hr.mono (by decide)) (by rfl) X.g_Ldraw X.F_Ldraw.kp (b_Ldraw X) .nil pass0 (pa_cons (pv 2) (pa_cons pe_int pa_nil)))) pa_nil)) (pg_name (i := 11) sc_law.nd rfl (by first | exact Or.inl rfl | exact Or.inr rfl)) (pss_one (ps_if (PW.pt (pw_and (pt_cmpR (op_neD hr.units) (pv 10) (pe_lst pa_nil) (nomark _)) (pw_and1 (pt_cmpR (op_eqD hr.units) (pe_lc (own := [("_law_row", 13)]) (g := (gName 13)) (tt := (tTest (tOp (rEqD (cfg K).K) (tVar 13) (tLst tNil)))) (by rfl) sc_law.nd (pi_list (pv 10)) (blkOk_by (own := [("_law_row", 13)]) (N := ["_law_script", "_law_cell", "_law_well_here", "_law_most", "_law_first", "_law_second", "_law_plan", "_law_heaps", "_law_turn", "_law_strange", "_law_odd", "_law_k", "_law_found", "_law_row"]) (sc := defScope s_law) (by decide +kernel)) (fun _ _ _ _ _ => (pg_name (i := 13) sc_law.nd rfl (by first | exact Or.inl rfl | exact Or.inr rfl))) (fun _ _ _ _ _ => (pts_one (pt_cmpR (op_eqD hr.units) (pv 13) (pe_lst pa_nil) (nomark _)))) (fun _ _ _ _ _ => (pv 13))) (pe_lst pa_nil) (nomark _))))) (pss_one (ps_set (i := 10) sc_law.nd rfl (by first | exact Or.inl rfl | exact Or.inr rfl) (pe_call (ok_LotherQ X) (hr.mono (by decide)) (by rfl) X.g_LotherQ X.F_LotherQ.kp (b_LotherQ X) .nil pass0 (pa_cons (pv 2) (pa_cons (pv 10) pa_nil))))) pss_nil)))
      (pss_cons (ps_set (i := 12) sc_law.nd rfl (by first | exact Or.inl rfl | exact Or.inr rfl) (pe_call (ok_is_plan X) (hr.mono (by decide)) (by rfl) X.g_is_plan X.F_is_plan.kp (b_is_plan X) .nil pass0 (pa_cons (pe_call (ok_LmadeQ X) (hr.mono (by decide)) (by rfl) X.g_LmadeQ X.F_LmadeQ.kp (b_LmadeQ X) .nil pass0 (pa_cons (pv 10) pa_nil)) (pa_cons (pe_ix ix_tup (pv 7) pe_int (fun _ _ => rfl)) (pa_cons (pe_ix ix_tup (pv 7) pe_int (fun _ _ => rfl)) pa_nil)))))
      (pss_one (ps_if (PW.pt (pw_or (pt_not (pt_val (pe_callB call_isi (by rfl) X.f_isinstance (by decide +kernel) (pa_cons (pv 12) (pa_cons (pe_bltn (by rfl) X.f_bool (by decide +kernel) rfl) pa_nil))))) (pw_or1 (pt_cmpR op_ne (pv 12) (pe_call (ok_LdueQ X) (hr.mono (by decide)) (by rfl) X.g_LdueQ X.F_LdueQ.kp (b_LdueQ X) .nil pass0 (pa_cons (pv 10) (pa_cons (pv 4) (pa_cons (pv 5) pa_nil)))) (nomark _))))) (pss_one (ps_ret pe_bl)) pss_nil))))))
      (pss_cons (ps_set (i := 9) sc_law.nd rfl (by first | exact Or.inl rfl | exact Or.inr rfl) (pe_lst (pa_cons pe_non (pa_cons pe_int (pa_cons pe_str (pa_cons pe_dnewK (pa_cons (pe_tup pa_nil) (pa_cons (pe_lst (pa_cons pe_non pa_nil)) (pa_cons (pe_lst (pa_cons (pe_lst (pa_cons pe_non pa_nil)) pa_nil)) (pa_cons (pe_callTy call_tuple_of (by rfl) X.f_tuple (by decide +kernel) (pa_cons (pe_call (ok_LmadeQ X) (hr.mono (by decide)) (by rfl) X.g_LmadeQ X.F_LmadeQ.kp (b_LmadeQ X) .nil pass0 (pa_cons (pv 6) pa_nil)) pa_nil)) (pa_cons (pe_make X.mk_Share (ok_Share___init__ X) (hr.mono (by decide)) (by rfl) X.g_Share bdShare1 hdShare1 passL (pa_cons pe_int pa_nil)) pa_nil)))))))))))
      (pss_cons (ps_expr (pe_bm PySem.F.plainAttrs_list PySem.F.slot_list_append PySem.F.type_list_append mt_append (pv 9) (pa_cons (pe_lc (own := [("_law_row", 13)]) (g := (gName 13)) (tt := tYes) (by rfl) sc_law.nd (pi_list (pe_call (ok_LmadeQ X) (hr.mono (by decide)) (by rfl) X.g_LmadeQ X.F_LmadeQ.kp (b_LmadeQ X) .nil pass0 (pa_cons (pv 6) pa_nil))) (blkOk_by (own := [("_law_row", 13)]) (N := ["_law_script", "_law_cell", "_law_well_here", "_law_most", "_law_first", "_law_second", "_law_plan", "_law_heaps", "_law_turn", "_law_strange", "_law_odd", "_law_k", "_law_found", "_law_row"]) (sc := defScope s_law) (by decide +kernel)) (fun _ _ _ _ _ => (pg_name (i := 13) sc_law.nd rfl (by first | exact Or.inl rfl | exact Or.inr rfl))) (fun _ _ _ _ _ => pts_nil) (fun _ _ _ _ _ => (pe_callTy call_tuple_of (by rfl) X.f_tuple (by decide +kernel) (pa_cons (pv 13) pa_nil)))) pa_nil)))
      (pss_cons (ps_if (pt_cmpR op_isnot_bl (pe_call (ok_is_plan X) (hr.mono (by decide)) (by rfl) X.g_is_plan X.F_is_plan.kp (b_is_plan X) .nil pass0 (pa_cons (pe_call (ok_Lone X) (hr.mono (by decide)) (by rfl) X.g_Lone X.F_Lone.kp (b_Lone X) .nil pass0 (pa_cons (pv 2) (pa_cons (pv 9) pa_nil))) (pa_cons (pe_ix ix_tup (pv 7) pe_int (fun _ _ => rfl)) (pa_cons (pe_ix ix_tup (pv 7) pe_int (fun _ _ => rfl)) pa_nil)))) pe_bl (nomark _)) (pss_one (ps_ret pe_bl)) pss_nil)
      (pss_one (ps_if (pt_cmpR (op_neG (nrG_tup (mon_list (mon_sh (cfg K))) (eqG_list (mon_sh (cfg K)) (eqG_sh (sh_ok X) (ok_Share___eq__ X) X.m_Share__eq__.at_ X.m_Share__eq__.fn (b_Share___eq__ X) pass0))) (hr.mono (by decide))) (pv 7) (pe_tup (pa_cons (pe_call (ok_Lshares X) (hr.mono (by decide)) (by rfl) X.g_Lshares X.F_Lshares.kp (b_Lshares X) .nil pass0 (pa_cons (pv 4) pa_nil)) (pa_cons (pe_call (ok_Lshares X) (hr.mono (by decide)) (by rfl) X.g_Lshares X.F_Lshares.kp (b_Lshares X) .nil pass0 (pa_cons (pv 5) pa_nil)) pa_nil))) (nomark _)) (pss_one (ps_ret pe_bl)) pss_nil))))))))))))))
      (pss_one (ps_ret pe_bl)))
end
theorem run (w : World) : HandSHeadRun.RunEq R (PySem.W.view R.prog [33]) hk ob 6000 loose w := by
  intro os
  kernel_rfl
end Lw
open PySem PySem.W PySem.Calls PyProof.Rows
theorem PySem.Challenge.cw_farbetween_k11_plans_judged_holds : PySem.Challenge.rw_farbetween_k11_plans_judged.Holds := by
  w_on; o_law
  refine HandSHeadRun.head_any (r := OpenLaw.row PySem.Challenge.rw_farbetween_k11_plans_judged) (q := view (OpenLaw.row PySem.Challenge.rw_farbetween_k11_plans_judged).prog [33]) (H := Lw.hk) (ob := Lw.ob) (M := 6000) (loose := Lw.loose) (d := HandSHeadRun.topDef (OpenLaw.row PySem.Challenge.rw_farbetween_k11_plans_judged).prog 33) (kwd := []) Lw.ob_eq
    (by kernel_rfl) (fun s => by kernel_rfl) Lw.run (by kernel_rfl) (by kernel_rfl) (by kernel_rfl) (by rfl) (by first | assumption | decide +kernel) (by decide +kernel) ⟨rfl, rfl, rfl, rfl, rfl, by decide +kernel⟩ ?hw ?hc
  case hw => w_witness2
  case hc =>
    refine L2.walk_ofE (l := PySem.Challenge.rw_farbetween_k11_plans_judged) (n := 63) (k := 7) (x := "_law_script") (CX := L2.CX0) rfl (by decide) (by kernel_rfl) ⟨rfl, by decide, by decide⟩ ?F (fun _ _ _ _ z => z)
    intro w mg fa h Y G hmg0
    obtain ⟨K, KX, c⟩ := Y
    have hmg : mg ("law" : PySem.Str) = some (.ref fa) := by
      have e : (HandSHeadRun.topDef (OpenLaw.row PySem.Challenge.rw_farbetween_k11_plans_judged).prog 33).name = ("law" : PySem.Str) := by kernel_rfl
      rw [← e]
      exact hmg0
    have X := Lw.txt_of KX G c
    have e := hmg.symm.trans X.g_law
    cases e
    exact ⟨K, _, _, KX, fun s v => (L2.FunD.bindsA (ps := ["_law_script"]) X.F_law fun _ _ _ _ _ _ us hl => match us, hl with | [_], _ => rfl) s [v] rfl, fun H a ns hl _ hS => Pw.law_start hl hS, fun base _ _ => Lw.ok_law X⟩
